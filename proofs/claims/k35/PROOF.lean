import PyProof.Rows.All
import Wide.All
import OpenK.AllK
import Wide.FinOn
import HandS.ForMost
import HandS.Flow
import HandS.Wide
import HandS.SortRule
import HandS.TupMul
import HandS.TupAny
import HandS.Exc
import HandS.ExcOwn
import HandS.ExcIs
import HandS.HotCalls
import HandS.TupLe
import HandS.Conv
import HandS.Style
import HandS.Text
import HandS.RaiseMore
import KE.KSortTupAny
import HandS.TupSets
import KE.KeyNested
import HandS.HeadHook1
import HandS.IsInst
import HandS.Rev
import PyProof.SeqIndex
import KE.DataFind
import KE.KRevSl
import KE.GoesMore
import HandS.Iter
import HandS.Zip
import HandS.TryOnly
import HandS.Defaults
import HandS.Ends
import HandS.EndBits
import HandS.Head0
import HandS.Head1
import HandS.Head2
import HandS.HeadEnd
import HandS.HeadHook2
import PySem.Challenge.RW_lettermoat_k35_claims_that_grow
set_option Elab.async false
set_option linter.all false
set_option autoImplicit false
set_option maxRecDepth 100000
set_option maxHeartbeats 8000000
/-! data, a small syntax, its interpreter -/
namespace G
open PySem

inductive D where
  | non | bl (b : Bool) | int (i : Int) | str (x : List Nat) | tup (xs : List D) | lst (xs : List D)
  | dic (ks vs : List D) | ins (c : Nat) (fs : List D) | fn (f : Nat) | cls (c : Nat)
  deriving Inhabited

mutual
def D.beq : D → D → Bool
  | .non, .non => true
  | .bl a, .bl b => a == b
  | .int a, .int b => a == b
  | .str a, .str b => a == b
  | .tup a, .tup b => D.beqL a b
  | .lst a, .lst b => D.beqL a b
  | .dic a b, .dic a' b' => D.beqL a a' && D.beqL b b'
  | .ins c a, .ins c' b => c == c' && D.beqL a b
  | .fn a, .fn b => a == b
  | .cls a, .cls b => a == b
  | _, _ => false
def D.beqL : List D → List D → Bool
  | [], [] => true
  | x :: xs, y :: ys => D.beq x y && D.beqL xs ys
  | _, _ => false
end
mutual
theorem D.beq_eq : ∀ {a b : D}, D.beq a b = true → a = b
  | .non, b, h => by cases b <;> simp_all [D.beq]
  | .bl _, b, h => by cases b <;> simp_all [D.beq]
  | .int _, b, h => by cases b <;> simp_all [D.beq]
  | .str _, b, h => by cases b <;> simp_all [D.beq]
  | .tup xs, b, h => by
    cases b <;> simp [D.beq] at h
    rw [D.beqL_eq h]
  | .lst xs, b, h => by
    cases b <;> simp [D.beq] at h
    rw [D.beqL_eq h]
  | .dic xs ys, b, h => by
    cases b <;> simp [D.beq] at h
    rw [D.beqL_eq h.1, D.beqL_eq h.2]
  | .ins c xs, b, h => by
    cases b <;> simp [D.beq] at h
    rw [D.beqL_eq h.2, h.1]
  | .fn _, b, h => by cases b <;> simp_all [D.beq]
  | .cls _, b, h => by cases b <;> simp_all [D.beq]
theorem D.beqL_eq : ∀ {a b : List D}, D.beqL a b = true → a = b
  | [], [], _ => rfl
  | x :: xs, y :: ys, h => by
    simp only [D.beqL, Bool.and_eq_true] at h
    rw [D.beq_eq h.1, D.beqL_eq h.2]
  | [], _ :: _, h => by simp [D.beqL] at h
  | _ :: _, [], h => by simp [D.beqL] at h
end
mutual
theorem D.beq_refl : ∀ (a : D), D.beq a a = true
  | .non => rfl
  | .bl b => by simp [D.beq]
  | .int _ => by simp [D.beq]
  | .str _ => by simp [D.beq]
  | .tup xs => by simp only [D.beq]; exact D.beqL_refl xs
  | .lst xs => by simp only [D.beq]; exact D.beqL_refl xs
  | .dic xs ys => by simp only [D.beq, D.beqL_refl xs, D.beqL_refl ys, Bool.and_self]
  | .ins c xs => by simp only [D.beq, D.beqL_refl xs, beq_self_eq_true, Bool.and_self]
  | .fn _ => by simp [D.beq]
  | .cls _ => by simp [D.beq]
theorem D.beqL_refl : ∀ (a : List D), D.beqL a a = true
  | [] => rfl
  | x :: xs => by simp only [D.beqL, D.beq_refl x, D.beqL_refl xs, Bool.and_self]
end
instance : DecidableEq D := fun a b => if h : D.beq a b = true then .isTrue (D.beq_eq h) else .isFalse fun e => h (e ▸ D.beq_refl a)

inductive Tg where
  | nm (i : Nat) | tup (ts : List Tg)

inductive Bi where
  | len | tuple | list | sorted | range | all | any | sum | max | min | int | str | abs | enum | zip | rev | sorset | lenset
  deriving DecidableEq

inductive Ex where
  | nm (i : Nat)
  | k (d : D)
  | gc (x : List Nat) (d : D)
  | tup (es : List Ex)
  | lst (es : List Ex)
  | bin (op : Operator) (a b : Ex)
  | neg (a : Ex)
  | cmp (op : CmpOp) (a b : Ex)
  | ch (o1 o2 : CmpOp) (a b c : Ex)
  | and (es : List Ex)
  | or (es : List Ex)
  | not (a : Ex)
  | ife (c a b : Ex)
  | ix (a i : Ex)
  | sl (a : Ex) (lo hi : Option Ex)
  | st (a : Ex) (lo : Option Ex) (k : Int)
  | call (f : Nat) (es : List Ex)
  | bi (b : Bi) (es : List Ex)
  | isi (a : Ex) (ts : List Nat)
  | mt (m : Nat) (a : Ex) (es : List Ex)
  | mu (m : Nat) (i : Nat) (es : List Ex)
  | lc (own : List Nat) (elt : Ex) (tg : Tg) (it : Ex) (c : Option Ex)
  | itr (b : Bi) (es : List Ex)
  | tupI (b : Bi) (es : List Ex)
  | callx (f : Nat) (es : List Ex)
  | callf (f : Nat) (es : List Ex) (e : Ex)
  | isx (i : Nat) (yes : List Nat)

inductive Sm where
  | asg (tg : Tg) (ow : Bool) (e : Ex)
  | seti (i : Nat) (j : Ex) (e : Ex)
  | aug (i : Nat) (op : Operator) (e : Ex)
  | ex (e : Ex)
  | ret (e : Ex)
  | ife (c : Ex) (a b : List Sm)
  | whl (c : Ex) (b : List Sm)
  | for (tg : Tg) (it : Ex) (b : List Sm)
  | pas
  | bad
  | rai (c : Nat)
  | raiv (c : Nat) (e : Ex)
  | tri (b : List Sm) (i : Nat) (hs : List Nat) (u : List Sm)

inductive SV where
  | val (d : D) | own (d : D)
abbrev En := List (Option SV)
inductive R (α : Type) where
  | ok (a : α) | exc (c : Nat) (ρ : En) | bad
def R.bind {α β : Type} : R α → (α → R β) → R β
  | .ok a, f => f a
  | .exc c ρ, _ => .exc c ρ
  | .bad, _ => .bad
inductive Od where
  | s (i : Nat) | v (d : D)
inductive CR where
  | ok (d : D) (fr : Bool) (outs : List D) | exc (c : Nat) (outs : List D) | bad

/-! ### operations on data -/
def SV.d : SV → D
  | .val d => d
  | .own d => d
def der (ρ : En) : Od → Option D
  | .v d => some d
  | .s i => match ρ[i]? with
    | some (some v) => some v.d
    | _ => none
def ders (ρ : En) : List Od → Option (List D)
  | [] => some []
  | o :: os => (der ρ o).bind fun d => (ders ρ os).map (d :: ·)
def truD : D → Option Bool
  | .non => some false
  | .bl b => some b
  | .int i => some (i != 0)
  | .str x => some (!x.isEmpty)
  | .tup xs => some (!xs.isEmpty)
  | .lst xs => some (!xs.isEmpty)
  | _ => none
mutual
/-- Python's == -/
def eqv : D → D → Bool
  | .non, .non => true
  | .bl a, .bl b => a == b
  | .bl a, .int j => (if a then 1 else 0) == j
  | .int i, .bl b => i == (if b then 1 else 0)
  | .int i, .int j => i == j
  | .str x, .str y => x == y
  | .lst xs, .lst ys => eqvL xs ys
  | .tup xs, .tup ys => eqvL xs ys
  | _, _ => false
def eqvL : List D → List D → Bool
  | [], [] => true
  | x :: xs, y :: ys => eqv x y && eqvL xs ys
  | _, _ => false
end
mutual
/-- nested so deep -/
def dep : D → Nat
  | .tup xs => depL xs + 1
  | .lst xs => depL xs + 1
  | _ => 0
def depL : List D → Nat
  | [] => 0
  | x :: xs => max (dep x) (depL xs)
end
mutual
/-- data that may be compared: no dicts, instances, functions -/
def pl : D → Bool
  | .non | .bl _ | .int _ | .str _ => true
  | .tup xs => plL xs
  | .lst xs => plL xs
  | _ => false
def plL : List D → Bool
  | [] => true
  | x :: xs => pl x && plL xs
end
mutual
/-- no list within -/
def flat : D → Bool
  | .non | .bl _ | .int _ | .str _ | .fn _ | .cls _ => true
  | .tup xs => flatL xs
  | _ => false
def flatL : List D → Bool
  | [] => true
  | x :: xs => flat x && flatL xs
end
/-- a letter: a text and a number -/
def lett : D → Bool
  | .tup [.str _, .int _] => true
  | _ => false
/-- letters: such a tuple is asked for an item's place -/
def lets : List D → Bool
  | [] => false
  | x :: xs => lett x && xs.all lett
/-- no pair of letters -/
def zok : List D → List D → Bool
  | x :: xs, y :: ys => !(lett x && lett y) && zok xs ys
  | _, _ => true
def cmpable (a b : D) : Bool := pl a && pl b && decide (dep a ≤ 60) && decide (dep b ≤ 60)
mutual
/-- Python's <, of what can be compared -/
def ltB : D → D → Bool
  | .int i, .int j => decide (i < j)
  | .str x, .str y => decide (x < y)
  | .tup xs, .tup ys => ltBL xs ys
  | _, _ => false
def ltBL : List D → List D → Bool
  | _, [] => false
  | [], _ :: _ => true
  | x :: xs, y :: ys => if eqv x y then ltBL xs ys else ltB x y
end
mutual
/-- can be compared -/
def cmpb : D → D → Bool
  | .int _, .int _ => true
  | .str _, .str _ => true
  | .tup xs, .tup ys => cmpbL xs ys
  | _, _ => false
def cmpbL : List D → List D → Bool
  | [], _ => true
  | _, [] => true
  | x :: xs, y :: ys => (eqv x y || cmpb x y) && cmpbL xs ys
end
def line : Nat := 16777216
def inD (x : D) : List D → Bool
  | [] => false
  | y :: ys => eqv y x || inD x ys
def eqC (a b : D) : Option Bool := if cmpable a b then some (eqv a b) else none
def ltC (a b : D) : Option Bool := if cmpable a b && cmpb a b then some (ltB a b) else none
def leC : D → D → Option Bool
  | .int i, .int j => some (decide (i ≤ j))
  | _, _ => none
/-- > : of ints, texts -/
def gtC : D → D → Option Bool
  | .int i, .int j => some (decide (j < i))
  | .str x, .str y => some (decide (y < x))
  | _, _ => none
def isNon : D → Bool
  | .non => true
  | _ => false
def isC : D → D → Option Bool
  | a, .non => some (isNon a)
  | .bl c, .bl b => some (decide (c = b))
  | .tup _, .bl _ => some false
  | .lst _, .bl _ => some false
  | .int _, .bl _ => some false
  | .str _, .bl _ => some false
  | .non, .bl _ => some false
  | _, _ => none
def inC : D → D → Option Bool
  | .str [c], .str y => some (decide (c ∈ y))
  | a, .tup ys => if cmpable a (.tup ys) then some (inD a ys) else none
  | a, .lst ys => if cmpable a (.lst ys) then some (inD a ys) else none
  | _, _ => none
def cmpD (op : CmpOp) (a b : D) : Option Bool :=
  match op with
  | .Eq => eqC a b
  | .NotEq => (eqC a b).map (!·)
  | .Lt => ltC a b
  | .Gt => gtC a b
  | .LtE => leC a b
  | .GtE => leC b a
  | .Is => isC a b
  | .IsNot => (isC a b).map (!·)
  | .In => inC a b
  | .NotIn => (inC a b).map (!·)
def rep (n : Nat) (xs : List D) : List D := (List.replicate n xs).flatten
def addD : D → D → Option (D × Bool)
  | .int i, .int j => some (.int (i + j), false)
  | .str x, .str y => if x.length + y.length ≤ line then some (.str (x ++ y), false) else none
  | .lst x, .lst y => if x.length + y.length ≤ line then some (.lst (x ++ y), true) else none
  | .tup x, .tup y => if x.length + y.length ≤ line then some (.tup (x ++ y), false) else none
  | _, _ => none
def subD : D → D → Option (D × Bool)
  | .int i, .int j => some (.int (i - j), false)
  | _, _ => none
def mulD : D → D → Option (D × Bool)
  | .int i, .int j => if i.natAbs.log2 + j.natAbs.log2 < 134217720 then some (.int (i * j), false) else none
  | .lst x, .int j => if x.length * j.toNat ≤ line ∧ -(2 ^ 63) ≤ j ∧ j < 2 ^ 63 then some (.lst (rep j.toNat x), true) else none
  | .tup x, .int j => if ((0 < x.length ∧ x.length ≤ 1000) ∧ 2 ≤ j ∧ j ≤ 1000) ∧ lets x = false then some (.tup (rep j.toNat x), false) else if 0 < x.length ∧ j = 1 then some (.tup x, false) else if 0 < x.length ∧ j = 0 then some (.tup [], false) else none
  | _, _ => none
def divD : D → D → Option (D × Bool)
  | .int i, .int j => if 0 < j ∧ j.natAbs.log2 < 9000 then some (.int (i / j), false) else none
  | _, _ => none
def modD : D → D → Option (D × Bool)
  | .int i, .int j => if 0 < j then some (.int (i % j), false) else none
  | _, _ => none
def powD : D → D → Option (D × Bool)
  | .int i, .int j => if 0 ≤ j ∧ j ≤ 1000000 ∧ i.natAbs < 2 ^ 64 then some (.int (i ^ j.toNat), false) else none
  | _, _ => none
def binD : Operator → D → D → Option (D × Bool)
  | .Add => addD
  | .Sub => subD
  | .Mult => mulD
  | .FloorDiv => divD
  | .Mod => modD
  | .Pow => powD
  | _ => fun _ _ => none
/-- an index as a place -/
def ixn (n : Nat) (i : Int) : Option Nat :=
  if 0 ≤ i then (if i < n then some i.toNat else none) else (if 0 ≤ i + n then some (i + n).toNat else none)
def ixD : D → D → Option D
  | .lst xs, .int i => (ixn xs.length i).bind fun j => xs[j]?
  | .tup xs, .int i => (ixn xs.length i).bind fun j => xs[j]?
  | .str xs, .int i => (ixn xs.length i).bind fun j => (xs[j]?).map fun c => .str [c]
  | _, _ => none
/-- a slice's bound among n -/
def bnd (n d : Nat) : Option Int → Nat
  | none => d
  | some v => if v < 0 then (v + (n : Int)).toNat else min v.toNat n
def cut {α : Type} (xs : List α) (lo hi : Option Int) : List α := (xs.drop (bnd xs.length 0 lo)).take (bnd xs.length xs.length hi - bnd xs.length 0 lo)
def slD : D → Option Int → Option Int → Option (D × Bool)
  | .lst xs, lo, hi => some (.lst (cut xs lo hi), true)
  | .tup xs, lo, hi => some (.tup (cut xs lo hi), false)
  | .str xs, lo, hi => some (.str (cut xs lo hi), false)
  | _, _, _ => none
/-- the places of a[lo::k] among n -/
def stp (n : Nat) (lo : Option Int) (k : Int) : List Nat :=
  if 0 < k then (if bnd n 0 lo < n then (List.range ((n - bnd n 0 lo - 1) / k.toNat + 1)).map fun m => bnd n 0 lo + k.toNat * m else [])
  else (if 0 < n then (List.range ((n - 1) / (-k).toNat + 1)).map fun m => n - 1 - (-k).toNat * m else [])
def pk {α : Type} (f : List Nat) (xs : List α) : List α := f.filterMap fun m => xs[m]?
def stOk (lo : Option Int) (k : Int) : Bool := decide (1 < k) || (decide (k < 0) && lo.isNone)
def skD : D → Option Int → Int → Option (D × Bool)
  | .lst xs, lo, k => if stOk lo k then some (.lst (pk (stp xs.length lo k) xs), true) else none
  | .tup xs, lo, k => if stOk lo k then some (.tup (pk (stp xs.length lo k) xs), false) else none
  | _, _, _ => none
def itemsD : D → Option (List D)
  | .lst xs => some xs
  | .tup xs => some xs
  | .str xs => some (xs.map fun c => .str [c])
  | .dic ks _ => some ks
  | _ => none
def allCmp (xs : List D) : Bool := plL xs && decide (depL xs ≤ 50) && xs.all fun x => xs.all fun y => cmpb x y
/-- sorting is by a stable insertion from the right: put each before the later ones that are not below it -/
def insR (x : D) : List D → List D
  | [] => [x]
  | y :: ys => if ltB y x then y :: insR x ys else x :: y :: ys
def sortR : List D → List D
  | [] => []
  | x :: xs => insR x (sortR xs)
def dedup : List D → List D
  | [] => []
  | x :: xs => x :: (dedup xs).filter fun y => !eqv y x
def bools : List D → Option (List Bool)
  | [] => some []
  | .bl b :: r => (bools r).map (b :: ·)
  | _ :: _ => none
def intsD : List D → Option (List Int)
  | [] => some []
  | .int b :: r => (intsD r).map (b :: ·)
  | _ :: _ => none
def strsD : List D → Option (List (List Nat))
  | [] => some []
  | .str b :: r => (strsD r).map (b :: ·)
  | _ :: _ => none
def rangeL (lo : Int) : Nat → List D
  | 0 => []
  | n + 1 => .int lo :: rangeL (lo + 1) n
/-- lo, lo + c, .. -/
def rangeS (lo c : Int) : Nat → List D
  | 0 => []
  | n + 1 => .int lo :: rangeS (lo + c) c n
def enumL (k : Int) : List D → List D
  | [] => []
  | x :: xs => .tup [.int k, x] :: enumL (k + 1) xs
def zipL : List D → List D → List D
  | x :: xs, y :: ys => .tup [x, y] :: zipL xs ys
  | _, _ => []
def figs : List Nat → Option Nat
  | [] => none
  | xs => xs.foldl (fun a c => a.bind fun n => if 48 ≤ c ∧ c ≤ 57 then some (n * 10 + (c - 48)) else none) (some 0)
def smallI (i : Int) : Bool := decide (-(2 ^ 62) ≤ i) && decide (i < 2 ^ 62)
def pow128 : Nat := 340282366920938463463374607431768211456
def lenD : List D → Option (D × Bool)
  | [.str x] => some (.int x.length, false)
  | [.tup x] => some (.int x.length, false)
  | [.lst x] => some (.int x.length, false)
  | _ => none
def tupleD : List D → Option (D × Bool)
  | [.lst x] => some (.tup x, false)
  | [.tup x] => some (.tup x, false)
  | _ => none
def listD : List D → Option (D × Bool)
  | [.lst x] => some (.lst x, true)
  | [.tup x] => some (.lst x, true)
  | _ => none
def rangeD : List D → Option (D × Bool)
  | [.int n] => if smallI n then some (.lst (rangeL 0 n.toNat), false) else none
  | [.int a, .int b] => if smallI a && smallI b then some (.lst (rangeL a (b - a).toNat), false) else none
  | _ => none
def allD : List D → Option (D × Bool)
  | [.lst x] => (bools x).map fun bs => (.bl (bs.all id), false)
  | _ => none
def anyD : List D → Option (D × Bool)
  | [.lst x] => (bools x).map fun bs => (.bl (bs.any id), false)
  | _ => none
def sumD : List D → Option (D × Bool)
  | [.lst x] => (intsD x).map fun ns => (.int ns.sum, false)
  | _ => none
def maxD : List D → Option (D × Bool)
  | [.int i, .int j] => some (.int (if j > i then j else i), false)
  | _ => none
def minD : List D → Option (D × Bool)
  | [.int i, .int j] => some (.int (if j < i then j else i), false)
  | _ => none
def intD : List D → Option (D × Bool)
  | [.int i] => some (.int i, false)
  | [.bl b] => some (.int (if b then 1 else 0), false)
  | _ => none
/-- an int's figures -/
def strI (i : Int) : List Nat := (toString i).toList.map Char.toNat
def strD : List D → Option (D × Bool)
  | [.int i] => if i.natAbs.log2 < 1900 ∧ (strI i).length ≤ line then some (.str (strI i), false) else none
  | [.str x] => some (.str x, false)
  | _ => none
def absD : List D → Option (D × Bool)
  | [.int i] => some (.int (if i < 0 then -i else i), false)
  | _ => none
def enumD : List D → Option (D × Bool)
  | [x] => (itemsD x).map fun xs => (.lst (enumL 0 xs), false)
  | _ => none
def zipD : List D → Option (D × Bool)
  | [x, y] => (itemsD x).bind fun xs => (itemsD y).map fun ys => (.lst (zipL xs ys), false)
  | _ => none
def revD : List D → Option (D × Bool)
  | [x] => (itemsD x).map fun xs => (.lst xs.reverse, false)
  | _ => none
/-- what is gone over: range of two, zip, enumerate, reversed -/
def itD : Bi → List D → Option (List D)
  | .range, [.int a, .int b] => if smallI a && smallI b then some (rangeL a (b - a).toNat) else none
  | .range, [.int a, .int b, .int c] => if smallI a && smallI b && decide (0 < c) && decide (c < 1000000) then some (rangeS a c (if a < b then ((b - a - 1) / c + 1).toNat else 0)) else none
  | .zip, [.lst x, .lst y] => if zok x y then some (zipL x y) else none
  | .zip, [.tup x, .tup y] => if zok x y then some (zipL x y) else none
  | .enum, [.lst x] => some (enumL 0 x)
  | .enum, [.tup x] => some (enumL 0 x)
  | .rev, [.lst x] => some x.reverse
  | .rev, [.tup x] => some x.reverse
  | _, _ => none
/-- tuple(range(..)), tuple(reversed(..)) -/
def itT : Bi → List D → Option (List D)
  | .range, [.int n] => if smallI n && decide (n.toNat ≤ line) then some (rangeL 0 n.toNat) else none
  | .range, [.int a, .int b] => if smallI a && smallI b && decide ((b - a).toNat ≤ line) then some (rangeL a (b - a).toNat) else none
  | .rev, [.lst x] => if lets x.reverse then none else some x.reverse
  | _, _ => none
def tyK : D → Nat
  | .int _ => 1
  | .str _ => 2
  | .tup _ => 3
  | _ => 0
def fstK (t : Nat) : D → Bool
  | .tup (y :: _) => tyK y == t
  | _ => false
/-- all ints, all texts, or all tuples whose first items are all ints, texts, tuples -/
def srtK (xs : List D) : Bool := decide (xs.length < 2) || xs.all (fun x => tyK x == 1) || xs.all (fun x => tyK x == 2) || xs.all (fstK 1) || xs.all (fstK 2) || xs.all (fstK 3)
def sortedD : List D → Option (D × Bool)
  | [.lst xs] => if allCmp xs && srtK xs then some (.lst (sortR xs), true) else none
  | [.tup xs] => if allCmp xs && srtK xs then some (.lst (sortR xs), true) else none
  | _ => none
/-- equal ones are the same -/
def sameD (xs : List D) : Bool := xs.all fun x => xs.all fun y => !eqv x y || decide (x = y)
mutual
/-- may be a key -/
def kb : D → Bool
  | .non | .bl _ | .int _ | .str _ => true
  | .tup xs => kbL xs
  | _ => false
def kbL : List D → Bool
  | [] => true
  | x :: xs => kb x && kbL xs
end
/-- how many a set may have -/
def capD (xs : List D) : Nat := if xs.all (fun x => tyK x == 3) then 64 else 1000
/-- what a set may be made of, and sorted: fewer than 64 tuples, or ints, or texts -/
def setOk (xs : List D) : Bool := allCmp xs && srtK xs && kbL xs && decide (depL xs ≤ 8) && decide ((dedup xs).length + 1 < capD xs) && sameD xs && (xs.all (fun x => tyK x == 3) || xs.all fun x => tyK x == 1 || tyK x == 2)
def sorsetD : List D → Option (D × Bool)
  | [.lst xs] => if setOk xs then some (.lst (sortR (dedup xs)), true) else none
  | [.tup xs] => if setOk xs then some (.lst (sortR (dedup xs)), true) else none
  | _ => none
def lensetD : List D → Option (D × Bool)
  | [.lst xs] => if setOk xs then some (.int (dedup xs).length, false) else none
  | [.tup xs] => if setOk xs then some (.int (dedup xs).length, false) else none
  | _ => none
def biD : Bi → List D → Option (D × Bool)
  | .len => lenD
  | .tuple => tupleD
  | .list => listD
  | .sorted => sortedD
  | .range => rangeD
  | .all => allD
  | .any => anyD
  | .sum => sumD
  | .max => maxD
  | .min => minD
  | .int => intD
  | .str => strD
  | .abs => absD
  | .enum => enumD
  | .zip => zipD
  | .rev => revD
  | .sorset => sorsetD
  | .lenset => lensetD
/-- 0 int 1 bool 2 str 3 tuple 4 list -/
def isT1 : D → Nat → Bool
  | .int _, 0 => true
  | .bl _, 0 => true
  | .bl _, 1 => true
  | .str _, 2 => true
  | .tup _, 3 => true
  | .lst _, 4 => true
  | _, _ => false
def tyOk : D → Bool
  | .non | .bl _ | .int _ | .str _ | .tup _ | .lst _ => true
  | _ => false
/-- 0 join 1 split 2 partition 3 index 4 count 5 get -/
def joinL (s : List Nat) : List (List Nat) → List Nat
  | [] => []
  | [p] => p
  | p :: q :: r => p ++ (s ++ joinL s (q :: r))
def splitL (c : Nat) : List Nat → List (List Nat)
  | [] => [[]]
  | x :: xs => if x = c then [] :: splitL c xs else match splitL c xs with
    | [] => [[x]]
    | y :: ys => (x :: y) :: ys
def joinD : D → List D → Option (D × Bool)
  | .str s, [.lst xs] => (strsD xs).bind fun ys => if (ys.map List.length).sum + ys.length * s.length ≤ line then some (.str (joinL s ys), false) else none
  | _, _ => none
def splitD : D → List D → Option (D × Bool)
  | .str s, [.str [c]] => if s.length + 2 ≤ line ∧ c < 256 then some (.lst ((splitL c s).map D.str), true) else none
  | _, _ => none
/-- the first place of what equals d -/
def indexOf (d : D) : List D → Option Nat
  | [] => none
  | x :: xs => if eqv x d then some 0 else (indexOf d xs).map (· + 1)
def idxMD : D → List D → Option (D × Bool)
  | .lst xs, [d] => if cmpable d (.lst xs) then (indexOf d xs).map fun j => (.int (j : Nat), false) else none
  | .tup xs, [d] => if lets xs && cmpable d (.tup xs) then (indexOf d xs).map fun j => (.int (j : Nat), false) else none
  | _, _ => none
def mtD (m : Nat) : D → List D → Option (D × Bool) :=
  match m with
  | 0 => joinD
  | 1 => splitD
  | 3 => idxMD
  | _ => fun _ _ => none
/-- 0 append 1 extend 2 remove -/
def remD : D → List D → Option (D × D)
  | .lst xs, [d] => if cmpable d (.lst xs) then (indexOf d xs).map fun j => (.non, .lst (xs.eraseIdx j)) else none
  | _, _ => none
def appD : D → List D → Option (D × D)
  | .lst xs, [d] => if xs.length < line then some (.non, .lst (xs ++ [d])) else none
  | _, _ => none
def extD : D → List D → Option (D × D)
  | .lst xs, [.lst ys] => if xs.length + ys.length ≤ line then some (.non, .lst (xs ++ ys)) else none
  | _, _ => none
def popD : D → List D → Option (D × D)
  | .lst xs, [.int k] => if -(2 ^ 63) ≤ k ∧ k < 2 ^ 63 then (ixn xs.length k).bind fun j => (xs[j]?).map fun x => (x, .lst (xs.eraseIdx j)) else none
  | _, _ => none
def muD (m : Nat) : D → List D → Option (D × D) :=
  match m with
  | 0 => appD
  | 1 => extD
  | 2 => remD
  | 4 => popD
  | _ => fun _ _ => none

/-! ### the interpreter -/
def od (e : Ex) (ρ : En) (r : R (D × Bool × En)) : R (Od × En) :=
  match e with
  | .nm i => match ρ[i]? with
    | some (some _) => .ok (.s i, ρ)
    | _ => .bad
  | _ => r.bind fun x => .ok (.v x.1, x.2.2)
def frz1 (o : Od) (ρ : En) : En := match o with
  | .v _ => ρ
  | .s i => match ρ[i]? with
    | some (some (.own d)) => ρ.set i (some (.val d))
    | _ => ρ
def opt {α β : Type} (x : Option α) (f : α → R β) : R β :=
  match x with
  | some a => f a
  | none => .bad
/-- the arguments of a call; what is lent; what is shown -/
def mkArgs (ρ : En) : List Od → List Bool → Option (List SV × List Nat × List Nat)
  | [], _ => some ([], [], [])
  | .s i :: os, m :: ms => match ρ[i]?, m with
    | some (some (.own d)), true => (mkArgs ρ os ms).map fun (a, l, b) => (.own d :: a, i :: l, b)
    | some (some (.own d)), false => (mkArgs ρ os ms).map fun (a, l, b) => (.val d :: a, l, i :: b)
    | some (some (.val d)), false => (mkArgs ρ os ms).map fun (a, l, b) => (.val d :: a, l, b)
    | _, _ => none
  | .v d :: os, m :: ms => if m then none else (mkArgs ρ os ms).map fun (a, l, b) => (.val d :: a, l, b)
  | _ :: _, [] => none
def apart (l b : List Nat) : Bool := match l with
  | [] => true
  | i :: r => !r.contains i && !b.contains i && apart r b
def putAll (ρ : En) : List Nat → List D → En
  | i :: l, d :: ds => putAll (ρ.set i (some (.own d))) l ds
  | _, _ => ρ
def freeze (ρ : En) : List Nat → En
  | [] => ρ
  | i :: l => freeze (frz1 (.s i) ρ) l
def topFlat (d : D) (fr : Bool) : Bool := match fr, d with
  | true, .lst xs => flatL xs
  | _, _ => flat d
def callR (r : CR) (l b : List Nat) (ρ : En) : R (D × Bool × En) :=
  match r with
  | .ok d fr outs => if outs.length = l.length then .ok (d, fr, if b.isEmpty || (topFlat d fr && outs.all (topFlat · true)) then putAll ρ l outs else freeze (putAll ρ l outs) b) else .bad
  | .exc _ _ => .bad
  | .bad => .bad
/-- a call whose last argument is a new list, lent -/
def callRf (r : CR) (l b : List Nat) (ρ : En) : R (D × Bool × En) :=
  match r with
  | .ok d fr outs => if outs.length = l.length + 1 then .ok (d, fr, if b.isEmpty || (topFlat d fr && outs.all (topFlat · true)) then putAll ρ l outs else freeze (putAll ρ l outs) b) else .bad
  | _ => .bad
/-- a call that may raise: nothing is lent -/
def callX (r : CR) (l b : List Nat) (ρ : En) : R (D × Bool × En) :=
  match r with
  | .exc c outs => if l.isEmpty && outs.isEmpty then .exc c ρ else .bad
  | r => callR r l b ρ
mutual
/-- no exception in it -/
def noIns : D → Bool
  | .ins _ _ => false
  | .tup xs => noInsL xs
  | .lst xs => noInsL xs
  | .dic xs ys => noInsL xs && noInsL ys
  | _ => true
def noInsL : List D → Bool
  | [] => true
  | x :: xs => noIns x && noInsL xs
end
def noInsV : Option SV → Bool
  | some v => noIns v.d
  | none => true
def asgT : Tg → SV → En → Option En
  | .nm i, v, ρ => if i < ρ.length then some (ρ.set i (some v)) else none
  | .tup ts, v, ρ => match v.d with
    | .tup ds => asgTs ts ds ρ
    | .lst ds => asgTs ts ds ρ
    | _ => none
where asgTs : List Tg → List D → En → Option En
  | [], [], ρ => some ρ
  | t :: ts, d :: ds, ρ => (asgT t (.val d) ρ).bind fun ρ' => asgTs ts ds ρ'
  | _, _, _ => none
def wip (ρ : En) : List Nat → En
  | [] => ρ
  | v :: vs => (wip ρ vs).set v none
def isOwn : Option (Option SV) → Bool
  | some (some (.own _)) => true
  | _ => false
/-- ρ' with the slots of vs as they are in ρ -/
def back (ρ ρ' : En) : List Nat → En
  | [] => ρ'
  | v :: vs => match ρ[v]? with
    | some x => (back ρ ρ' vs).set v x
    | none => back ρ ρ' vs
/-- a walk's guard: the slot's list as it was -/
def guard (g : Option (Nat × List D)) (ρ : En) : Bool := match g with
  | none => true
  | some (i, ds) => match ρ[i]? with
    | some (some (.own d)) => decide (d = .lst ds)
    | some (some (.val d)) => decide (d = .lst ds)
    | _ => false
def lcL (g : Option (Nat × List D)) (own : List Nat) (turn : D → En → R (Option D × En)) : List D → En → R (List D × En)
  | [], ρ => if guard g ρ then .ok ([], ρ) else .bad
  | d :: ds, ρ => if guard g ρ then (turn d ρ).bind fun x => (lcL g own turn ds (wip x.2 own)).bind fun y => .ok (match x.1 with
      | some z => z :: y.1
      | none => y.1, y.2) else .bad
def srcOf (it : Ex) (ρ : En) (r : R (D × Bool × En)) : R (List D × Option (Nat × List D) × En) :=
  match it with
  | .nm i => match ρ[i]? with
    | some (some (.own (.lst ds))) => .ok (ds, some (i, ds), ρ)
    | some (some (.val d)) => opt (itemsD d) fun ds => .ok (ds, none, ρ)
    | _ => .bad
  | _ => r.bind fun x => opt (itemsD x.1) fun ds => .ok (ds, none, x.2.2)

section
variable (mf : Nat → Option (List Bool)) (cf : Nat → List SV → CR)
mutual
def evE : Ex → En → R (D × Bool × En)
  | .nm i, ρ => match ρ[i]? with
    | some (some (.val d)) => .ok (d, false, ρ)
    | some (some (.own d)) => .ok (d, false, ρ.set i (some (.val d)))
    | _ => .bad
  | .k d, ρ => .ok (d, false, ρ)
  | .gc _ d, ρ => .ok (d, false, ρ)
  | .tup es, ρ => (evVs es ρ).bind fun x => .ok (.tup x.1, false, x.2)
  | .lst es, ρ => (evVs es ρ).bind fun x => .ok (.lst x.1, true, x.2)
  | .bin op a b, ρ => (od a ρ (evE a ρ)).bind fun x => (od b x.2 (evE b x.2)).bind fun y =>
      opt (der y.2 x.1) fun p => opt (der y.2 y.1) fun q => opt (binD op p q) fun z => .ok (z.1, z.2, y.2)
  | .neg a, ρ => (od a ρ (evE a ρ)).bind fun x => match der x.2 x.1 with
      | some (.int i) => .ok (.int (-i), false, x.2)
      | _ => .bad
  | .cmp op a b, ρ => (od a ρ (evE a ρ)).bind fun x => (od b x.2 (evE b x.2)).bind fun y =>
      opt (der y.2 x.1) fun p => opt (der y.2 y.1) fun q => opt (cmpD op p q) fun z => .ok (.bl z, false, y.2)
  | .ch o1 o2 a b c, ρ => (od a ρ (evE a ρ)).bind fun x => (od b x.2 (evE b x.2)).bind fun y =>
      opt (der y.2 x.1) fun p => opt (der y.2 y.1) fun q => opt (cmpD o1 p q) fun z =>
        if z then (od c y.2 (evE c y.2)).bind fun u => opt (der u.2 y.1) fun q => opt (der u.2 u.1) fun r => opt (cmpD o2 q r) fun z => .ok (.bl z, false, u.2)
        else .ok (.bl false, false, y.2)
  | .and es, ρ => evA true es ρ
  | .or es, ρ => evA false es ρ
  | .not a, ρ => (od a ρ (evE a ρ)).bind fun x => opt ((der x.2 x.1).bind truD) fun b => .ok (.bl (!b), false, x.2)
  | .ife c a b, ρ => (od c ρ (evE c ρ)).bind fun x => opt ((der x.2 x.1).bind truD) fun t => if t then evE a x.2 else evE b x.2
  | .ix a i, ρ => (od a ρ (evE a ρ)).bind fun x => (od i x.2 (evE i x.2)).bind fun y =>
      opt (der y.2 x.1) fun p => opt (der y.2 y.1) fun q => opt (ixD p q) fun z => .ok (z, false, y.2)
  | .sl a lo hi, ρ => (od a ρ (evE a ρ)).bind fun x => (evB lo x.2).bind fun l => (evB hi l.2).bind fun h =>
      opt (der h.2 x.1) fun p => opt (slD p l.1 h.1) fun z => .ok (z.1, z.2, h.2)
  | .st a lo j, ρ => (od a ρ (evE a ρ)).bind fun x => (evB lo x.2).bind fun l => opt (der l.2 x.1) fun p => opt (skD p l.1 j) fun z => .ok (z.1, z.2, l.2)
  | .call f es, ρ => (evOs es ρ).bind fun x => opt (mf f) fun ms => opt (mkArgs x.2 x.1 ms) fun a =>
      if apart a.2.1 a.2.2 then callR (cf f a.1) a.2.1 a.2.2 x.2 else .bad
  | .bi b es, ρ => (evOs es ρ).bind fun x => opt (ders x.2 x.1) fun ds => opt (biD b ds) fun z => .ok (z.1, z.2, x.2)
  | .isi a ts, ρ => (od a ρ (evE a ρ)).bind fun x => opt (der x.2 x.1) fun p => if tyOk p then .ok (.bl (ts.any (isT1 p)), false, x.2) else .bad
  | .mt m a es, ρ => (od a ρ (evE a ρ)).bind fun x => opt (der x.2 x.1) fun p => (evOs es x.2).bind fun y =>
      opt (ders y.2 y.1) fun ds => if der y.2 x.1 = some p then opt (mtD m p ds) fun z => .ok (z.1, z.2, y.2) else .bad
  | .mu m i es, ρ => if isOwn (ρ[i]?) then (evVs es ρ).bind fun x => match x.2[i]? with
    | some (some (.own d)) => opt (muD m d x.1) fun z => .ok (z.1, false, x.2.set i (some (.own z.2)))
    | _ => .bad
    else .bad
  | .lc own elt tg it c, ρ => (srcOf it ρ (evE it ρ)).bind fun s =>
      if own.any (fun i => isOwn (s.2.2[i]?)) || decide (line ≤ s.1.length) then .bad else
      (lcL s.2.1 own (fun d ρ1 => opt (asgT tg (.val d) ρ1) fun ρ2 => (match c with
          | none => R.ok (true, ρ2)
          | some c => (od c ρ2 (evE c ρ2)).bind fun x => opt ((der x.2 x.1).bind truD) fun t => .ok (t, x.2)).bind fun t =>
          if t.1 then (evE elt t.2).bind fun z => .ok (some z.1, z.2.2) else .ok (none, t.2)) s.1 (wip s.2.2 own)).bind fun r =>
        .ok (.lst r.1, true, back s.2.2 r.2 own)
  | .itr b es, ρ => (evVs es ρ).bind fun x => opt (itD b x.1) fun z => .ok (.lst z, false, x.2)
  | .tupI b es, ρ => (evVs es ρ).bind fun x => opt (itT b x.1) fun z => .ok (.tup z, false, x.2)
  | .callx f es, ρ => (evOs es ρ).bind fun x => opt (mf f) fun ms => opt (mkArgs x.2 x.1 ms) fun a =>
      if apart a.2.1 a.2.2 then callX (cf f a.1) a.2.1 a.2.2 x.2 else .bad
  | .callf f es e, ρ => (evOs es ρ).bind fun x => (evE e x.2).bind fun y => if y.2.1 then opt (mf f) fun ms => opt (mkArgs y.2.2 x.1 ms) fun a =>
      if ms[x.1.length]? = some true ∧ apart a.2.1 a.2.2 = true then callRf (cf f (a.1 ++ [.own y.1])) a.2.1 a.2.2 y.2.2 else .bad else .bad
  | .isx i yes, ρ => match ρ[i]? with
    | some (some (.val (.ins c []))) => .ok (.bl (yes.contains c), false, ρ)
    | _ => .bad
def evA (isAnd : Bool) : List Ex → En → R (D × Bool × En)
  | [], _ => .bad
  | [e], ρ => (od e ρ (evE e ρ)).bind fun x => opt (der x.2 x.1) fun d => .ok (d, false, frz1 x.1 x.2)
  | e :: f :: es, ρ => (od e ρ (evE e ρ)).bind fun x => opt (der x.2 x.1) fun d => opt (truD d) fun t => if t = isAnd then evA isAnd (f :: es) x.2 else .ok (d, false, frz1 x.1 x.2)
def evOs : List Ex → En → R (List Od × En)
  | [], ρ => .ok ([], ρ)
  | e :: es, ρ => (od e ρ (evE e ρ)).bind fun x => (evOs es x.2).bind fun y => .ok (x.1 :: y.1, y.2)
def evVs : List Ex → En → R (List D × En)
  | [], ρ => .ok ([], ρ)
  | e :: es, ρ => (evE e ρ).bind fun x => (evVs es x.2.2).bind fun y => .ok (x.1 :: y.1, y.2)
def evB : Option Ex → En → R (Option Int × En)
  | none, ρ => .ok (none, ρ)
  | some e, ρ => (od e ρ (evE e ρ)).bind fun x => match der x.2 x.1 with
    | some (.int i) => .ok (some i, x.2)
    | _ => .bad
end
inductive Fl where
  | nx | rt (d : D) (fr : Bool)
def noInsF : Fl → Bool
  | .nx => true
  | .rt d _ => noIns d
def whileL (c : En → R (Bool × En)) (bd : En → R (Fl × En)) : Nat → En → R (Fl × En)
  | 0, _ => .bad
  | n + 1, ρ => (c ρ).bind fun t => if t.1 then (bd t.2).bind fun x => match x.1 with
      | .nx => whileL c bd n x.2
      | f => .ok (f, x.2) else .ok (.nx, t.2)
def forL (g : Option (Nat × List D)) (tg : Tg) (bd : En → R (Fl × En)) : List D → En → R (Fl × En)
  | [], ρ => if guard g ρ then .ok (.nx, ρ) else .bad
  | d :: ds, ρ => if guard g ρ then opt (asgT tg (.val d) ρ) fun ρ1 => (bd ρ1).bind fun x => match x.1 with
      | .nx => forL g tg bd ds x.2
      | f => .ok (f, x.2) else .bad
variable (W : Nat)
mutual
def exS : Sm → En → R (Fl × En)
  | .asg tg ow e, ρ => (evE mf cf e ρ).bind fun x => opt (asgT tg (if ow && x.2.1 then .own x.1 else .val x.1) x.2.2) fun ρ' => .ok (.nx, ρ')
  | .seti i j e, ρ => (evE mf cf e ρ).bind fun x => if isOwn (x.2.2[i]?) then (od j x.2.2 (evE mf cf j x.2.2)).bind fun y =>
      match y.2[i]?, der y.2 y.1 with
      | some (some (.own (.lst xs))), some (.int k) => opt (ixn xs.length k) fun n => .ok (.nx, y.2.set i (some (.own (.lst (xs.set n x.1)))))
      | _, _ => .bad
      else .bad
  | .aug i op e, ρ => match ρ[i]? with
      | some (some (.val (.int a))) => (od e ρ (evE mf cf e ρ)).bind fun y => match der y.2 y.1 with
        | some (.int b) => opt (binD op (.int a) (.int b)) fun z => opt (asgT (.nm i) (.val z.1) y.2) fun ρ' => .ok (.nx, ρ')
        | _ => .bad
      | _ => .bad
  | .ex e, ρ => (evE mf cf e ρ).bind fun x => .ok (.nx, x.2.2)
  | .ret e, ρ => match e with
    | .nm i => match ρ[i]? with
      | some (some (.own d)) => .ok (.rt d true, ρ.set i none)
      | some (some (.val d)) => .ok (.rt d false, ρ)
      | _ => .bad
    | e => (evE mf cf e ρ).bind fun x => .ok (.rt x.1 x.2.1, x.2.2)
  | .ife c a b, ρ => (od c ρ (evE mf cf c ρ)).bind fun x => opt ((der x.2 x.1).bind truD) fun t => if t then exSs a x.2 else exSs b x.2
  | .whl c b, ρ => whileL (fun ρ => (od c ρ (evE mf cf c ρ)).bind fun x => opt ((der x.2 x.1).bind truD) fun t => .ok (t, x.2)) (fun ρ => exSs b ρ) W ρ
  | .for tg it b, ρ => (srcOf it ρ (evE mf cf it ρ)).bind fun s => forL s.2.1 tg (fun ρ => exSs b ρ) s.1 s.2.2
  | .pas, ρ => .ok (.nx, ρ)
  | .bad, _ => .bad
  | .rai c, ρ => .exc c ρ
  | .raiv c e, ρ => (evE mf cf e ρ).bind fun x => .exc c x.2.2
  | .tri b i hs u, ρ => match exSs b ρ with
    | .exc c ρ1 => if hs.contains c then (if i < ρ1.length && ρ1.all noInsV then (match exSs u (ρ1.set i (some (.val (.ins c [])))) with
      | .ok x => if (x.2.set i none).all noInsV && noInsF x.1 then .ok (x.1, x.2.set i none) else .bad
      | _ => .bad) else .bad) else .exc c ρ1
    | r => r
def exSs : List Sm → En → R (Fl × En)
  | [], ρ => .ok (.nx, ρ)
  | s :: r, ρ => (exS s ρ).bind fun x => match x.1 with
    | .nx => exSs r x.2
    | f => .ok (f, x.2)
end
end
/-- a def: how many parameters and slots, which parameters are lent, its body -/
structure Fd where
  ps : Nat
  ns : Nat
  mu : List Bool
  body : List Sm
def outs (ρ : En) : Nat → List Bool → Option (List D)
  | _, [] => some []
  | i, m :: ms => if m then match ρ[i]? with
      | some (some (.own d)) => (outs ρ (i + 1) ms).map (d :: ·)
      | _ => none
    else outs ρ (i + 1) ms
def fin (f : Fd) (r : R (Fl × En)) : CR :=
  match r with
  | .ok (.nx, ρ) => match outs ρ 0 f.mu with
    | some o => .ok .non false o
    | none => .bad
  | .ok (.rt d fr, ρ) => match outs ρ 0 f.mu with
    | some o => .ok d fr o
    | none => .bad
  | .exc c ρ => match outs ρ 0 f.mu with
    | some o => .exc c o
    | none => .bad
  | .bad => .bad
/-- the lent ones are lent, the others not -/
def matchA : List SV → List Bool → Bool
  | [], [] => true
  | .own _ :: as, true :: ms => matchA as ms
  | .val _ :: as, false :: ms => matchA as ms
  | _, _ => false
def callF (T : Nat → Option Fd) (W : Nat) : Nat → Nat → List SV → CR
  | 0, _, _ => .bad
  | n + 1, f, args => match T f with
    | none => .bad
    | some fd => if args.length = fd.ps ∧ matchA args fd.mu = true then fin fd (exSs (fun g => (T g).map Fd.mu) (callF T W n) W fd.body (args.map some ++ List.replicate (fd.ns - fd.ps) none)) else .bad
end G

/-! an order on data; sorting by insertion -/
namespace G
open SrtO
/-- a datum's key: rank, number, text, items -/
inductive Q where
  | node (r : Nat) (i : Int) (x : List Nat) (l : List Q)
mutual
def key : D → Q
  | .non => .node 0 0 [] []
  | .bl b => .node 1 (if b then 1 else 0) [] []
  | .int i => .node 1 i [] []
  | .str x => .node 2 0 x []
  | .tup xs => .node 3 0 [] (keyL xs)
  | .lst xs => .node 4 0 [] (keyL xs)
  | _ => .node 5 0 [] []
def keyL : List D → List Q
  | [] => []
  | x :: xs => key x :: keyL xs
end
def sgn {α : Type} (lt : α → α → Bool) (x y : α) : Ordering := if lt x y then .lt else if lt y x then .gt else .eq
def oN (x y : Nat) : Ordering := sgn (fun a b => decide (a < b)) x y
def oI (x y : Int) : Ordering := sgn (fun a b => decide (a < b)) x y
def oT (x y : List Nat) : Ordering := sgn (fun a b => decide (a < b)) x y
mutual
def cq : Q → Q → Ordering
  | .node r i x l, .node s j y m => (oN r s).then ((oI i j).then ((oT x y).then (cqL l m)))
def cqL : List Q → List Q → Ordering
  | [], [] => .eq
  | [], _ :: _ => .lt
  | _ :: _, [] => .gt
  | x :: xs, y :: ys => (cq x y).then (cqL xs ys)
end
/-- what two steps tell of both together -/
def Tr : Ordering → Ordering → Ordering → Bool
  | .eq, b, r => r == b
  | a, .eq, r => r == a
  | .lt, .lt, r => r == .lt
  | .gt, .gt, r => r == .gt
  | _, _, _ => true
theorem tr_then : ∀ a b r a' b' r' : Ordering, Tr a b r = true → Tr a' b' r' = true → Tr (a.then a') (b.then b') (r.then r') = true := by
  intro a b r a' b' r' h h'
  cases a <;> cases b <;> cases r <;> first | (cases h; done) | (cases a' <;> cases b' <;> cases r' <;> first | rfl | cases h')
theorem then_swap : ∀ c d : Ordering, (c.then d).swap = c.swap.then d.swap := by intro c d; cases c <;> rfl
section
variable {α : Type} {lt : α → α → Bool} (irr : ∀ x, lt x x = false) (tr : ∀ x y z, lt x y = true → lt y z = true → lt x z = true) (tot : ∀ x y, lt x y = false → lt y x = false → x = y)
theorem sgn_swap (as : ∀ x y, lt x y = true → lt y x = false) (x y : α) : sgn lt y x = (sgn lt x y).swap := by
  unfold sgn
  cases h : lt x y <;> cases h' : lt y x <;> simp [Ordering.swap]
  have := as x y h
  rw [h'] at this; cases this
include irr tr tot in
theorem sgn_tr (x y z : α) : Tr (sgn lt x y) (sgn lt y z) (sgn lt x z) = true := by
  have as : ∀ x y, lt x y = true → lt y x = false := fun x y h => by
    cases q : lt y x with
    | false => rfl
    | true => have := tr _ _ _ h q; rw [irr] at this; cases this
  have c1 : ∀ x y, sgn lt x y = .lt ∧ lt x y = true ∨ sgn lt x y = .gt ∧ lt y x = true ∨ sgn lt x y = .eq ∧ x = y := fun x y => by
    unfold sgn
    cases h : lt x y with
    | true => simp
    | false =>
      cases h' : lt y x with
      | true => simp
      | false => simp [tot x y h h']
  have l : ∀ {x y}, lt x y = true → sgn lt x y = .lt := fun h => by simp [sgn, h]
  have g : ∀ {x y}, lt y x = true → sgn lt x y = .gt := fun h => by simp [sgn, h, as _ _ h]
  rcases c1 x y with ⟨e, h⟩ | ⟨e, h⟩ | ⟨e, rfl⟩
  · rcases c1 y z with ⟨e', h'⟩ | ⟨e', h'⟩ | ⟨e', rfl⟩
    · rw [e, e', l (tr _ _ _ h h')]; rfl
    · rw [e, e']; rfl
    · rw [e, e']; rfl
  · rcases c1 y z with ⟨e', h'⟩ | ⟨e', h'⟩ | ⟨e', rfl⟩
    · rw [e, e']; rfl
    · rw [e, e', g (tr _ _ _ h' h)]; rfl
    · rw [e, e']; rfl
  · rw [e]
    cases sgn lt x z <;> rfl
end
theorem oN_tr (x y z : Nat) : Tr (oN x y) (oN y z) (oN x z) = true := sgn_tr (fun x => by simp) (fun x y z h h' => by simp at *; omega) (fun x y h h' => by simp at *; omega) x y z
theorem oI_tr (x y z : Int) : Tr (oI x y) (oI y z) (oI x z) = true := sgn_tr (fun x => by simp) (fun x y z h h' => by simp at *; omega) (fun x y h h' => by simp at *; omega) x y z
theorem oT_tr (x y z : List Nat) : Tr (oT x y) (oT y z) (oT x z) = true := sgn_tr (fun x => by simpa using List.lt_irrefl x) (fun x y z h h' => by
    simp only [decide_eq_true_eq] at *
    exact List.lt_trans h h') (fun x y h h' => by
    simp only [decide_eq_false_iff_not] at *
    exact List.le_antisymm (List.not_lt.mp h') (List.not_lt.mp h)) x y z
theorem oN_swap (x y : Nat) : oN y x = (oN x y).swap := sgn_swap (fun x y h => by simp at *; omega) x y
theorem oI_swap (x y : Int) : oI y x = (oI x y).swap := sgn_swap (fun x y h => by simp at *; omega) x y
theorem oT_swap (x y : List Nat) : oT y x = (oT x y).swap := sgn_swap (fun x y h => by
    simp only [decide_eq_true_eq, decide_eq_false_iff_not] at *
    exact fun h' => List.lt_irrefl x (List.lt_trans h h')) x y
mutual
theorem cq_swap : ∀ x y : Q, cq y x = (cq x y).swap
  | .node r i x l, .node s j y m => by
    simp only [cq, then_swap]
    rw [oN_swap r s, oI_swap i j, oT_swap x y, cqL_swap l m]
theorem cqL_swap : ∀ x y : List Q, cqL y x = (cqL x y).swap
  | [], [] => by simp [cqL, Ordering.swap]
  | [], _ :: _ => by simp [cqL, Ordering.swap]
  | _ :: _, [] => by simp [cqL, Ordering.swap]
  | x :: xs, y :: ys => by
    simp only [cqL, then_swap]
    rw [cq_swap x y, cqL_swap xs ys]
end
mutual
theorem cq_tr : ∀ x y z : Q, Tr (cq x y) (cq y z) (cq x z) = true
  | .node r i x l, .node s j y m, .node t k z n => by
    simp only [cq]
    exact tr_then _ _ _ _ _ _ (oN_tr r s t) (tr_then _ _ _ _ _ _ (oI_tr i j k) (tr_then _ _ _ _ _ _ (oT_tr x y z) (cqL_tr l m n)))
theorem cqL_tr : ∀ x y z : List Q, Tr (cqL x y) (cqL y z) (cqL x z) = true
  | [], [], [] => by simp [cqL, Tr]
  | [], [], _ :: _ => by simp [cqL, Tr]
  | [], _ :: _, [] => by simp [cqL, Tr]
  | [], _ :: _, _ :: _ => by simp only [cqL]; cases cqL _ _ <;> cases cq _ _ <;> rfl
  | _ :: _, [], [] => by simp [cqL, Tr]
  | _ :: _, [], _ :: _ => by simp only [cqL]; cases cqL _ _ <;> cases cq _ _ <;> rfl
  | _ :: _, _ :: _, [] => by simp only [cqL]; cases cqL _ _ <;> cases cq _ _ <;> rfl
  | x :: xs, y :: ys, z :: zs => by
    simp only [cqL]
    exact tr_then _ _ _ _ _ _ (cq_tr x y z) (cqL_tr xs ys zs)
end
/-- below, by the keys -/
def ltQ (x y : D) : Bool := cq (key x) (key y) == .lt
theorem ltQ_swo : Swo ltQ where
  asym := fun x y h => by
    simp only [ltQ, beq_iff_eq] at h ⊢
    rw [cq_swap (key x) (key y), h]; rfl
  tr := fun x y z h1 h2 => by
    simp only [ltQ] at h1 h2 ⊢
    have t := cq_tr (key z) (key y) (key x)
    revert t h1 h2
    cases cq (key z) (key x) <;> cases a : cq (key z) (key y) <;> cases b : cq (key y) (key x) <;> intro h1 h2 t <;> first | rfl | (cases t; done) | (cases h1; done) | (cases h2; done)
theorem then_eq {a b : Ordering} : (a.then b == .eq) = ((a == .eq) && (b == .eq)) := by cases a <;> cases b <;> rfl
theorem sgn_eq {α : Type} {lt : α → α → Bool} [DecidableEq α] (irr : ∀ x, lt x x = false) (tot : ∀ x y, lt x y = false → lt y x = false → x = y) (x y : α) : (sgn lt x y == .eq) = decide (x = y) := by
  unfold sgn
  cases h : lt x y with
  | true =>
    have : x ≠ y := fun e => by subst e; rw [irr] at h; cases h
    simp [this]
  | false =>
    cases h' : lt y x with
    | true =>
      have : x ≠ y := fun e => by subst e; rw [irr] at h'; cases h'
      simp [this]
    | false => simp [tot x y h h']
theorem oI_eq (x y : Int) : (oI x y == .eq) = (x == y) := by
  rw [oI, sgn_eq (fun x => by simp) (fun x y h h' => by simp at *; omega)]; rfl
theorem oT_eq (x y : List Nat) : (oT x y == .eq) = (x == y) := by
  rw [oT, sgn_eq (fun x => by simpa using List.lt_irrefl x) (fun x y h h' => by
    simp only [decide_eq_false_iff_not] at *
    exact List.le_antisymm (List.not_lt.mp h') (List.not_lt.mp h))]
  rw [Bool.eq_iff_iff]; simp
theorem oI_self (x : Int) : oI x x = .eq := by simp [oI, sgn]
theorem oN_self (x : Nat) : oN x x = .eq := by simp [oN, sgn]
theorem oT_self (x : List Nat) : oT x x = .eq := by simp [oT, sgn, List.lt_irrefl]
theorem eqThen (o : Ordering) : Ordering.eq.then o = o := rfl
theorem thenEq (o : Ordering) : o.then .eq = o := by cases o <;> rfl
mutual
theorem eqv_key : ∀ x y : D, pl x = true → pl y = true → eqv x y = (cq (key x) (key y) == .eq)
  | .non, y, _, h => by cases y <;> first | rfl | (simp [pl] at h) | skip
  | .bl a, y, _, h => by
    cases y <;> first | rfl | (simp [pl] at h; done) | skip
    · rename_i b
      cases a <;> cases b <;> rfl
    · simp only [eqv, key, cq, cqL, oN_self, oT_self, eqThen, thenEq, oI_eq]
  | .int i, y, _, h => by
    cases y <;> first | rfl | (simp [pl] at h; done) | skip
    · simp only [eqv, key, cq, cqL, oN_self, oT_self, eqThen, thenEq, oI_eq]
    · simp only [eqv, key, cq, cqL, oN_self, oT_self, eqThen, thenEq, oI_eq]
  | .str x, y, _, h => by
    cases y <;> first | rfl | (simp [pl] at h; done) | skip
    simp only [eqv, key, cq, cqL, oN_self, oI_self, eqThen, thenEq, oT_eq]
  | .tup xs, y, h', h => by
    cases y <;> first | rfl | (simp [pl] at h; done) | skip
    rename_i ys
    simp only [eqv, key, cq, oN_self, oI_self, oT_self, eqThen]
    exact eqvL_key xs ys (by simpa [pl] using h') (by simpa [pl] using h)
  | .lst xs, y, h', h => by
    cases y <;> first | rfl | (simp [pl] at h; done) | skip
    rename_i ys
    simp only [eqv, key, cq, oN_self, oI_self, oT_self, eqThen]
    exact eqvL_key xs ys (by simpa [pl] using h') (by simpa [pl] using h)
  | .dic _ _, _, h, _ => by simp [pl] at h
  | .ins _ _, _, h, _ => by simp [pl] at h
  | .fn _, _, h, _ => by simp [pl] at h
  | .cls _, _, h, _ => by simp [pl] at h
theorem eqvL_key : ∀ xs ys : List D, plL xs = true → plL ys = true → eqvL xs ys = (cqL (keyL xs) (keyL ys) == .eq)
  | [], [], _, _ => rfl
  | [], _ :: _, _, _ => by simp [eqvL, keyL, cqL]
  | _ :: _, [], _, _ => by simp [eqvL, keyL, cqL]
  | x :: xs, y :: ys, h, h' => by
    simp only [plL, Bool.and_eq_true] at h h'
    simp only [eqvL, keyL, cqL, then_eq, eqv_key x y h.1 h'.1, eqvL_key xs ys h.2 h'.2]
end
theorem then_lt {a b : Ordering} : (a.then b == .lt) = if (a == .eq) = true then b == .lt else a == .lt := by cases a <;> cases b <;> rfl
theorem sgn_lt {α : Type} {lt : α → α → Bool} (x y : α) : (sgn lt x y == .lt) = lt x y := by
  unfold sgn
  cases lt x y <;> cases lt y x <;> rfl
mutual
theorem ltB_key : ∀ x y : D, pl x = true → pl y = true → cmpb x y = true → ltB x y = ltQ x y
  | .int i, y, _, _, h => by
    cases y <;> simp only [cmpb, Bool.false_eq_true] at h
    simp only [ltB, ltQ, key, cq, cqL, oN_self, oT_self, eqThen, thenEq]
    unfold oI; rw [sgn_lt]
  | .str x, y, _, _, h => by
    cases y <;> simp only [cmpb, Bool.false_eq_true] at h
    simp only [ltB, ltQ, key, cq, cqL, oN_self, oI_self, eqThen, thenEq]
    unfold oT; rw [sgn_lt]
  | .tup xs, y, p, q, h => by
    cases y <;> simp only [cmpb, Bool.false_eq_true] at h
    simp only [ltB, ltQ, key, cq, oN_self, oI_self, oT_self, eqThen]
    exact ltBL_key xs _ (by simpa [pl] using p) (by simpa [pl] using q) h
  | .non, y, _, _, h => by cases y <;> simp [cmpb] at h
  | .bl _, y, _, _, h => by cases y <;> simp [cmpb] at h
  | .lst _, y, _, _, h => by cases y <;> simp [cmpb] at h
  | .dic _ _, y, _, _, h => by cases y <;> simp [cmpb] at h
  | .ins _ _, y, _, _, h => by cases y <;> simp [cmpb] at h
  | .fn _, y, _, _, h => by cases y <;> simp [cmpb] at h
  | .cls _, y, _, _, h => by cases y <;> simp [cmpb] at h
theorem ltBL_key : ∀ xs ys : List D, plL xs = true → plL ys = true → cmpbL xs ys = true → ltBL xs ys = (cqL (keyL xs) (keyL ys) == .lt)
  | [], [], _, _, _ => rfl
  | [], _ :: _, _, _, _ => by simp [ltBL, keyL, cqL]
  | _ :: _, [], _, _, _ => by simp [ltBL, keyL, cqL]
  | x :: xs, y :: ys, p, q, h => by
    simp only [plL, Bool.and_eq_true] at p q
    simp only [cmpbL, Bool.and_eq_true, Bool.or_eq_true] at h
    simp only [ltBL, keyL, cqL, then_lt]
    rw [ltBL_key xs ys p.2 q.2 h.2, ← eqv_key x y p.1 q.1]
    split
    · rfl
    · rename_i n
      have := ltB_key x y p.1 q.1 (h.1.resolve_left n)
      rw [this]; rfl
end
/-! ### insertion -/
section
variable {α : Type} {lt : α → α → Bool}
def insG (lt : α → α → Bool) (x : α) : List α → List α
  | [] => [x]
  | y :: ys => if lt y x then y :: insG lt x ys else x :: y :: ys
def isort (lt : α → α → Bool) : List α → List α
  | [] => []
  | x :: xs => insG lt x (isort lt xs)
theorem insG_parts (x : α) : ∀ l : List α, ∃ M N, l = M ++ N ∧ insG lt x l = M ++ x :: N ∧ (∀ m ∈ M, lt m x = true) ∧ ∀ n r, N = n :: r → lt n x = false
  | [] => ⟨[], [], rfl, rfl, (by intro m h; cases h), (by intro n r h; cases h)⟩
  | y :: ys => by
    unfold insG
    by_cases h : lt y x = true
    · obtain ⟨M, N, e1, e2, e3, e4⟩ := insG_parts x ys
      refine ⟨y :: M, N, by rw [e1]; rfl, by rw [if_pos h, e2]; rfl, fun m hm => ?_, e4⟩
      rcases List.mem_cons.mp hm with rfl | hm
      · exact h
      · exact e3 m hm
    · exact ⟨[], y :: ys, rfl, by rw [if_neg h]; rfl, (by intro m h; cases h), (by intro n r e; cases e; simpa using h)⟩
theorem isort_ok (O : Swo lt) : ∀ l : List α, Srtd lt (isort lt l) ∧ Stb lt (isort lt l) l
  | [] => ⟨List.Pairwise.nil, Stb.refl _⟩
  | x :: xs => by
    obtain ⟨h1, h2⟩ := isort_ok O xs
    obtain ⟨M, N, e1, e2, e3, e4⟩ := insG_parts (lt := lt) x (isort lt xs)
    have hN : ∀ n ∈ N, lt n x = false := by
      cases N with
      | nil => intro n hn; cases hn
      | cons n r =>
        rw [e1] at h1
        have s := (srtd_app.mp h1).2.1
        intro m hm
        rcases List.mem_cons.mp hm with rfl | hm
        · exact e4 _ r rfl
        · exact O.tr x n m (e4 n r rfl) (srtd_head s m hm)
    refine ⟨?_, ?_⟩
    · show Srtd lt (insG lt x (isort lt xs))
      rw [e2]
      rw [e1] at h1
      obtain ⟨q1, q2, q3⟩ := srtd_app.mp h1
      refine srtd_app.mpr ⟨q1, List.pairwise_cons.mpr ⟨hN, q2⟩, fun a ha b hb => ?_⟩
      rcases List.mem_cons.mp hb with rfl | hb
      · exact O.asym _ _ (e3 a ha)
      · exact q3 a ha b hb
    · show Stb lt (insG lt x (isort lt xs)) (x :: xs)
      rw [e2]
      have s1 : Stb lt (M ++ [x]) ([x] ++ M) := Stb.swap O fun a ha b hb => by
        cases List.mem_singleton.mp hb
        exact e3 a ha
      have s2 : Stb lt ((M ++ [x]) ++ N) (([x] ++ M) ++ N) := s1.app (Stb.refl N)
      have s3 : Stb lt ([x] ++ (M ++ N)) ([x] ++ xs) := (Stb.refl [x]).app (by rw [← e1]; exact h2)
      simpa using s2.trans (by simpa using s3)
end
theorem insR_eq (x : D) : ∀ l : List D, (∀ y ∈ l, ltB y x = ltQ y x) → insR x l = insG ltQ x l
  | [], _ => rfl
  | y :: ys, h => by
    unfold insR insG
    rw [h y List.mem_cons_self, insR_eq x ys fun z hz => h z (List.mem_cons_of_mem _ hz)]
theorem sortR_mem : ∀ {l : List D} {x : D}, x ∈ sortR l → x ∈ l := by
  have ins : ∀ (x : D) (l : List D) (z : D), z ∈ insR x l → z = x ∨ z ∈ l := fun x l => by
    induction l with
    | nil => intro z h; exact .inl (by simpa [insR] using h)
    | cons y ys ih =>
      intro z h
      unfold insR at h
      split at h
      · rcases List.mem_cons.mp h with rfl | h
        · exact .inr (List.mem_cons_self)
        · exact (ih z h).imp id (List.mem_cons_of_mem _)
      · rcases List.mem_cons.mp h with rfl | h
        · exact .inl rfl
        · exact .inr h
  intro l
  induction l with
  | nil => intro x h; cases h
  | cons y ys ih =>
    intro x h
    rcases ins y _ x h with rfl | h
    · exact List.mem_cons_self
    · exact List.mem_cons_of_mem _ (ih h)
theorem sortR_eq : ∀ l : List D, (∀ x ∈ l, ∀ y ∈ l, ltB y x = ltQ y x) → sortR l = isort ltQ l
  | [], _ => rfl
  | x :: xs, h => by
    have ih := sortR_eq xs fun a ha b hb => h a (List.mem_cons_of_mem _ ha) b (List.mem_cons_of_mem _ hb)
    show insR x (sortR xs) = insG ltQ x (isort ltQ xs)
    rw [← ih]
    exact insR_eq x _ fun y hy => h x List.mem_cons_self y (List.mem_cons_of_mem _ (sortR_mem hy))
/-- the one sorted list -/
theorem sortR_uniq {l m : List D} (h : ∀ x ∈ l, ∀ y ∈ l, ltB y x = ltQ y x) (s : Srtd ltQ m) (b : Stb ltQ m l) : m = sortR l := by
  rw [sortR_eq l h]
  obtain ⟨h1, h2⟩ := isort_ok ltQ_swo l
  refine stb_uniq ltQ_swo s h1 (b.trans ⟨h2.perm.symm, fun x => (h2.cls x).symm⟩)
end G

/-! what data are in the model; states; steps -/
namespace G
open PySem PySem.Spec L2

abbrev ss (x : List Nat) : Str := ⟨x.toArray⟩
def sOk (x : List Nat) : Prop := (∀ c ∈ x, c < 0x110000) ∧ x.length ≤ sizeLine
abbrev FA := Nat → Option Addr

/-- the object at a is known, and has no dict of its own -/
def TG (S : Hp) (a : Addr) : Prop := ∃ o u, S a = some (.frz o u) ∧ o.dict = none
mutual
inductive Rep (K : PySem.W.Frag) (fa : FA) (S : Hp) : V → D → Prop
  | non : Rep K fa S .non .non
  | bl (b : Bool) : Rep K fa S (.bl b) (.bl b)
  | int (i : Int) : Rep K fa S (.int i) (.int i)
  | str (x : List Nat) : sOk x → Rep K fa S (.str (ss x)) (.str x)
  | tup {a : Addr} {vs : List V} {ds : List D} : SqT K S a vs → (lets ds = true → TG S a) → Reps K fa S vs ds → Rep K fa S (.ref a) (.tup ds)
  | lst {a : Addr} {vs : List V} {ds : List D} : Rd S a (.lst vs) → Reps K fa S vs ds → Rep K fa S (.ref a) (.lst ds)
  | fn {f : Nat} {a : Addr} : f < 1000000 → fa f = some a → Rep K fa S (.ref a) (.fn f)
  | ins {c : Nat} {a : Addr} : fa (1000000 + c) = some a → Rep K fa S (.ref a) (.ins c [])
inductive Reps (K : PySem.W.Frag) (fa : FA) (S : Hp) : List V → List D → Prop
  | nil : Reps K fa S [] []
  | cons {v : V} {vs : List V} {d : D} {ds : List D} : Rep K fa S v d → Reps K fa S vs ds → Reps K fa S (v :: vs) (d :: ds)
end
section
variable {K : PySem.W.Frag} {fa : FA} {S S' H : Hp}
def Sub (S S' : Hp) : Prop := ∀ a o, S a = some o → S' a = some o
theorem Sub.refl : Sub S S := fun _ _ h => h
theorem Sub.trans {S1 S2 S3 : Hp} (a : Sub S1 S2) (b : Sub S2 S3) : Sub S1 S3 := fun x o h => b x o (a x o h)
theorem Sub.rd (e : Sub S S') {a : Addr} {o : HO} (h : Rd S a o) : Rd S' a o := by
  rcases h with h | ⟨u, h⟩
  · exact .inl (e _ _ h)
  · exact .inr ⟨u, e _ _ h⟩
theorem Sub.sqL (e : Sub S S') {a : Addr} {xs : List V} (h : SqL K S a xs) : SqL K S' a xs := by
  rcases h with (h | ⟨o, h⟩) | h
  · exact .inl (.inl (e _ _ h))
  · exact .inl (.inr ⟨o, e _ _ h⟩)
  · exact .inr h
theorem Sub.sqT (e : Sub S S') {a : Addr} {xs : List V} (h : SqT K S a xs) : SqT K S' a xs := by
  rcases h with (h | ⟨o, h⟩) | h
  · exact .inl (.inl (e _ _ h))
  · exact .inl (.inr ⟨o, e _ _ h⟩)
  · exact .inr h
theorem TG.mono (e : Sub S S') {a : Addr} : TG S a → TG S' a := fun ⟨o, u, h, q⟩ => ⟨o, u, e _ _ h, q⟩
mutual
theorem Rep.mono (e : Sub S S') : ∀ {v : V} {d : D}, Rep K fa S v d → Rep K fa S' v d
  | _, _, .non => .non
  | _, _, .bl b => .bl b
  | _, _, .int i => .int i
  | _, _, .str x h => .str x h
  | _, _, .tup h t r => .tup (e.sqT h) (fun z => (t z).mono e) (r.mono e)
  | _, _, .lst h r => .lst (e.rd h) (r.mono e)
  | _, _, .fn l h => .fn l h
  | _, _, .ins h => .ins h
theorem Reps.mono (e : Sub S S') : ∀ {vs : List V} {ds : List D}, Reps K fa S vs ds → Reps K fa S' vs ds
  | _, _, .nil => .nil
  | _, _, .cons h r => .cons (h.mono e) (r.mono e)
end
theorem Reps.length : ∀ {vs : List V} {ds : List D}, Reps K fa S vs ds → vs.length = ds.length
  | _, _, .nil => rfl
  | _, _, .cons _ r => by simp [r.length]
theorem Reps.get : ∀ {vs : List V} {ds : List D} {i : Nat} {d : D}, Reps K fa S vs ds → ds[i]? = some d → ∃ v, vs[i]? = some v ∧ Rep K fa S v d
  | _, _, _, _, .nil, e => by simp at e
  | _, _, 0, _, .cons h _, e => by simp at e; subst e; exact ⟨_, rfl, h⟩
  | _, _, i + 1, _, .cons _ r, e => by
    obtain ⟨v, h1, h2⟩ := r.get (i := i) (by simpa using e)
    exact ⟨v, by simpa using h1, h2⟩
theorem Reps.getV : ∀ {vs : List V} {ds : List D} {i : Nat} {v : V}, Reps K fa S vs ds → vs[i]? = some v → ∃ d, ds[i]? = some d ∧ Rep K fa S v d
  | _, _, _, _, .nil, e => by simp at e
  | _, _, 0, _, .cons h _, e => by simp at e; subst e; exact ⟨_, rfl, h⟩
  | _, _, i + 1, _, .cons _ r, e => by
    obtain ⟨v, h1, h2⟩ := r.getV (i := i) (by simpa using e)
    exact ⟨v, by simpa using h1, h2⟩
theorem Reps.app : ∀ {vs ws : List V} {ds es : List D}, Reps K fa S vs ds → Reps K fa S ws es → Reps K fa S (vs ++ ws) (ds ++ es)
  | _, _, _, _, .nil, h => h
  | _, _, _, _, .cons h r, h' => .cons h (r.app h')
theorem Reps.take : ∀ {vs : List V} {ds : List D} (n : Nat), Reps K fa S vs ds → Reps K fa S (vs.take n) (ds.take n)
  | _, _, 0, _ => .nil
  | _, _, _ + 1, .nil => .nil
  | _, _, n + 1, .cons h r => .cons h (r.take n)
theorem Reps.drop : ∀ {vs : List V} {ds : List D} (n : Nat), Reps K fa S vs ds → Reps K fa S (vs.drop n) (ds.drop n)
  | _, _, 0, r => r
  | _, _, _ + 1, .nil => .nil
  | _, _, n + 1, .cons _ r => r.drop n
theorem Reps.set {v : V} {d : D} (h : Rep K fa S v d) : ∀ {vs : List V} {ds : List D} (n : Nat), Reps K fa S vs ds → Reps K fa S (vs.set n v) (ds.set n d)
  | _, _, _, .nil => .nil
  | _, _, 0, .cons _ r => .cons h r
  | _, _, n + 1, .cons h' r => .cons h' (r.set h n)
theorem Reps.rev : ∀ {vs : List V} {ds : List D}, Reps K fa S vs ds → Reps K fa S vs.reverse ds.reverse
  | _, _, .nil => .nil
  | _, _, .cons h r => by
    rw [List.reverse_cons, List.reverse_cons]
    exact r.rev.app (.cons h .nil)
theorem Reps.rep {vs : List V} {ds : List D} (h : Reps K fa S vs ds) : ∀ n : Nat, Reps K fa S (List.replicate n vs).flatten (rep n ds)
  | 0 => .nil
  | n + 1 => by
    unfold G.rep
    rw [List.replicate_succ, List.replicate_succ, List.flatten_cons, List.flatten_cons]
    exact h.app (Reps.rep h n)

/-- a list that is a slot's own -/
def OwnC (K : PySem.W.Frag) (fa : FA) (S H : Hp) (a : Addr) (d : D) : Prop := S a = none ∧ ∃ vs ds, d = .lst ds ∧ H a = some (.lst vs) ∧ Reps K fa S vs ds
/-- a value that may be read -/
def RepB (K : PySem.W.Frag) (fa : FA) (S H : Hp) (v : V) (d : D) : Prop := Rep K fa S v d ∨ ∃ a, v = .ref a ∧ OwnC K fa S H a d
theorem RepB.lst {v : V} {ds : List D} (sub : Sub S H) (h : RepB K fa S H v (.lst ds)) : ∃ a vs, v = .ref a ∧ Rd H a (.lst vs) ∧ Reps K fa S vs ds := by
  rcases h with h | ⟨a, rfl, _, vs, ds', e, h, r⟩
  · cases h with
    | lst h r => exact ⟨_, _, rfl, sub.rd h, r⟩
  · cases e
    exact ⟨a, vs, rfl, .inl h, r⟩
theorem RepB.tup {v : V} {ds : List D} (sub : Sub S H) (h : RepB K fa S H v (.tup ds)) : ∃ a vs, v = .ref a ∧ SqT K H a vs ∧ (SqT K S a vs ∧ (lets ds = true → TG S a)) ∧ Reps K fa S vs ds := by
  rcases h with h | ⟨a, rfl, _, vs, ds', e, _⟩
  · cases h with
    | tup h t r => exact ⟨_, _, rfl, sub.sqT h, ⟨h, t⟩, r⟩
  · cases e
theorem RepB.int {v : V} {i : Int} (h : RepB K fa S H v (.int i)) : v = .int i := by
  rcases h with h | ⟨a, rfl, _, vs, ds', e, _⟩
  · cases h; rfl
  · cases e
theorem RepB.bl {v : V} {i : Bool} (h : RepB K fa S H v (.bl i)) : v = .bl i := by
  rcases h with h | ⟨a, rfl, _, vs, ds', e, _⟩
  · cases h; rfl
  · cases e
theorem RepB.non {v : V} (h : RepB K fa S H v .non) : v = .non := by
  rcases h with h | ⟨a, rfl, _, vs, ds', e, _⟩
  · cases h; rfl
  · cases e
theorem RepB.str {v : V} {i : List Nat} (h : RepB K fa S H v (.str i)) : v = .str (ss i) ∧ sOk i := by
  rcases h with h | ⟨a, rfl, _, vs, ds', e, _⟩
  · cases h with
    | str _ h => exact ⟨rfl, h⟩
  · cases e
theorem RepB.fn {v : V} {f : Nat} (h : RepB K fa S H v (.fn f)) : ∃ a, v = .ref a ∧ fa f = some a := by
  rcases h with h | ⟨a, rfl, _, vs, ds', e, _⟩
  · cases h with
    | fn _ h => exact ⟨_, rfl, h⟩
  · cases e
theorem RepB.heap {v : V} {d : D} (sub : Sub S H) (h : RepB K fa S H v d) : Rep K fa H v d := by
  rcases h with h | ⟨a, rfl, _, vs, ds', rfl, h, r⟩
  · exact h.mono sub
  · exact .lst (.inl h) (r.mono sub)

/-! ### states -/
/-- a is the address of a slot's own list -/
def Ow (σ : L2.St) (ρ : En) (a : Addr) : Prop := ∃ (i : Nat) (d : D), ρ[i]? = some (some (.own d)) ∧ σ[i]? = some (some (.ref a))
structure Rl (K : PySem.W.Frag) (fa : FA) (S : Hp) (σ : L2.St) (ρ : En) (H : Hp) : Prop where
  sub : Sub S H
  len : σ.length = ρ.length
  val : ∀ (i : Nat) (d : D), ρ[i]? = some (some (.val d)) → ∃ v, σ[i]? = some (some v) ∧ Rep K fa S v d
  own : ∀ (i : Nat) (d : D), ρ[i]? = some (some (.own d)) → ∃ a, σ[i]? = some (some (.ref a)) ∧ OwnC K fa S H a d
  dis : ∀ (i j : Nat) (d d' : D) (a : Addr), ρ[i]? = some (some (.own d)) → ρ[j]? = some (some (.own d')) → σ[i]? = some (some (.ref a)) → σ[j]? = some (some (.ref a)) → i = j
/-- from one state of an expression's reckoning to another -/
structure Go (K : PySem.W.Frag) (fa : FA) (σ : L2.St) (S : Hp) (ρ : En) (H : Hp) (S' : Hp) (ρ' : En) (H' : Hp) : Prop where
  rl : Rl K fa S' σ ρ' H'
  sub : Sub S S'
  fr : ∀ a o, H a = some o → ¬ Ow σ ρ a → H' a = some o
  ow : ∀ a, Ow σ ρ' a → Ow σ ρ a
  nw : ∀ a o, S' a = some o → S a = some o ∨ H a = none ∨ Ow σ ρ a
  al : ∀ a, H' a = none → H a = none
variable {σ : L2.St} {ρ ρ1 ρ2 : En} {S1 S2 H1 H2 : Hp}
theorem Go.refl (h : Rl K fa S σ ρ H) : Go K fa σ S ρ H S ρ H := ⟨h, .refl, fun _ _ e _ => e, fun _ e => e, fun _ _ e => .inl e, fun _ h => h⟩
theorem Go.trans (a : Go K fa σ S ρ H S1 ρ1 H1) (b : Go K fa σ S1 ρ1 H1 S2 ρ2 H2) : Go K fa σ S ρ H S2 ρ2 H2 where
  rl := b.rl
  sub := a.sub.trans b.sub
  fr := fun x o e n => b.fr x o (a.fr x o e n) fun z => n (a.ow x z)
  ow := fun x z => a.ow x (b.ow x z)
  nw := fun x o e => by
    rcases b.nw x o e with h | h | h
    · exact a.nw x o h
    · cases q : H x with
      | none => exact .inr (.inl rfl)
      | some u =>
        by_cases z : Ow σ ρ x
        · exact .inr (.inr z)
        · rw [a.fr x u q z] at h; cases h
    · exact .inr (.inr (a.ow x h))
  al := fun x h => a.al x (b.al x h)
/-- new things alone -/
structure Gr (S H S' H' : Hp) : Prop where
  ss : Sub S S'
  sub : Sub S' H'
  hh : Sub H H'
  nw : ∀ a o, S' a = some o → S a = some o ∨ H a = none
theorem Gr.refl (h : Sub S H) : Gr S H S H := ⟨.refl, h, .refl, fun _ _ e => .inl e⟩
theorem Rl.grow {H' : Hp} (r : Rl K fa S σ ρ H) (g : Gr S H S' H') : Rl K fa S' σ ρ H' where
  sub := g.sub
  len := r.len
  val := fun i d e => let ⟨v, h1, h2⟩ := r.val i d e; ⟨v, h1, h2.mono g.ss⟩
  own := fun i d e => by
    obtain ⟨a, h1, h2, vs, ds, h3, h4, h5⟩ := r.own i d e
    refine ⟨a, h1, ?_, vs, ds, h3, g.hh _ _ h4, h5.mono g.ss⟩
    cases q : S' a with
    | none => rfl
    | some o =>
      rcases g.nw a o q with z | z
      · rw [h2] at z; cases z
      · rw [h4] at z; cases z
  dis := r.dis
theorem Gr.go {H' : Hp} (r : Rl K fa S σ ρ H) (g : Gr S H S' H') : Go K fa σ S ρ H S' ρ H' :=
  ⟨r.grow g, g.ss, fun _ _ e _ => g.hh _ _ e, fun _ e => e, fun a o e => (g.nw a o e).imp id .inl, fun a h => by
    cases q : H a with
    | none => rfl
    | some o => rw [g.hh a o q] at h; cases h⟩
/-- a new object, stable -/
theorem Gr.new {p : Addr} {o : HO} (h : Sub S H) (n : H p = none) : Gr S H (upd S p o) (upd H p o) where
  ss := fun a u e => by
    rw [upd_ne]; exact e
    rintro rfl
    rw [h _ _ e] at n; cases n
  sub := fun a u e => by
    by_cases z : a = p
    · subst z; rw [upd_same] at e ⊢; exact e
    · rw [upd_ne z] at e ⊢; exact h _ _ e
  hh := fun a u e => by
    rw [upd_ne]; exact e
    rintro rfl
    rw [n] at e; cases e
  nw := fun a u e => by
    by_cases z : a = p
    · subst z; exact .inr n
    · rw [upd_ne z] at e; exact .inl e
/-- a new object, not (yet) stable -/
theorem Gr.fresh {p : Addr} {o : HO} (h : Sub S H) (n : H p = none) : Gr S H S (upd H p o) where
  ss := .refl
  sub := fun a u e => by
    rw [upd_ne]; exact h _ _ e
    rintro rfl
    rw [h _ _ e] at n; cases n
  hh := fun a u e => by
    rw [upd_ne]; exact e
    rintro rfl
    rw [n] at e; cases e
  nw := fun a u e => .inl e
/-- what an operation hands back -/
def RV0 (K : PySem.W.Frag) (fa : FA) (H S' H' : Hp) (v : V) (d : D) (fr : Bool) : Prop :=
  if fr then ∃ a, v = .ref a ∧ OwnC K fa S' H' a d ∧ H a = none else Rep K fa S' v d
/-- what an expression hands back -/
def RV (K : PySem.W.Frag) (fa : FA) (σ : L2.St) (ρ : En) (H S' : Hp) (H' : Hp) (v : V) (d : D) (fr : Bool) : Prop :=
  if fr then ∃ a, v = .ref a ∧ OwnC K fa S' H' a d ∧ H a = none ∧ ¬ Ow σ ρ a else Rep K fa S' v d
theorem Rl.not_ow (r : Rl K fa S σ ρ H) {a : Addr} (n : H a = none) : ¬ Ow σ ρ a := fun ⟨i, d, h1, h2⟩ => by
  obtain ⟨b, h3, h4, vs, ds, h5, h6, _⟩ := r.own i d h1
  rw [h2] at h3; cases h3
  rw [n] at h6; cases h6
theorem Rl.not_S (r : Rl K fa S σ ρ H) {a : Addr} (n : Ow σ ρ a) : S a = none := by
  obtain ⟨i, d, h1, h2⟩ := n
  obtain ⟨b, h3, h4, vs, ds, h5, h6, _⟩ := r.own i d h1
  rw [h2] at h3; cases h3
  exact h4
theorem RV0.rv {H' : Hp} {v : V} {d : D} {fr : Bool} (r : Rl K fa S σ ρ H) (h : RV0 K fa H S' H' v d fr) : RV K fa σ ρ H S' H' v d fr := by
  unfold RV0 at h
  unfold RV
  cases fr with
  | false => simpa using h
  | true =>
    simp only [if_true] at h ⊢
    obtain ⟨a, h1, h2, h3⟩ := h
    exact ⟨a, h1, h2, h3, r.not_ow h3⟩
/-- what is new is laid by: it is stable from now on -/
theorem RV.frz {H' : Hp} {v : V} {d : D} {fr : Bool} (g : Go K fa σ S ρ H S' ρ1 H') (h : RV K fa σ ρ1 H S' H' v d fr) : ∃ S'', Go K fa σ S ρ H S'' ρ1 H' ∧ Rep K fa S'' v d := by
  unfold RV at h
  cases fr with
  | false => exact ⟨S', g, by simpa using h⟩
  | true =>
    simp only [if_true] at h
    obtain ⟨a, rfl, ⟨h0, vs, ds, rfl, h1, h2⟩, h3, h4⟩ := h
    have sub : Sub S' (upd S' a (.lst vs)) := fun b o e => by
      rw [upd_ne]; exact e
      rintro rfl
      rw [h0] at e; cases e
    refine ⟨upd S' a (.lst vs), ⟨⟨?_, g.rl.len, ?_, ?_, g.rl.dis⟩, g.sub.trans sub, g.fr, g.ow, ?_, g.al⟩, .lst (.inl upd_same) (h2.mono sub)⟩
    · intro b o e
      by_cases z : b = a
      · subst z; rw [upd_same] at e; cases e; exact h1
      · rw [upd_ne z] at e; exact g.rl.sub _ _ e
    · intro i d e
      obtain ⟨v, q1, q2⟩ := g.rl.val i d e
      exact ⟨v, q1, q2.mono sub⟩
    · intro i d e
      obtain ⟨b, q1, q2, ws, es, q3, q4, q5⟩ := g.rl.own i d e
      refine ⟨b, q1, ?_, ws, es, q3, q4, q5.mono sub⟩
      rw [upd_ne]; exact q2
      rintro rfl
      exact h4 ⟨i, d, e, q1⟩
    · intro b o e
      by_cases z : b = a
      · subst z; exact .inr (.inl h3)
      · rw [upd_ne z] at e; exact g.nw b o e
theorem RV0.lift {H' H2 : Hp} {v : V} {d : D} {fr : Bool} (g : Go K fa σ S ρ H S2 ρ2 H2) (h : RV0 K fa H2 S' H' v d fr) : RV K fa σ ρ2 H S' H' v d fr := by
  have h' := h.rv g.rl
  unfold RV at h' ⊢
  cases fr with
  | false => simpa using h'
  | true =>
    simp only [if_true] at h' ⊢
    obtain ⟨a, h1, h2, h3, h4⟩ := h'
    exact ⟨a, h1, h2, g.al a h3, h4⟩
/-- an operand: a slot, or data -/
def OV (K : PySem.W.Frag) (fa : FA) (S : Hp) (σ : L2.St) (v : V) : Od → Prop
  | .s i => σ[i]? = some (some v)
  | .v d => Rep K fa S v d
theorem OV.mono {v : V} {o : Od} (e : Sub S S') (h : OV K fa S σ v o) : OV K fa S' σ v o := by
  cases o with
  | s i => exact h
  | v d => exact Rep.mono e h
theorem OV.get {v : V} {o : Od} {d : D} (r : Rl K fa S σ ρ H) (h : OV K fa S σ v o) (e : der ρ o = some d) : RepB K fa S H v d := by
  cases o with
  | v d' =>
    simp only [G.der, Option.some.injEq] at e
    subst e
    exact .inl h
  | s i =>
    have h : σ[i]? = some (some v) := h
    simp only [G.der] at e
    split at e
    · rename_i w q
      cases e
      cases w with
      | val d =>
        obtain ⟨v', q1, q2⟩ := r.val i d q
        rw [h] at q1; cases q1
        exact .inl q2
      | own d =>
        obtain ⟨a, q1, q2⟩ := r.own i d q
        rw [h] at q1; cases q1
        exact .inr ⟨a, rfl, q2⟩
    · cases e
/-- several operands -/
inductive OVs (K : PySem.W.Frag) (fa : FA) (S : Hp) (σ : L2.St) : List V → List Od → Prop
  | nil : OVs K fa S σ [] []
  | cons {v : V} {vs : List V} {o : Od} {os : List Od} : OV K fa S σ v o → OVs K fa S σ vs os → OVs K fa S σ (v :: vs) (o :: os)
theorem OVs.mono (e : Sub S S') : ∀ {vs : List V} {os : List Od}, OVs K fa S σ vs os → OVs K fa S' σ vs os
  | _, _, .nil => .nil
  | _, _, .cons h r => .cons (h.mono e) (r.mono e)
inductive RepBs (K : PySem.W.Frag) (fa : FA) (S H : Hp) : List V → List D → Prop
  | nil : RepBs K fa S H [] []
  | cons {v : V} {vs : List V} {d : D} {ds : List D} : RepB K fa S H v d → RepBs K fa S H vs ds → RepBs K fa S H (v :: vs) (d :: ds)
theorem OVs.get (r : Rl K fa S σ ρ H) : ∀ {vs : List V} {os : List Od} {ds : List D}, OVs K fa S σ vs os → ders ρ os = some ds → RepBs K fa S H vs ds
  | _, _, ds, .nil, e => by
    simp only [G.ders, Option.some.injEq] at e
    subst e
    exact .nil
  | _, _, ds, .cons h t, e => by
    unfold G.ders at e
    cases q : G.der ρ _ with
    | none => rw [q] at e; cases e
    | some d =>
      rw [q] at e
      simp only [Option.bind_some, Option.map_eq_some_iff] at e
      obtain ⟨es, q2, rfl⟩ := e
      exact .cons (h.get r q) (t.get r q2)
end
end G

/-! a tuple once, and not at all -/
namespace G
open PySem PySem.Spec L2 PyProof.Rows
open AutoSeq1 (wpAny_loadPart')
theorem mul_one (l : Addr) (items : Array Value) (n : Nat) (dd : Option Addr) (sl : Array (Option Value)) (u : Tok) :
    Meets (Builtin.«tuple.__mul__» ⟨[.ref l, .int 1 u], []⟩) (fun _ R s => s.heap.get? l = some { cls := .type "tuple", dict := dd, data := .seq items n, slots := sl } ∧ R (.ok (.ret (Value.ref l))) s) :=
  .of_wp fun prog w A R s h => by
    obtain ⟨hp, g, d, tk, os⟩ := s
    obtain ⟨hl, h⟩ := h
    have f1 := AutoSeq1.idx_int
    wp_walk using wpAny_loadPart' hl
    repeat (first
      | (refine wpAny_ite_true (by simp) ?_; wp_walk using wpAny_loadPart' hl)
      | (refine wpAny_ite_false (by simp) ?_; wp_walk using wpAny_loadPart' hl))
    exact ⟨_, rfl, h⟩
theorem mul_zero (l : Addr) (items : Array Value) (n : Nat) (dd : Option Addr) (sl : Array (Option Value)) (u : Tok) (hi : items.isEmpty = false) :
    Meets (Builtin.«tuple.__mul__» ⟨[.ref l, .int 0 u], []⟩) (fun _ R s => s.heap.get? l = some { cls := .type "tuple", dict := dd, data := .seq items n, slots := sl } ∧
      R (.ok (.ret (Value.ref s.heap.objs.size))) { s with heap := s.heap.push { cls := Value.type "tuple", data := Data.seq #[] }, toks := s.toks }) :=
  .of_wp fun prog w A R s h => by
    obtain ⟨hp, g, d, tk, os⟩ := s
    obtain ⟨hl, h⟩ := h
    have f1 := AutoSeq1.idx_int
    wp_walk using wpAny_loadPart' hl
    repeat (first
      | (refine wpAny_ite_false (by simp [hi]) ?_; wp_walk using wpAny_loadPart' hl)
      | (refine wpAny_ite_true (by simp) ?_; wp_walk using wpAny_loadPart' hl))
    exact ⟨_, rfl, h⟩
def rOnce (K : PySem.W.Frag) : R2 := fun x y H Q => ∃ l xs, x = .ref l ∧ y = .int 1 ∧ SqT K H l xs ∧ Q (.ref l) H
def rNone (K : PySem.W.Frag) : R2 := fun x y H Q => ∃ l xs, x = .ref l ∧ y = .int 0 ∧ SqT K H l xs ∧ xs ≠ [] ∧ ∀ p, H p = none → Q (.ref p) (upd H p (.tup []))
section
variable {X : Cx}
theorem op_once : OpR X (binaryOp .Mult) (rOnce X.K) := by
  intro pins s σ H x y v u Q I rx ry h
  obtain ⟨l, xs, rfl, rfl, hT, q⟩ := h
  cases rx
  obtain ⟨t, rfl⟩ := ry
  obtain ⟨its, r, ⟨⟨cls, dd, data, sl⟩, ho, hc, n, hd⟩, hs⟩ := I.tuple hT
  simp only at hc hd
  subst hc hd
  exact wpAny_binaryOp_repeat_ref (T := "tuple") (U := "int") (by decide) ⟨_, ho, rfl⟩ (fun s' => typeIs_int s' 1 t) noFill_tuple_mul F.fills_int_mul F.slot_int_rmul repeat_tuple F.slot_int_index.lookup
    (call_meets F.slot_int_rmul (typeIs_int s 1 t) F.entry_int_rmul (F.args_int_rmul_2 _ _) (int_rmul_tuple 1 t l its.toArray n dd sl)
      ⟨ho, rfl, ⟨_, ho, rfl⟩, call_meets F.slot_tuple_mul ⟨_, ho, rfl⟩ F.entry_tuple_mul (F.args_tuple_mul_2 _ _) (mul_one l its.toArray n dd sl t) ⟨ho, ⟨.ref l, H, I, rfl, q⟩⟩⟩)
theorem op_none : OpR X (binaryOp .Mult) (rNone X.K) := by
  intro pins s σ H x y v u Q I rx ry h
  obtain ⟨l, xs, rfl, rfl, hT, hne, q⟩ := h
  cases rx
  obtain ⟨t, rfl⟩ := ry
  obtain ⟨its, r, ⟨⟨cls, dd, data, sl⟩, ho, hc, n, hd⟩, hs⟩ := I.tuple hT
  simp only at hc hd
  subst hc hd
  have hi : its.toArray.isEmpty = false := by
    cases r with
    | nil => exact absurd rfl hne
    | cons _ _ => rfl
  refine wpAny_binaryOp_repeat_ref (T := "tuple") (U := "int") (by decide) ⟨_, ho, rfl⟩ (fun s' => typeIs_int s' 0 t) noFill_tuple_mul F.fills_int_mul F.slot_int_rmul repeat_tuple F.slot_int_index.lookup
    (call_meets F.slot_int_rmul (typeIs_int s 0 t) F.entry_int_rmul (F.args_int_rmul_2 _ _) (int_rmul_tuple 0 t l its.toArray n dd sl)
      ⟨ho, rfl, ⟨_, ho, rfl⟩, call_meets F.slot_tuple_mul ⟨_, ho, rfl⟩ F.entry_tuple_mul (F.args_tuple_mul_2 _ _) (mul_zero l its.toArray n dd sl t hi) ⟨ho, ?_⟩⟩)
  refine ⟨.ref s.heap.objs.size, _, I.laid (t' := s.toks) (o := .tup []) (fun b ob q => Heap.get?_push_of_some _ q) (Nat.le_refl _) ?_, rfl, q _ (I.hok.fresh (Nat.le_refl _))⟩
  exact ⟨Nat.zero_le _, [], .nil, IsTup.new _ _⟩
end
end G

/-! new tuples whose object is known -/
namespace G
open PySem PySem.Spec L2
section
variable {X : Cx}
/-- a new tuple's object -/
abbrev tuO (js : List Value) : Obj := { cls := .type "tuple", data := .seq js.toArray }
/-- what holds of a new tuple -/
def NewT (H : Hp) (ws : List V) (Q : VK) : Prop := ∀ p o, H p = none → o.dict = none → Q (.ref p) (upd H p (.frz o (.tup ws)))
theorem laidF {pins : List (Addr × Obj)} {τ : L2.St} {H : Hp} {s : Shared} {h' : Heap} {t' : Nat} {ws : List V} {js : List Value} {Q : VK} (J : Inv X pins τ H s) (kp : ∀ b u, s.heap.get? b = some u → h'.get? b = some u)
    (rv : Vals ws js) (hz : ws.length ≤ sizeLine) (q : NewT H ws Q) : EP X pins τ Q (.ref h'.objs.size) { s with heap := h'.push (tuO js), toks := t' } := by
  have J1 : Inv X pins τ H { s with heap := h', toks := t' } := J.kept kp
  have e : (h'.push (tuO js)).get? h'.objs.size = some (tuO js) := Heap.get?_push_size _ rfl
  refine ⟨.ref h'.objs.size, _, J1.laid (t' := t') (o := .frz (tuO js) (.tup ws)) (fun b ob q => Heap.get?_push_of_some _ q) (Nat.le_refl _) ?_, rfl, q _ (tuO js) (J1.hok.fresh (Nat.le_refl _)) rfl⟩
  exact ⟨e, hz, js, rv, ⟨_, e, rfl, _, rfl⟩⟩
theorem laidF0 {pins : List (Addr × Obj)} {τ : L2.St} {H : Hp} {s : Shared} {ws : List V} {js : List Value} {Q : VK} (J : Inv X pins τ H s)
    (rv : Vals ws js) (hz : ws.length ≤ sizeLine) (q : NewT H ws Q) : EP X pins τ Q (.ref s.heap.objs.size) { s with heap := s.heap.push (tuO js) } :=
  laidF (t' := s.toks) J (fun _ _ e => e) rv hz q
def tTupF (t : TA) : TE := fun τ H Q => t τ H fun ws H1 => ws.length ≤ sizeLine ∧ NewT H1 ws Q
theorem pe_tupF {es : List Expr} {t : TA} {n : Nat} {pos : Pos} (h : PA X es t) : PE X (.Tuple es n pos) (tTupF t) := ⟨fun pins s τ H Q J hq => by
  refine wpAny_Tuple_spliced (thn (h.run pos pins s τ H _ J hq) fun js s1 ⟨ws, H1, J1, rv, hz, q⟩ => ⟨?_, ?_⟩)
  · rw [← rv.length]; exact hz
  · exact laidF0 J1 rv hz q⟩
def rCatF (K : PySem.W.Frag) : R2 := fun x y H Q => ∃ a b xs ys, x = .ref a ∧ y = .ref b ∧ SqT K H a xs ∧ SqT K H b ys ∧ xs.length + ys.length ≤ sizeLine ∧
  (xs = [] → Q (.ref b) H) ∧ (xs ≠ [] → ys = [] → Q (.ref a) H) ∧ NewT H (xs ++ ys) Q
theorem op_catF : OpR X (binaryOp .Add) (rCatF X.K) := by
  intro pins s τ H x y v u Q J rx ry ⟨a, b, xs, ys, ex, ey, ha, hb, hz, q0, q1, q2⟩
  subst ex ey
  cases rx; cases ry
  by_cases hx : xs = []
  · subst hx
    exact op_catA pins s τ H (.ref a) (.ref b) (.ref a) (.ref b) Q J rfl rfl ⟨a, b, [], ys, rfl, rfl, ha, hb, hz, q0, fun e => absurd rfl e, fun e => absurd rfl e⟩
  · obtain ⟨js, w1, t1, _⟩ := J.tuple ha
    obtain ⟨ks, w2, t2, _⟩ := J.tuple hb
    have l1 := w1.length
    have l2 := w2.length
    refine HT.cat_tup t1 t2 (fun z => hx (w1.nil_iff.mp z)) (fun z => ⟨.ref a, H, J, rfl, q1 hx (w2.nil_iff.mp z)⟩) (fun z => laidF0 J (w1.append w2) (by rw [List.length_append]; exact hz) q2) (by omega)
/-- t[lo:hi] -/
def rSlF (K : PySem.W.Frag) : V → Option Int → Option Int → Hp → VK → Prop := fun x lo hi H Q => ∃ a xs, x = .ref a ∧ SqT K H a xs ∧
  (HT.sIx xs.length 0 lo = 0 ∧ HT.sIx xs.length xs.length hi = xs.length → Q (.ref a) H) ∧ NewT H (cutV xs lo hi) Q
theorem sl_tupF : SlR X (rSlF X.K) := by
  intro pins s τ H x v vl vu lo hi sl Q J rx hs pl pu ⟨a, xs, ex, hx, q1, q2⟩
  subst ex
  by_cases hw : HT.sIx xs.length 0 lo = 0 ∧ HT.sIx xs.length xs.length hi = xs.length
  · exact sl_tupA pins s τ H _ v vl vu lo hi sl Q J rx hs pl pu ⟨a, xs, rfl, hx, q1, fun n => absurd hw n⟩
  · cases rx
    obtain ⟨js, w, ht, hz⟩ := J.tuple hx
    have hl : js.toArray.size = xs.length := by rw [List.size_toArray]; exact w.length.symm
    refine ⟨"tuple", _, PyProof.Rows.slot_tuple_getitem.lookup, ht.typeIs, HT.getItem_tuple_cut ht hs pl pu (by rw [hl]; exact hw) ?_ (by rw [hl]; exact hz)⟩
    rw [hl]
    exact laidF0 J ((w.drop (HT.sIx xs.length 0 lo)).take (HT.sIx xs.length xs.length hi - HT.sIx xs.length 0 lo)) (Nat.le_trans (cutV_length xs lo hi) hz) q2
/-- tuple(a list) -/
theorem call_tupleF : CallR X (.type "tuple") (fun xs H Q => ∃ p ys, xs = [.ref p] ∧ SqL X.K H p ys ∧ NewT H ys Q) := by
  intro pins s τ H xs us Q J rr ⟨p, ys, ex, hq, q⟩
  subst ex
  obtain ⟨u, eu, ru⟩ := rr.one
  subst eu
  cases ru
  obtain ⟨js, w, pl, hz⟩ := J.list hq
  have l := w.length
  exact call_tuple_list pl.isList (fun h' kp => laidF (t' := s.toks) J kp w hz q) (by simp only [List.size_toArray]; omega)
end
section
variable {K : PySem.W.Frag} {fa : FA}
/-- a new tuple, its object known -/
theorem Gr.tupF {S H : Hp} {p : Addr} {o : Obj} {vs : List V} {ds : List D} (h : Sub S H) (n : H p = none) (hd : o.dict = none) (r : Reps K fa S vs ds) : Gr S H (upd S p (.frz o (.tup vs))) (upd H p (.frz o (.tup vs))) ∧ Rep K fa (upd S p (.frz o (.tup vs))) (.ref p) (.tup ds) :=
  have g := Gr.new (o := .frz o (.tup vs)) h n
  ⟨g, .tup (.inl (.inr ⟨_, upd_same⟩)) (fun _ => ⟨_, _, upd_same, hd⟩) (r.mono g.ss)⟩
end
end G

/-! what a suite of an except clause needs: isinstance of the caught, calls there -/
namespace G
open PySem PySem.Spec L2 PyProof.Rows
/-! ### isinstance -/
/-- a class and its caught instance in a context -/
structure Held (X : Cx) (C a : Addr) : Prop where
  ex : ∃ oe, (a, oe) ∈ X.pn ∧ Zc (.ref C) none oe ∧ ∃ vs, oe.data = .fields vs
  ok : ExcC X.K C
theorem Held.inst {X : Cx} {C a : Addr} (h : Held X C a) {pins : List (Addr × Obj)} {σ : L2.St} {H : Hp} {s : Shared} (I : Inv X pins σ H s) : ∃ oe, PySem.W.InstAt s.heap a oe C none := by
  obtain ⟨oe, hp, hz, vs, hv⟩ := h.ex
  obtain ⟨hget, _⟩ := I.pin (a, oe) (List.mem_append.mpr (.inl hp))
  refine ⟨oe, ?_⟩
  obtain ⟨oc, od, oda, osl⟩ := oe
  obtain ⟨h1, h2⟩ := hz
  dsimp only at h1 h2 hv
  subst h1 h2 hv
  exact ⟨hget, rfl, rfl, trivial⟩
section
variable {X : Cx} {C a : Addr}
/-- a class as a value -/
def ClsV (c : V) (u : Value) : Prop := ∀ w, RelV c w → w = u
theorem call_isH (h : Held X C a) : CallR X (.builtin "isinstance") (rIsE X.K C a) := by
  intro pins s σ H xs us Q I r q
  obtain ⟨c, cv, b, rfl, hcv, e, q⟩ := q
  cases r with
  | cons rx rr =>
    cases rr with
    | cons rt rr =>
      cases rr
      cases rx
      have ec := hcv _ rt
      subst ec
      obtain ⟨oe, J⟩ := h.inst I
      have D := h.ok
      exact PySem.W.kia_one (PySem.W.handS_kitx_exc D.hg D.hk D.hs D.hd D.ha D.hn D.ht D.hm) I.kIn J e (fun z => nomatch z) fun tk => ⟨.bl b, H, I.kept (t' := tk) fun _ _ z => z, rfl, q⟩
/-- isinstance(e, (..)) -/
def rIsT (K : PySem.W.Frag) (C a : Addr) : List V → Hp → VK → Prop := fun xs H Q => ∃ (p : Addr) (o : Obj) (ws : List V) (cvs : List Value) (b : Bool), xs = [.ref a, .ref p] ∧ H p = some (.frz o (.tup ws)) ∧ Paired ClsV ws cvs ∧ PySem.W.kitAny K (.ref C) cvs = some b ∧ Q (.bl b) H
theorem clsV_all : ∀ {ws : List V} {cvs us : List Value}, Paired ClsV ws cvs → Vals ws us → us = cvs
  | _, _, _, .nil, .nil => rfl
  | _, _, _, .cons h t, .cons h' t' => by rw [h _ h', clsV_all t t']
theorem call_isTH (h : Held X C a) : CallR X (.builtin "isinstance") (rIsT X.K C a) := by
  intro pins s σ H xs us Q I r q
  obtain ⟨p, o, ws, cvs, b, rfl, hH, hc, e, q⟩ := q
  cases r with
  | cons rx rr =>
    cases rr with
    | cons rt rr =>
      cases rr
      cases rx
      cases rt
      obtain ⟨oe, J⟩ := h.inst I
      have D := h.ok
      obtain ⟨eo, _, js, rv, ⟨o', eo', hcl, n, hd⟩⟩ := I.hok p _ hH
      have z := clsV_all hc rv
      subst z
      obtain ⟨cls, dd, data, sl⟩ := o'
      simp only at hcl hd
      subst hcl hd
      exact PySem.W.kia_tup (PySem.W.handS_kitx_exc D.hg D.hk D.hs D.hd D.ha D.hn D.ht D.hm) I.kIn J eo' e (fun z => nomatch z) fun tk => ⟨.bl b, H, I.kept (t' := tk) fun _ _ z => z, rfl, q⟩
end
theorem kit_all {K : PySem.W.Frag} {t : Value} : ∀ {cvs : List Value} {bs : List Bool}, Paired (fun c b => PySem.W.kitOne K t c = some b) cvs bs → PySem.W.kitAny K t cvs = some (bs.any id)
  | _, _, .nil => rfl
  | _, _, .cons (b := b) h r => by
    unfold PySem.W.kitAny
    rw [h]
    cases b with
    | true => rfl
    | false => simpa using kit_all r
/-! ### calls in a suite -/
/-- what a def promises there; p is the caught one -/
structure FnK (P : Program) (w : World) (K : PySem.W.Frag) (mg : Str → Option Value) (base : Heap) (CX : CXT) (k : Nat) (f : Addr) (fd : FuncData) (ps : List Str) (p : Addr × Obj) (sp : Sp) : Prop where
  len : ∀ vs H Q E, sp vs H Q E → vs.length = ps.length
  run : ∀ (A : Around) (outer : List Env) (s : Shared) (H : Hp) (args : Args) (us : List Value) (vs : List V) (Q : VK) (E : XK), L2H.RoomH k A → L2H.PinOk outer H s p → Env0 P w K mg base A outer s H → BindsTo s fd args (ps.zip us) → Vals vs us → sp vs H Q E →
    codeAny (model P w) A (.call (.ref f) args) (L2.CR CX outer P w H s Q E) s
theorem fn_ofK {CX : CXT} {P : Program} {w : World} {K : PySem.W.Frag} {mg : Str → Option Value} {base : Heap} {k : Nat} {f : Addr} {name qual : Str} {params : Arguments} {body : List Stmt} {scope : Scope} {dV kV doc pm cdv ct oc : Value} {an od : Option Addr}
    {osl : Array (Option Value)} {N ps : List Str} {sp : Sp} {p : Addr × Obj} (lk : K.lookup f = some ⟨oc, od, .func (PySem.W.fnOf name qual params body scope dV kV doc pm an cdv ct), osl⟩) (hcd : PySem.W.codeIn K cdv qual = true) (S : FnScope N ps scope)
    (len : ∀ vs H Q E, sp vs H Q E → vs.length = ps.length)
    (hbody : ∀ (A : Around) (outer : List Env) (s : Shared) (H : Hp) (vs : List V) (Q : VK) (E : XK), L2H.RoomH k (A.deeper (envOfC qual scope s.heap.objs.size f cdv)) → sp vs H Q E →
      ∃ t, PSs (L2H.cxH CX P w K mg base N qual scope f cdv A outer s H E p) body t ∧ t { nx := fun _ H' => Q .non H', rt := Q } (L2.start N vs) H) :
    FnK P w K mg base CX (k + 1) f (PySem.W.fnOf name qual params body scope dV kV doc pm an cdv ct) ps p sp := by
  refine ⟨len, fun A outer s H args us vs Q E hr hpin e0 hb r hsp => ?_⟩
  have hl := len _ _ _ _ hsp
  have KX : K.In s.heap := e0.mod.kin.keeps fun b o e => (e0.bs b o e).1
  have lim : s.heap.NoLimit := e0.mod.nolimit.keeps fun b o e => (e0.bs b o e).1
  have hkind : ∀ y ∈ ps.zip us, scope.names.lookup y.1 = some .local ∨ (scope.names.lookup y.1 = some .cell ∧ ((cellsFrom (s.heap.objs.size + 1) scope.names []).lookup y.1).isSome = true) := fun ⟨n, v⟩ hy => by
    rcases S.par n (List.of_mem_zip hy).1 with q | q
    · exact .inl q
    · exact .inr ⟨q, PySem.W.cellsFrom_some _ _ _ (.inl q)⟩
  refine codeAny_call_function hr.depth (KX _ _ lk) rfl S.co S.gen rfl (PySem.W.codeRec_of KX hcd) (hb _ _ _ _ ?_)
  refine wpAny_newFunctionEnv_cells S.kind hkind fun env he s1 x => ?_
  subst he
  refine ⟨lim.keeps x.toInCall.keep, codeAny_func ?_⟩
  obtain ⟨t, ht, hq⟩ := hbody A outer s H vs Q E (hr.deeper _) hsp
  have I : Inv (L2H.cxH CX P w K mg base N qual scope f cdv A outer s H E p) [] (L2.start N vs) H s1 := L2H.inv_startH S hpin e0 hl r x
  refine wpAny_mono (ht.run [] s1 (L2.start N vs) H _ I hq) (fun fl s' hs => ?_) fun e s' hs => hs
  have fin : ∀ {σ' : L2.St} {H' : Hp} {v : V} {u : Value}, Inv (L2H.cxH CX P w K mg base N qual scope f cdv A outer s H E p) [] σ' H' s' → RelV v u → Q v H' → CE outer P w H s Q u s' :=
    fun {σ' H' v u} J rv q => ⟨v, H', J.os, J.bare, J.base, J.hok, rv, q⟩
  cases fl with
  | ret u =>
    obtain ⟨v, σ', H', J, rv, q⟩ := hs
    exact fin J rv q
  | next =>
    obtain ⟨σ', H', J, q⟩ := hs
    exact fin (v := V.non) (u := Value.none) J rfl q
  | brk =>
    obtain ⟨_, _, _, q⟩ := hs
    exact False.elim q
  | cont =>
    obtain ⟨_, _, _, q⟩ := hs
    exact False.elim q
section
variable {X : Cx} {CX : CXT} {k : Nat} {f : Addr} {fd : FuncData} {ps : List Str} {sp : Sp} {E : L2.St → XK} {x : Str} {q pos : Pos} {e : Expr} {es : List Expr} {t : TA} {p : Addr × Obj}
theorem run_fnK {pins : List (Addr × Obj)} {σ : L2.St} {H : Hp} {s : Shared} {Q : VK} {us : List Value} {vs : List V} (F : FnK X.prog X.w X.K X.mg X.base CX k f fd ps p sp) (hr : L2H.RoomH k X.A) (hp : p ∈ X.pn) (hb : Binds X.K fd ps []) (hx : PassesAt CX X σ (E σ))
    (I : Inv X pins σ H s) (r : Vals vs us) (h : sp vs H Q (E σ)) : wpAny (model X.prog X.w) X.A (call (.ref f) us) (EP X pins σ Q) X.xe s := by
  have hl : us.length = ps.length := by rw [← r.length]; exact F.len _ _ _ _ h
  have b := hb s us I.kIn (by rw [List.append_nil]; exact hl)
  rw [List.append_nil] at b
  have P1 := I.pin p (List.mem_append_left _ hp)
  have hpin : L2H.PinOk X.stack H s p := ⟨P1.1, P1.2.1, fun hm => (List.mem_cons.mp (I.stkSub p.1 hm)).elim P1.2.2.1 P1.2.2.2.1, P1.2.2.2.2⟩
  refine wpAny_call (codeAny_mono (F.run X.A X.stack s H ⟨us, []⟩ us vs Q (E σ) hr hpin I.env0 b r h) fun r s' hq => ?_)
  cases r with
  | error e => exact hx pins H s e s' I hq
  | ok fl =>
    cases fl with
    | ret u => exact I.after hq
    | next => exact False.elim hq
    | brk => exact False.elim hq
    | cont => exact False.elim hq
theorem pe_callK (F : FnK X.prog X.w X.K X.mg X.base CX k f fd ps p sp) (hr : L2H.RoomH k X.A) (hp : p ∈ X.pn) (hg : Gl X x) (hm : X.mg x = some (.ref f)) (hk : PySem.W.keepIn X.K (.ref f) = true) (hb : Binds X.K fd ps []) (hx : ∀ σ, PassesAt CX X σ (E σ))
    (ha : PA X (e :: es) t) (hdb : (x == ("__debug__" : Str)) = false) (he : starEach (e :: es) X.env = (false, eval e X.env) :: starEach es X.env) (hpl : (backTo pos (starEach es X.env)).any (·.1) = false) :
    PE X (.Call (.Name x q) (e :: es) [] pos) (tCallS sp E t) := by
  refine ⟨fun pins s σ H Q I h => ?_⟩
  refine wpAny_Call_Name_kw (ld_glob I hg hm ?_ hdb)
  refine PySem.W.callWith_K (h₀ := X.base) I.ok.mod.kin hk (thn (ha.run pos pins s σ H _ I h) fun us s1 ⟨vs, H1, I1, r, q⟩ => ⟨I1.kIn, ?_⟩) he hpl
  exact run_fnK F hr hp hb (hx σ) I1 r q
end
end G

/-! operations on values do what the data's operations say -/
namespace L2
open PySem PySem.Spec PyProof.Rows
section
variable {X : Cx} {pins : List (Addr × Obj)} {σ : L2.St} {H : Hp} {s : Shared}
theorem Inv.lstR {a : Addr} {xs : List V} (I : Inv X pins σ H s) (h : Rd H a (.lst xs)) : xs.length ≤ sizeLine ∧ ∃ (its : List Value) (n : Nat), Vals xs its ∧ s.heap.get? a = some { cls := .type "list", data := .seq its.toArray n } := h.ok I.hok
theorem op_catR : OpR X (binaryOp .Add) (fun x y H Q => ∃ l b xs zs, x = .ref l ∧ y = .ref b ∧ Rd H l (.lst xs) ∧ Rd H b (.lst zs) ∧ xs.length + zs.length ≤ sizeLine ∧ ∀ p, H p = none → Q (.ref p) (upd H p (.lst (xs ++ zs)))) := by
  intro pins s τ H x y v u Q J rx ry ⟨l, b, xs, zs, ex, ey, hH, hB, hz, q⟩
  subst ex ey
  cases rx; cases ry
  obtain ⟨_, jt, n, r, e⟩ := J.lstR hH
  obtain ⟨_, kt, m, w, f⟩ := J.lstR hB
  have hl := r.length
  have hm := w.length
  refine PySem.P.add_list e f ?_ (by simp only [List.size_toArray]; omega)
  rw [show jt.toArray ++ kt.toArray = (jt ++ kt).toArray by simp]
  exact ⟨.ref _, _, J.lnew (t' := s.toks) (r.append w) (by simp only [List.length_append]; omega), rfl, q _ J.fresh⟩
theorem mt_extendR : MtM X "list.extend" (fun x vs H Q => ∃ l b xs zs, x = .ref l ∧ vs = [.ref b] ∧ H l = some (.lst xs) ∧ Rd H b (.lst zs) ∧ xs.length + zs.length ≤ sizeLine ∧ Q .non (upd H l (.lst (xs ++ zs)))) := by
  intro pins s τ H x vs v us Q J rx rv ⟨l, b, xs, zs, ex, ey, hH, hB, hz, q⟩
  subst ex ey
  cases rx
  obtain ⟨u, eu, ru⟩ := rv.one
  subst eu
  cases ru
  obtain ⟨_, jt, n, r, hl, e⟩ := J.lstM hH
  obtain ⟨_, kt, m, w, f⟩ := J.lstR hB
  have hm := w.length
  have hs : jt.toArray.size + kt.toArray.size ≤ sizeLine := by simp only [List.size_toArray]; omega
  have ht : ¬ (!jt.toArray.isEmpty && Builtin.List.listTooLong (jt.toArray.size + kt.toArray.size)) = true := by
    rw [notLongL hs]; simp
  have meets := AutoSeq1.list_extend_list_list_0 l jt.toArray n b kt.toArray m ht (by simp only [List.size_toArray]; omega) (by omega)
  refine call_meets F.slot_list_extend ⟨_, e, rfl⟩ F.entry_list_extend (F.args_list_extend_2 _ _) meets ⟨e, f, ?_⟩
  exact ⟨.non, _, J.lset (its' := jt ++ kt) hH e (by simp) (r.append w) (by simp only [List.length_append]; omega), rfl, q⟩
theorem op_repR : OpR X (binaryOp .Mult) (fun x y H Q => ∃ l k xs, x = .ref l ∧ y = .int k ∧ Rd H l (.lst xs) ∧ -(2 ^ 63) ≤ k ∧ k < 2 ^ 63 ∧ xs.length * k.toNat ≤ sizeLine ∧
  ∀ p, H p = none → Q (.ref p) (upd H p (.lst (List.replicate k.toNat xs).flatten))) := by
  intro pins s τ H x y v u Q J rx ry ⟨l, m, xs, ex, ey, hH, h1, h2, hz, q⟩
  subst ex ey
  cases rx
  obtain ⟨t, et⟩ := ry
  subst et
  obtain ⟨_, jt, n, r, e⟩ := J.lstR hH
  have hl := r.length
  have hln : jt.toArray.size * m.toNat ≤ sizeLine := by rw [List.size_toArray, ← hl]; exact hz
  have hc : ¬ jt.toArray.size * m.toNat > (2 ^ 63 - 1) / 8 := by
    have : (sizeLine : Nat) ≤ (2 ^ 63 - 1) / 8 := by decide
    omega
  have hf : ¬ (!Builtin.List.listFitsIndex m) = true := by simp [fitsIndex_both h1 h2]
  have hg : ¬ Builtin.List.listTooLong (jt.toArray.size * m.toNat) = true := by rw [notLongL hln]; simp
  have hn : List.foldl (fun a b => a ++ b) #[] (List.replicate (if jt.toArray.isEmpty = true then 0 else m.toNat) jt.toArray) = (List.replicate m.toNat jt).flatten.toArray := by
    have f0 : ∀ c : Nat, List.foldl (fun a b => a ++ b) #[] (List.replicate c jt.toArray) = (List.replicate c jt).flatten.toArray := fun c => by
      have z := foldl_rep jt c []
      rwa [List.nil_append] at z
    rw [f0]
    cases jt with
    | nil => simp
    | cons a rr => simp
  have inner := AutoListH.list___mul___list_int_3 l jt.toArray n m t hf hc hg
  refine wpAny_binaryOp_repeat_ref (T := "list") (U := "int") (by decide) ⟨_, e, rfl⟩ (fun s2 => typeIs_int s2 m t) noFill_list_mul F.fills_int_mul F.slot_int_rmul repeat_list F.slot_int_index.lookup
    (call_meets F.slot_int_rmul (typeIs_int s m t) F.entry_int_rmul (F.args_int_rmul_2 _ _) (int___rmul___int_list m t l jt.toArray n)
      ⟨e, rfl, ⟨_, e, rfl⟩, call_meets F.slot_list_mul ⟨_, e, rfl⟩ F.entry_list_mul (F.args_list_mul_2 _ _) inner ⟨e, ?_⟩⟩)
  rw [hn]
  exact ⟨.ref _, _, J.lnew (t' := s.toks) (r.rep m.toNat) (by rw [PyProof.Rows.lm_len_rep_flat, Nat.mul_comm]; exact hz), rfl, q _ J.fresh⟩
end
end L2
namespace G
open PySem PySem.Spec L2
def rB2 (K : PySem.W.Frag) (fa : FA) (f : D → D → Option (D × Bool)) : R2 := fun x y H Q => ∃ S p q z, Sub S H ∧ RepB K fa S H x p ∧ RepB K fa S H y q ∧ f p q = some z ∧
  ∀ v H' S', Gr S H S' H' → RV0 K fa H S' H' v z.1 z.2 → Q v H'
section
variable {X : Cx} {fa : FA}
theorem sOk.app {x y : List Nat} (h : sOk x) (h' : sOk y) (hl : x.length + y.length ≤ sizeLine) : sOk (x ++ y) :=
  ⟨fun c hc => (List.mem_append.mp hc).elim (h.1 c) (h'.1 c), by rw [List.length_append]; exact hl⟩
theorem ss_app (x y : List Nat) : ss x ++ ss y = ss (x ++ y) := by
  show (⟨x.toArray ++ y.toArray⟩ : Str) = ⟨(x ++ y).toArray⟩
  simp
theorem ss_len (x : List Nat) : (ss x).length = x.length := by
  show x.toArray.size = _
  simp
theorem rv0F {K : PySem.W.Frag} {H S' H' : Hp} {v : V} {d : D} (h : Rep K fa S' v d) : RV0 K fa H S' H' v d false := h
theorem rv0T {K : PySem.W.Frag} {H S' : Hp} {p : Addr} {vs : List V} {ds : List D} (n : H p = none) (hs : S' p = none) (h : Reps K fa S' vs ds) : RV0 K fa H S' (upd H p (.lst vs)) (.ref p) (.lst ds) true :=
  ⟨p, rfl, ⟨hs, vs, ds, rfl, upd_same, h⟩, n⟩
theorem rv0T' {K : PySem.W.Frag} {H S' H' : Hp} {p : Addr} {vs : List V} {ds : List D} (n : H p = none) (hs : S' p = none) (hh : H' p = some (.lst vs)) (h : Reps K fa S' vs ds) : RV0 K fa H S' H' (.ref p) (.lst ds) true :=
  ⟨p, rfl, ⟨hs, vs, ds, rfl, hh, h⟩, n⟩
theorem Sub.none {S H : Hp} (h : Sub S H) {p : Addr} (n : H p = none) : S p = none := by
  cases e : S p with
  | none => rfl
  | some o => rw [h _ _ e] at n; cases n
theorem lets_iff {ds : List D} : lets ds = true ↔ ds ≠ [] ∧ ∀ d ∈ ds, lett d = true := by
  cases ds with
  | nil => simp [lets]
  | cons d ds => simp [lets, List.all_eq_true]
theorem lets_sub {ds es : List D} (h : lets ds = false) (n : ds ≠ []) (s : ∀ d ∈ ds, d ∈ es) : lets es = false := by
  cases q : lets es with
  | false => rfl
  | true =>
    have := (lets_iff.mp q).2
    rw [lets_iff.mpr ⟨n, fun d hd => this d (s d hd)⟩] at h
    cases h
theorem lets_no {d : D} {ds : List D} (h : lett d = false) (m : d ∈ ds) : lets ds = false := by
  cases q : lets ds with
  | false => rfl
  | true => rw [(lets_iff.mp q).2 d m] at h; cases h
theorem lets_rep {ds : List D} {n : Nat} (h : lets ds = false) (ne : ds ≠ []) (hn : 0 < n) : lets (rep n ds) = false := lets_sub h ne fun d hd => by
  cases n with
  | zero => omega
  | succ n => simp [rep, List.replicate_succ, hd]
theorem lets_rg : ∀ (n : Nat) (i : Int), lets (rangeL i n) = false
  | 0, _ => rfl
  | n + 1, i => lets_no (d := .int i) rfl (by simp [rangeL])
theorem Gr.tup {K : PySem.W.Frag} {S H : Hp} {p : Addr} {vs : List V} {ds : List D} (h : Sub S H) (n : H p = none) (r : Reps K fa S vs ds) (nl : lets ds = false) : Gr S H (upd S p (.tup vs)) (upd H p (.tup vs)) ∧ Rep K fa (upd S p (.tup vs)) (.ref p) (.tup ds) :=
  have g := Gr.new (o := .tup vs) h n
  ⟨g, .tup (.inl (.inl upd_same)) (fun z => by rw [nl] at z; cases z) (r.mono g.ss)⟩
theorem ob_add : OpR X (binaryOp .Add) (rB2 X.K fa addD) := by
  intro pins s σ H x y v u Q I rx ry ⟨S, p, q, z, sub, hp, hq, e, post⟩
  unfold addD at e
  split at e
  · cases e
    exact op_add pins s σ H x y v u Q I rx ry ⟨_, _, hp.int, hq.int, post _ _ S (.refl sub) (rv0F (.int _))⟩
  · split at e
    · rename_i hl
      cases e
      obtain ⟨rfl, o1⟩ := hp.str
      obtain ⟨rfl, o2⟩ := hq.str
      refine op_add_str pins s σ H _ _ v u Q I rx ry ⟨_, _, rfl, rfl, by rw [ss_len, ss_len]; exact hl, ?_⟩
      rw [ss_app]
      exact post _ _ S (.refl sub) (rv0F (.str _ (o1.app o2 hl)))
    · cases e
  · split at e
    · rename_i hl
      cases e
      obtain ⟨a, xs, rfl, h1, r1⟩ := hp.lst sub
      obtain ⟨b, ys, rfl, h2, r2⟩ := hq.lst sub
      exact op_catR pins s σ H _ _ v u Q I rx ry ⟨a, b, xs, ys, rfl, rfl, h1, h2, by rw [r1.length, r2.length]; exact hl, fun p n =>
        post _ _ S (.fresh sub n) (rv0T n (sub.none n) (r1.app r2))⟩
    · cases e
  · split at e
    · rename_i hl
      cases e
      obtain ⟨a, xs, rfl, h1, h1', r1⟩ := hp.tup sub
      obtain ⟨b, ys, rfl, h2, h2', r2⟩ := hq.tup sub
      refine op_catF pins s σ H _ _ v u Q I rx ry ⟨a, b, xs, ys, rfl, rfl, h1, h2, by rw [r1.length, r2.length]; exact hl, fun e => ?_, fun _ e => ?_, fun p o n hd => ?_⟩
      · subst e
        cases r1
        exact post _ _ S (.refl sub) (rv0F (.tup h2'.1 h2'.2 r2))
      · subst e
        cases r2
        refine post _ _ S (.refl sub) (rv0F ?_)
        rw [List.append_nil]
        exact .tup h1'.1 h1'.2 r1
      · obtain ⟨g, r⟩ := Gr.tupF sub n hd (r1.app r2)
        exact post _ _ _ g (rv0F r)
    · cases e
  · cases e
theorem ob_sub : OpR X (binaryOp .Sub) (rB2 X.K fa subD) := by
  intro pins s σ H x y v u Q I rx ry ⟨S, p, q, z, sub, hp, hq, e, post⟩
  unfold subD at e
  split at e
  · cases e
    exact op_sub pins s σ H x y v u Q I rx ry ⟨_, _, hp.int, hq.int, post _ _ S (.refl sub) (rv0F (.int _))⟩
  · cases e
theorem op_mulX : OpR X (binaryOp .Mult) (rI (fun i j => i.natAbs.log2 + j.natAbs.log2 < 134217720) fun i j => .int (i * j)) := opI fun i j _ _ _ _ _ hc q => PyProof.Rows.mul_int q (by
  have b : ∀ x : Int, Builtin.Int.intBits x ≤ x.natAbs.log2 + 1 := fun x => by
    unfold Builtin.Int.intBits
    split <;> omega
  have b1 := b i
  have b2 := b j
  have e0 : PySem.bitsLine = 134217728 := by decide
  unfold PySem.IntMulOk
  intro z
  have z2 := (Bool.and_eq_true_iff.mp z).2
  unfold Builtin.Int.intTooBig at z2
  have z3 := of_decide_eq_true z2
  omega)
theorem ob_mul : OpR X (binaryOp .Mult) (rB2 X.K fa mulD) := by
  intro pins s σ H x y v u Q I rx ry ⟨S, p, q, z, sub, hp, hq, e, post⟩
  unfold mulD at e
  split at e
  · split at e
    · rename_i hl
      cases e
      exact op_mulX pins s σ H x y v u Q I rx ry ⟨_, _, hp.int, hq.int, hl, post _ _ S (.refl sub) (rv0F (.int _))⟩
    · cases e
  · split at e
    · rename_i hl
      cases e
      obtain ⟨a, xs, rfl, h1, r1⟩ := hp.lst sub
      exact op_repR pins s σ H _ _ v u Q I rx ry ⟨a, _, xs, rfl, hq.int, h1, hl.2.1, hl.2.2, by rw [r1.length]; exact hl.1, fun p n =>
        post _ _ S (.fresh sub n) (rv0T n (sub.none n) (r1.rep _))⟩
    · cases e
  · split at e
    · rename_i hl
      cases e
      obtain ⟨a, xs, rfl, h1, h1', r1⟩ := hp.tup sub
      have hx := r1.length
      refine op_repT pins s σ H _ _ v u Q I rx ry ⟨a, _, xs, rfl, hq.int, h1, fun e => ?_, hl.1.2.1, hl.1.2.2, by omega, fun p n => ?_⟩
      · rw [e] at hx; simp at hx; omega
      · obtain ⟨g, r⟩ := Gr.tup sub n (r1.rep (Int.toNat _)) (lets_rep (n := Int.toNat _) hl.2 (fun e => by rw [e] at hl; simp at hl) (Int.pos_iff_toNat_pos.mp (Int.lt_of_lt_of_le (by decide) hl.1.2.1)))
        exact post _ _ _ g (rv0F r)
    · split at e
      · rename_i hl
        cases e
        obtain ⟨a, xs, rfl, h1, h1', r1⟩ := hp.tup sub
        have hy := hq.int
        rw [hl.2] at hy
        exact op_once pins s σ H _ _ v u Q I rx ry ⟨a, xs, rfl, hy, h1, post _ _ S (.refl sub) (rv0F (.tup h1'.1 h1'.2 r1))⟩
      · split at e
        · rename_i hl
          cases e
          obtain ⟨a, xs, rfl, h1, h1', r1⟩ := hp.tup sub
          have hx := r1.length
          have hy := hq.int
          rw [hl.2] at hy
          refine op_none pins s σ H _ _ v u Q I rx ry ⟨a, xs, rfl, hy, h1, fun e => ?_, fun p n => ?_⟩
          · rw [e] at hx; simp at hx; omega
          · obtain ⟨g, r⟩ := Gr.tup (fa := fa) sub n (.nil) rfl
            exact post _ _ _ g (rv0F r)
        · cases e
  · cases e
theorem ob_div : OpR X (binaryOp .FloorDiv) (rB2 X.K fa divD) := by
  intro pins s σ H x y v u Q I rx ry ⟨S, p, q, z, sub, hp, hq, e, post⟩
  unfold divD at e
  split at e
  · split at e
    · rename_i hl
      cases e
      exact op_fdivW pins s σ H x y v u Q I rx ry ⟨_, _, hp.int, hq.int, hl, post _ _ S (.refl sub) (rv0F (.int _))⟩
    · cases e
  · cases e
theorem ob_mod : OpR X (binaryOp .Mod) (rB2 X.K fa modD) := by
  intro pins s σ H x y v u Q I rx ry ⟨S, p, q, z, sub, hp, hq, e, post⟩
  unfold modD at e
  split at e
  · split at e
    · rename_i hl
      cases e
      exact op_mod pins s σ H x y v u Q I rx ry ⟨_, _, hp.int, hq.int, hl, post _ _ S (.refl sub) (rv0F (.int _))⟩
    · cases e
  · cases e
theorem ob_pow : OpR X (binaryOp .Pow) (rB2 X.K fa powD) := by
  intro pins s σ H x y v u Q I rx ry ⟨S, p, q, z, sub, hp, hq, e, post⟩
  unfold powD at e
  split at e
  · split at e
    · rename_i hl
      cases e
      exact op_pow pins s σ H x y v u Q I rx ry ⟨_, _, hp.int, hq.int, hl, post _ _ S (.refl sub) (rv0F (.int _))⟩
    · cases e
  · cases e
/-- what the operators that have a rule are -/
def okBin : Operator → Bool
  | .Add | .Sub | .Mult | .FloorDiv | .Mod | .Pow => true
  | _ => false
theorem ob_bin {op : Operator} (h : okBin op = true) : OpR X (binaryOp op) (rB2 X.K fa (binD op)) := by
  cases op <;> first | exact ob_add | exact ob_sub | exact ob_mul | exact ob_div | exact ob_mod | exact ob_pow | exact absurd h (by decide)
end
end G

/-! comparisons -/
namespace G
open PySem PySem.Spec L2
mutual
def toPy : D → PyData
  | .bl b => .bool b
  | .int i => .int i
  | .str x => .str (ss x)
  | .tup xs => .tuple (toPyL xs)
  | .lst xs => .list (toPyL xs)
  | _ => .none
def toPyL : List D → List PyData
  | [] => []
  | x :: xs => toPy x :: toPyL xs
end
theorem ss_inj {x y : List Nat} : (ss x == ss y) = (x == y) := by
  rw [Bool.eq_iff_iff]
  simp [ss]
mutual
theorem eqv_py : ∀ d e : D, pl d = true → pl e = true → PyData.eqv (toPy d) (toPy e) = eqv d e
  | .non, e, _, h => by cases e <;> simp_all [toPy, PyData.eqv, eqv, pl]
  | .bl _, e, _, h => by cases e <;> simp_all [toPy, PyData.eqv, eqv, pl]
  | .int _, e, _, h => by cases e <;> simp_all [toPy, PyData.eqv, eqv, pl]
  | .str _, e, _, h => by cases e <;> simp_all [toPy, PyData.eqv, eqv, pl, ss_inj]
  | .tup xs, e, h', h => by
    cases e <;> simp_all [toPy, PyData.eqv, eqv, pl]
    exact eqvL_py _ _ h' h
  | .lst xs, e, h', h => by
    cases e <;> simp_all [toPy, PyData.eqv, eqv, pl]
    exact eqvL_py _ _ h' h
  | .dic _ _, _, h, _ => by simp [pl] at h
  | .ins _ _, _, h, _ => by simp [pl] at h
  | .fn _, _, h, _ => by simp [pl] at h
  | .cls _, _, h, _ => by simp [pl] at h
theorem eqvL_py : ∀ xs ys : List D, plL xs = true → plL ys = true → PyData.eqvAll (toPyL xs) (toPyL ys) = eqvL xs ys
  | [], [], _, _ => by simp [toPyL, PyData.eqvAll, eqvL]
  | [], _ :: _, _, _ => by simp [toPyL, PyData.eqvAll, eqvL]
  | _ :: _, [], _, _ => by simp [toPyL, PyData.eqvAll, eqvL]
  | x :: xs, y :: ys, h, h' => by
    simp only [plL, Bool.and_eq_true] at h h'
    simp only [toPyL, PyData.eqvAll, eqvL, eqv_py x y h.1 h'.1, eqvL_py xs ys h.2 h'.2]
end
mutual
theorem dep_py : ∀ d : D, (toPy d).depth = dep d
  | .non | .bl _ | .int _ | .str _ | .dic _ _ | .ins _ _ | .fn _ | .cls _ => by simp [toPy, PyData.depth, dep]
  | .tup xs => by simp [toPy, PyData.depth, dep, depL_py xs]
  | .lst xs => by simp [toPy, PyData.depth, dep, depL_py xs]
theorem depL_py : ∀ xs : List D, PyData.depthAll (toPyL xs) = depL xs
  | [] => by simp [toPyL, PyData.depthAll, depL]
  | x :: xs => by simp [toPyL, PyData.depthAll, depL, dep_py x, depL_py xs]
end
section
variable {K : PySem.W.Frag} {fa : FA} {S H : Hp}
mutual
theorem Rep.dp : ∀ {v : V} {d : D}, Rep K fa H v d → pl d = true → Dp K H v (toPy d) ∧ (toPy d).canLay0 = true
  | _, _, .non, _ => ⟨.non, by simp [toPy, PyData.canLay0]⟩
  | _, _, .bl b, _ => ⟨.bl b, by simp [toPy, PyData.canLay0]⟩
  | _, _, .int i, _ => ⟨.int i, by simp [toPy, PyData.canLay0]⟩
  | _, _, .str x h, _ => ⟨.str _, by
      simp only [toPy, PyData.canLay0, PyData.strOk, ss]
      simp
      exact h.1⟩
  | _, _, .tup h _ r, p => by
    have q := Reps.dp r (by simpa [pl] using p)
    exact ⟨.tup h q.1, by simpa [toPy, PyData.canLay0] using q.2⟩
  | _, _, .lst h r, p => by
    have q := Reps.dp r (by simpa [pl] using p)
    exact ⟨.lst (.inl h) q.1, by simpa [toPy, PyData.canLay0] using q.2⟩
  | _, _, .fn _ h, p => by simp [pl] at p
  | _, _, .ins h, p => by simp [pl] at p
theorem Reps.dp : ∀ {vs : List V} {ds : List D}, Reps K fa H vs ds → plL ds = true → DpAll K H vs (toPyL ds) ∧ PyData.canLayAll0 (toPyL ds) = true
  | _, _, .nil, _ => ⟨.nil, by simp [toPyL, PyData.canLayAll0]⟩
  | _, _, .cons h r, p => by
    simp only [plL, Bool.and_eq_true] at p
    have q1 := Rep.dp h p.1
    have q2 := Reps.dp r p.2
    exact ⟨.cons q1.1 q2.1, by simp [toPyL, PyData.canLayAll0, q1.2, q2.2]⟩
end
end
theorem shaped_py {d : D} (h : (toPy d).canLay0 = true) (h' : dep d ≤ 60) : SeqAt.shaped (toPy d) = true := by
  simp only [SeqAt.shaped, h, dep_py, Bool.true_and, decide_eq_true_eq]
  omega
/-- comparisons by values -/
def rC2 (K : PySem.W.Frag) (fa : FA) (f : D → D → Option Bool) : R2 := fun x y H Q => ∃ S p q b, Sub S H ∧ RepB K fa S H x p ∧ RepB K fa S H y q ∧ f p q = some b ∧ Q (.bl b) H
theorem cmpable_iff {a b : D} (h : cmpable a b = true) : pl a = true ∧ pl b = true ∧ dep a ≤ 60 ∧ dep b ≤ 60 := by
  simp only [cmpable, Bool.and_eq_true, decide_eq_true_eq] at h
  exact ⟨h.1.1.1, h.1.1.2, h.1.2, h.2⟩
section
variable {X : Cx} {fa : FA}
theorem oc_eq (hu : X.A.units + 64 < cLine) : OpR X (compareOp .Eq) (rC2 X.K fa eqC) := by
  intro pins s σ H x y v u Q I rx ry ⟨S, p, q, b, sub, hp, hq, e, post⟩
  unfold eqC at e
  split at e
  · rename_i hc
    cases e
    obtain ⟨h1, h2, h3, h4⟩ := cmpable_iff hc
    have d1 := (hp.heap sub).dp h1
    have d2 := (hq.heap sub).dp h2
    refine op_eqD hu pins s σ H x y v u Q I rx ry ⟨_, _, d1.1, d2.1, shaped_py d1.2 h3, shaped_py d2.2 h4, ?_⟩
    rw [eqv_py p q h1 h2]
    exact post
  · cases e
theorem oc_ne (hu : X.A.units + 64 < cLine) : OpR X (compareOp .NotEq) (rC2 X.K fa fun a b => (eqC a b).map (!·)) := by
  intro pins s σ H x y v u Q I rx ry ⟨S, p, q, b, sub, hp, hq, e, post⟩
  simp only [eqC] at e
  split at e
  · rename_i hc
    cases e
    obtain ⟨h1, h2, h3, h4⟩ := cmpable_iff hc
    have d1 := (hp.heap sub).dp h1
    have d2 := (hq.heap sub).dp h2
    refine op_neD hu pins s σ H x y v u Q I rx ry ⟨_, _, d1.1, d2.1, shaped_py d1.2 h3, shaped_py d2.2 h4, ?_⟩
    rw [eqv_py p q h1 h2]
    exact post
  · cases e
/-- the lexicographic order of two rows by its places -/
theorem lex_at (ds es : List D) (e r : Nat → Bool) (he : ∀ j (h : j < ds.length) (h' : j < es.length), e j = eqv ds[j] es[j]) (hr : ∀ j (h : j < ds.length) (h' : j < es.length), e j = false → r j = ltB ds[j] es[j]) :
    ∀ (n i : Nat), n = min ds.length es.length - i → i ≤ min ds.length es.length → Ob.lexAt e r (decide (ds.length < es.length)) i n = ltBL (ds.drop i) (es.drop i)
  | 0, i, hn, hi => by
    rw [Ob.lexAt_zero]
    have : i = min ds.length es.length := by omega
    rcases Nat.lt_or_ge ds.length es.length with h | h
    · have e1 : i = ds.length := by omega
      subst e1
      rw [List.drop_length, List.drop_eq_getElem_cons h]
      simp [ltBL, h]
    · have e1 : i = es.length := by omega
      subst e1
      rw [List.drop_length]
      have : ¬ ds.length < es.length := by omega
      simp [ltBL, this]
  | n + 1, i, hn, hi => by
    have h1 : i < ds.length := by omega
    have h2 : i < es.length := by omega
    rw [Ob.lexAt_succ, List.drop_eq_getElem_cons h1, List.drop_eq_getElem_cons h2]
    have ih := lex_at ds es e r he hr n (i + 1) (by omega) (by omega)
    simp only [ltBL]
    rw [ih, he i h1 h2]
    by_cases z : eqv ds[i] es[i] = true
    · rw [if_pos z, if_pos z]
    · rw [if_neg z, if_neg z]
      exact hr i h1 h2 (by rw [he i h1 h2]; simpa using z)
theorem cmpbL_at : ∀ {ds es : List D}, cmpbL ds es = true → ∀ j (h : j < ds.length) (h' : j < es.length), eqv ds[j] es[j] = false → cmpb ds[j] es[j] = true
  | [], _, _, _, h, _, _ => by simp at h
  | _ :: _, [], _, _, _, h, _ => by simp at h
  | x :: xs, y :: ys, h, 0, _, _, e => by
    simp only [cmpbL, Bool.and_eq_true, Bool.or_eq_true] at h
    rcases h.1 with z | z
    · rw [List.getElem_cons_zero, List.getElem_cons_zero] at e
      rw [e] at z; cases z
    · exact z
  | x :: xs, y :: ys, h, j + 1, h1, h2, e => by
    simp only [cmpbL, Bool.and_eq_true] at h
    simp only [List.getElem_cons_succ] at e ⊢
    exact cmpbL_at h.2 j _ _ e
theorem plL_at : ∀ {ds : List D}, plL ds = true → ∀ j (h : j < ds.length), pl ds[j] = true
  | x :: xs, h, 0, _ => by simp only [plL, Bool.and_eq_true] at h; exact h.1
  | x :: xs, h, j + 1, h1 => by
    simp only [plL, Bool.and_eq_true] at h
    exact plL_at h.2 j _
theorem depL_at : ∀ {ds : List D} (j : Nat) (h : j < ds.length), dep ds[j] ≤ depL ds
  | x :: xs, 0, _ => by simp only [depL, List.getElem_cons_zero]; omega
  | x :: xs, j + 1, h1 => by
    have := depL_at (ds := xs) j (by simpa using h1)
    simp only [depL, List.getElem_cons_succ]; omega
theorem Reps.at {K : PySem.W.Frag} {S : Hp} {vs : List V} {ds : List D} (r : Reps K fa S vs ds) (j : Nat) (h : j < ds.length) : ∃ h' : j < vs.length, Rep K fa S vs[j] ds[j] := by
  have hl := r.length
  have h' : j < vs.length := by omega
  obtain ⟨v, e1, e2⟩ := r.get (List.getElem?_eq_getElem h)
  rw [List.getElem?_eq_getElem h'] at e1
  cases e1
  exact ⟨h', e2⟩
theorem Vals.at {vs : List V} {us : List Value} (r : Vals vs us) (j : Nat) (h : j < us.length) : ∃ h' : j < vs.length, RelV vs[j] us[j] := by
  have hl := L2.Vals.length r
  have h' : j < vs.length := by omega
  obtain ⟨v, e1, e2⟩ := L2.Vals.get r (List.getElem?_eq_getElem h')
  rw [List.getElem?_eq_getElem h] at e1
  cases e1
  exact ⟨h', e2⟩
theorem lt_at {pins : List (Addr × Obj)} {s : Shared} {σ : L2.St} {H : Hp} (I : Inv X pins σ H s) : ∀ (n : Nat) (d e : D) (x y : V) (u w : Value) (A : Around), dep d ≤ n → dep d ≤ 60 → dep e ≤ 60 → Rep X.K fa H x d → Rep X.K fa H y e → RelV x u → RelV y w → pl d = true → pl e = true → cmpb d e = true →
    A.units + n + 64 < cLine → Ob.RcOp .Lt A s u w (ltB d e) := by
  intro n
  induction n with
  | zero =>
    intro d e x y u w A hn h1 h2 hx hy ru rw' p1 p2 hc hu
    cases hx with
    | int i =>
      cases hy with
      | int j =>
        obtain ⟨t, rfl⟩ := ru
        obtain ⟨t', rfl⟩ := rw'
        simp only [ltB]
        exact Ob.RcOp.lt_int _ _ _ _
      | _ => simp [cmpb] at hc
    | str a ha =>
      cases hy with
      | str b hb =>
        obtain ⟨t, rfl⟩ := ru
        obtain ⟨t', rfl⟩ := rw'
        intro prog w' E Q h
        exact PyProof.Rows.lt_str (by simpa [ltB, ss] using h)
      | _ => simp [cmpb] at hc
    | tup h _ r => simp [dep] at hn
    | _ => simp [cmpb] at hc
  | succ n ih =>
    intro d e x y u w A hn h1 h2 hx hy ru rw' p1 p2 hc hu
    cases hx with
    | int i =>
      cases hy with
      | int j =>
        obtain ⟨t, rfl⟩ := ru
        obtain ⟨t', rfl⟩ := rw'
        simp only [ltB]
        exact Ob.RcOp.lt_int _ _ _ _
      | _ => simp [cmpb] at hc
    | str a ha =>
      cases hy with
      | str b hb =>
        obtain ⟨t, rfl⟩ := ru
        obtain ⟨t', rfl⟩ := rw'
        intro prog w' E Q h
        exact PyProof.Rows.lt_str (by simpa [ltB, ss] using h)
      | _ => simp [cmpb] at hc
    | @tup a vs ds h _ r =>
      cases hy with
      | @tup b ws es h' _ r' =>
        cases ru
        cases rw'
        obtain ⟨its, rv, t1, _⟩ := I.tuple h
        obtain ⟨its', rv', t2, _⟩ := I.tuple h'
        simp only [pl] at p1 p2
        simp only [cmpb] at hc
        simp only [dep] at hn h1 h2
        have l1 : its.length = ds.length := by rw [← L2.Vals.length rv, r.length]
        have l2 : its'.length = es.length := by rw [← L2.Vals.length rv', r'.length]
        have key := Ob.RcOp.tuples_lt (A := A) (s := s) (e := fun j => eqv (ds.getD j .non) (es.getD j .non)) (r := fun j => ltB (ds.getD j .non) (es.getD j .non)) t1 t2 (by omega) (fun j j1 j2 => ?_) (fun j j1 j2 ej => ?_)
        · have g := lex_at ds es (fun j => eqv (ds.getD j .non) (es.getD j .non)) (fun j => ltB (ds.getD j .non) (es.getD j .non)) (fun j q1 q2 => by simp [q1, q2]) (fun j q1 q2 _ => by simp [q1, q2]) _ 0 rfl (Nat.zero_le _)
          simp only [List.drop_zero, Nat.sub_zero] at g
          simp only [ltB]
          rw [← g]
          simpa [l1, l2] using key
        · have k1 : j < ds.length := by simpa [l1] using j1
          have k2 : j < es.length := by simpa [l2] using j2
          obtain ⟨m1, e1⟩ := r.at j k1
          obtain ⟨m2, e2⟩ := r'.at j k2
          obtain ⟨_, f1⟩ := Vals.at rv j (by omega)
          obtain ⟨_, f2⟩ := Vals.at rv' j (by omega)
          have q1 := e1.dp (plL_at p1 j k1)
          have q2 := e2.dp (plL_at p2 j k2)
          obtain ⟨as, z1⟩ := Dp.reads I _ _ _ q1.1 f1
          obtain ⟨bs, z2⟩ := Dp.reads I _ _ _ q2.1 f2
          have b1 := depL_at (ds := ds) j k1
          have hun : A.in1.units = A.units + 1 := rfl
          have := SeqAt.eqAt_reads (toPy ds[j]) (toPy es[j]) A.in1 s _ _ _ _ z1 z2 q1.2 q2.2 (by rw [dep_py, dep_py, hun]; omega)
          rw [eqv_py _ _ (plL_at p1 j k1) (plL_at p2 j k2)] at this
          simpa [k1, k2] using this
        · have k1 : j < ds.length := by simpa [l1] using j1
          have k2 : j < es.length := by simpa [l2] using j2
          obtain ⟨m1, e1⟩ := r.at j k1
          obtain ⟨m2, e2⟩ := r'.at j k2
          obtain ⟨_, f1⟩ := Vals.at rv j (by omega)
          obtain ⟨_, f2⟩ := Vals.at rv' j (by omega)
          have b1 := depL_at (ds := ds) j k1
          have b2 := depL_at (ds := es) j k2
          have hun : A.in1.units = A.units + 1 := rfl
          have := ih ds[j] es[j] _ _ _ _ A.in1 (by omega) (by omega) (by omega) e1 e2 f1 f2 (plL_at p1 j k1) (plL_at p2 j k2) (cmpbL_at hc j k1 k2 (by simpa [k1, k2] using ej)) (by rw [hun]; omega)
          simpa [k1, k2] using this
      | _ => simp [cmpb] at hc
    | _ => simp [cmpb] at hc
end
end G

/-! comparisons, further; in; truth; indices; slices -/
namespace G
open PySem PySem.Spec L2
section
variable {X : Cx} {fa : FA} {pins : List (Addr × Obj)} {s : Shared} {σ : L2.St} {H : Hp}
mutual
theorem Rep.inj (I : Inv X pins σ H s) : ∀ {d e : D} {v : V}, Rep X.K fa H v d → Rep X.K fa H v e → pl d = true → pl e = true → d = e
  | _, _, _, .non, h, _, _ => by cases h; rfl
  | _, _, _, .bl _, h, _, _ => by cases h; rfl
  | _, _, _, .int _, h, _, _ => by cases h; rfl
  | _, _, _, .str x hx, h, _, _ => by
    generalize ev : V.str (ss x) = v at h
    cases h with
    | str y hy =>
      have e1 : ss x = ss y := V.str.inj ev
      have e2 : x = y := by
        have := congrArg (fun z : Str => z.cps.toList) e1
        simpa [ss] using this
      rw [e2]
    | _ => cases ev
  | _, _, _, .tup h _ r, h', p, q => by
    generalize ev : V.ref _ = v at h'
    cases h' with
    | tup h2 _ r2 =>
      cases ev
      have e := I.tuple_inj h h2
      subst e
      rw [Reps.inj I r r2 (by simpa [pl] using p) (by simpa [pl] using q)]
    | lst h2 r2 =>
      cases ev
      obtain ⟨_, _, ⟨o, e1, c1, _⟩, _⟩ := I.tuple h
      obtain ⟨_, _, ⟨o', _, e2, c2, _⟩, _⟩ := I.list (.inl h2)
      rw [e1] at e2; cases e2
      rw [c1] at c2
      exact absurd (Value.type.inj c2) (by decide)
    | fn _ h2 => simp [pl] at q
    | ins h2 => simp [pl] at q
    | _ => cases ev
  | _, _, _, .lst h r, h', p, q => by
    generalize ev : V.ref _ = v at h'
    cases h' with
    | lst h2 r2 =>
      cases ev
      have e := I.list_inj (.inl h) (.inl h2)
      subst e
      rw [Reps.inj I r r2 (by simpa [pl] using p) (by simpa [pl] using q)]
    | tup h2 _ r2 =>
      cases ev
      obtain ⟨_, _, ⟨o, e1, c1, _⟩, _⟩ := I.tuple h2
      obtain ⟨_, _, ⟨o', _, e2, c2, _⟩, _⟩ := I.list (.inl h)
      rw [e1] at e2; cases e2
      rw [c1] at c2
      exact absurd (Value.type.inj c2) (by decide)
    | fn _ h2 => simp [pl] at q
    | ins h2 => simp [pl] at q
    | _ => cases ev
  | _, _, _, .fn _ h, _, p, _ => by simp [pl] at p
  | _, _, _, .ins h, _, p, _ => by simp [pl] at p
theorem Reps.inj (I : Inv X pins σ H s) : ∀ {ds es : List D} {vs : List V}, Reps X.K fa H vs ds → Reps X.K fa H vs es → plL ds = true → plL es = true → ds = es
  | _, _, _, .nil, h, _, _ => by cases h; rfl
  | _, _, _, .cons h r, h', p, q => by
    cases h' with
    | cons h2 r2 =>
      simp only [plL, Bool.and_eq_true] at p q
      rw [Rep.inj I h h2 p.1 q.1, Reps.inj I r r2 p.2 q.2]
end
theorem RelV.fun {x y : V} {u : Value} (r : RelV x u) (q : RelV y u) : x = y := r.inj q
/-- an item's equality with d, by the model's value -/
noncomputable def eqW (K : PySem.W.Frag) (fa : FA) (H : Hp) (d : D) (u : Value) : Bool := @decide (∃ v e, RelV v u ∧ Rep K fa H v e ∧ pl e = true ∧ eqv e d = true) (Classical.propDecidable _)
theorem eqW_eq (I : Inv X pins σ H s) {d e : D} {v : V} {u : Value} (r : RelV v u) (h : Rep X.K fa H v e) (p : pl e = true) : eqW X.K fa H d u = eqv e d := by
  unfold eqW
  cases q : eqv e d with
  | true => exact @decide_eq_true _ (Classical.propDecidable _) ⟨v, e, r, h, p, q⟩
  | false =>
    refine @decide_eq_false _ (Classical.propDecidable _) ?_
    rintro ⟨v', e', r', h', p', q'⟩
    have := r.inj r'
    subst this
    have := Rep.inj I h h' p p'
    subst this
    rw [q] at q'; cases q'
theorem mem_eqW (I : Inv X pins σ H s) (hu : X.A.units + 200 < cLine) {x : V} {d : D} {v : Value} (rx : RelV x v) (hx : Rep X.K fa H x d) (px : pl d = true) (dx : dep d ≤ 60) :
    ∀ {vs : List V} {ds : List D} {us : List Value}, Reps X.K fa H vs ds → Vals vs us → plL ds = true → ∀ u ∈ us, SeqAt.EqAt X.A.in1 s u v (eqW X.K fa H d u)
  | _, _, _, .nil, .nil, _, u, hu' => by simp at hu'
  | _, _, _, .cons h r, .cons q t, p, u, hu' => by
    simp only [plL, Bool.and_eq_true] at p
    rcases List.mem_cons.mp hu' with rfl | hm
    · rw [eqW_eq I q h p.1]
      have q1 := h.dp p.1
      have q2 := hx.dp px
      obtain ⟨as, z1⟩ := Dp.reads I _ _ _ q1.1 q
      obtain ⟨bs, z2⟩ := Dp.reads I _ _ _ q2.1 rx
      have hun : X.A.in1.units = X.A.units + 1 := rfl
      have := SeqAt.eqAt_reads (toPy _) (toPy d) X.A.in1 s _ _ _ _ z1 z2 q1.2 q2.2 (by rw [dep_py, dep_py, hun]; omega)
      rwa [eqv_py _ _ p.1 px] at this
    · exact mem_eqW I hu rx hx px dx r t p.2 u hm
theorem any_eqW (I : Inv X pins σ H s) {d : D} : ∀ {vs : List V} {ds : List D} {us : List Value}, Reps X.K fa H vs ds → Vals vs us → plL ds = true → us.any (eqW X.K fa H d) = inD d ds
  | _, _, _, .nil, .nil, _ => rfl
  | _, _, _, .cons h r, .cons q t, p => by
    simp only [plL, Bool.and_eq_true] at p
    rw [List.any_cons, eqW_eq I q h p.1, any_eqW I r t p.2]
    rfl
theorem oc_in (hu : X.A.units + 200 < cLine) : OpR X (compareOp .In) (rC2 X.K fa inC) := by
  intro pins s σ H x y v u Q I rx ry ⟨S, p, q, b, sub, hp, hq, e, post⟩
  unfold inC at e
  split at e
  · cases e
    obtain ⟨rfl, _⟩ := hp.str
    obtain ⟨rfl, _⟩ := hq.str
    exact op_in_sign pins s σ H _ _ v u Q I rx ry ⟨_, _, rfl, rfl, post⟩
  · split at e
    · rename_i hc
      cases e
      obtain ⟨h1, h2, h3, h4⟩ := cmpable_iff hc
      obtain ⟨a, vs, rfl, t1, _, r⟩ := hq.tup sub
      cases ry
      obtain ⟨its, rv, t, _⟩ := I.tuple t1
      refine SeqAt.in_tupleAt (eqW X.K fa H p) t (fun w hw => mem_eqW I hu rx (hp.heap sub) h1 h3 (r.mono sub) rv (by simpa [pl] using h2) w (by simpa using hw)) ⟨.bl _, H, I, rfl, ?_⟩
      rw [show its.toArray.any (eqW X.K fa H p) = its.any (eqW X.K fa H p) by simp, any_eqW I (r.mono sub) rv (by simpa [pl] using h2)]
      exact post
    · cases e
  · split at e
    · rename_i hc
      cases e
      obtain ⟨h1, h2, h3, h4⟩ := cmpable_iff hc
      obtain ⟨a, vs, rfl, t1, r⟩ := hq.lst sub
      cases ry
      obtain ⟨its, rv, t, _⟩ := I.list (.inl t1)
      refine SeqAt.in_listAt (eqW X.K fa H p) t.isList (fun w hw => mem_eqW I hu rx (hp.heap sub) h1 h3 (r.mono sub) rv (by simpa [pl] using h2) w (by simpa using hw)) ⟨.bl _, H, I, rfl, ?_⟩
      rw [show its.toArray.any (eqW X.K fa H p) = its.any (eqW X.K fa H p) by simp, any_eqW I (r.mono sub) rv (by simpa [pl] using h2)]
      exact post
    · cases e
  · cases e
theorem oc_notIn (hu : X.A.units + 200 < cLine) : OpR X (compareOp .NotIn) (rC2 X.K fa fun a b => (inC a b).map (!·)) := by
  intro pins s σ H x y v u Q I rx ry ⟨S, p, q, b, sub, hp, hq, e, post⟩
  simp only [inC] at e
  split at e
  · cases e
    obtain ⟨rfl, _⟩ := hp.str
    obtain ⟨rfl, _⟩ := hq.str
    exact op_notIn_sign pins s σ H _ _ v u Q I rx ry ⟨_, _, rfl, rfl, post⟩
  · split at e
    · rename_i hc
      cases e
      obtain ⟨h1, h2, h3, h4⟩ := cmpable_iff hc
      obtain ⟨a, vs, rfl, t1, _, r⟩ := hq.tup sub
      cases ry
      obtain ⟨its, rv, t, _⟩ := I.tuple t1
      refine SeqAt.notIn_tupleAt (eqW X.K fa H p) t (fun w hw => mem_eqW I hu rx (hp.heap sub) h1 h3 (r.mono sub) rv (by simpa [pl] using h2) w (by simpa using hw)) ⟨.bl _, H, I, rfl, ?_⟩
      rw [show its.toArray.any (eqW X.K fa H p) = its.any (eqW X.K fa H p) by simp, any_eqW I (r.mono sub) rv (by simpa [pl] using h2)]
      exact post
    · cases e
  · split at e
    · rename_i hc
      cases e
      obtain ⟨h1, h2, h3, h4⟩ := cmpable_iff hc
      obtain ⟨a, vs, rfl, t1, r⟩ := hq.lst sub
      cases ry
      obtain ⟨its, rv, t, _⟩ := I.list (.inl t1)
      refine SeqAt.notIn_listAt (eqW X.K fa H p) t.isList (fun w hw => mem_eqW I hu rx (hp.heap sub) h1 h3 (r.mono sub) rv (by simpa [pl] using h2) w (by simpa using hw)) ⟨.bl _, H, I, rfl, ?_⟩
      rw [show its.toArray.any (eqW X.K fa H p) = its.any (eqW X.K fa H p) by simp, any_eqW I (r.mono sub) rv (by simpa [pl] using h2)]
      exact post
    · cases e
  · cases e
theorem oc_lt (hu : X.A.units + 200 < cLine) : OpR X (compareOp .Lt) (rC2 X.K fa ltC) := by
  intro pins s σ H x y v u Q I rx ry ⟨S, p, q, b, sub, hp, hq, e, post⟩
  unfold ltC at e
  split at e
  · rename_i hc
    cases e
    simp only [Bool.and_eq_true] at hc
    obtain ⟨h1, h2, h3, h4⟩ := cmpable_iff hc.1
    exact lt_at I 60 p q x y v u X.A h3 h3 h4 (hp.heap sub) (hq.heap sub) rx ry h1 h2 hc.2 (by omega) X.prog X.w X.xe _ ⟨.bl _, H, I, rfl, post⟩
  · cases e
theorem oc_le : OpR X (compareOp .LtE) (rC2 X.K fa leC) := by
  intro pins s σ H x y v u Q I rx ry ⟨S, p, q, b, sub, hp, hq, e, post⟩
  unfold leC at e
  split at e
  · cases e
    exact op_le pins s σ H x y v u Q I rx ry ⟨_, _, hp.int, hq.int, post⟩
  · cases e
theorem oc_ge : OpR X (compareOp .GtE) (rC2 X.K fa fun a b => leC b a) := by
  intro pins s σ H x y v u Q I rx ry ⟨S, p, q, b, sub, hp, hq, e, post⟩
  simp only [leC] at e
  split at e
  · cases e
    exact op_ge pins s σ H x y v u Q I rx ry ⟨_, _, hp.int, hq.int, post⟩
  · cases e
theorem oc_gt : OpR X (compareOp .Gt) (rC2 X.K fa gtC) := by
  intro pins s σ H x y v u Q I rx ry ⟨S, p, q, b, sub, hp, hq, e, post⟩
  unfold gtC at e
  split at e
  · cases e
    exact op_gt pins s σ H x y v u Q I rx ry ⟨_, _, hp.int, hq.int, post⟩
  · cases e
    obtain ⟨rfl, _⟩ := hp.str
    obtain ⟨rfl, _⟩ := hq.str
    exact op_gt_str pins s σ H _ _ v u Q I rx ry ⟨_, _, rfl, rfl, by simpa [ss] using post⟩
  · cases e
theorem RepB.isNon {K : PySem.W.Frag} {S H : Hp} {v : V} {d : D} (h : RepB K fa S H v d) : decide (v = .non) = isNon d := by
  rcases h with h | ⟨a, rfl, _, vs, ds', rfl, _⟩
  · cases h <;> simp [G.isNon]
  · simp [G.isNon]
theorem oc_is : OpR X (compareOp .Is) (rC2 X.K fa isC) := by
  intro pins s σ H x y v u Q I rx ry ⟨S, p, q, b, sub, hp, hq, e, post⟩
  have refs : ∀ {b : Bool} {a : Addr}, x = .ref a → y = .bl b → Q (.bl false) H → wpAny (model X.prog X.w) X.A (compareOp .Is v u) (EP X pins σ Q) X.xe s := fun {b a} ex ey q => by
    subst ex ey
    cases rx; cases ry
    exact wpAny_is_other rfl (fun z => nomatch z) ⟨.bl false, H, I, rfl, q⟩
  unfold isC at e
  split at e
  · cases e
    have := hq.non
    subst this
    exact op_isN pins s σ H _ _ v u Q I rx ry ⟨rfl, by rw [hp.isNon]; exact post⟩
  · cases e
    exact op_is_bl pins s σ H _ _ v u Q I rx ry ⟨_, _, hp.bl, hq.bl, post⟩
  · cases e
    obtain ⟨a, _, rfl, _⟩ := hp.tup sub
    exact refs rfl hq.bl post
  · cases e
    obtain ⟨a, _, rfl, _⟩ := hp.lst sub
    exact refs rfl hq.bl post
  · cases e
    have := hp.int
    subst this
    obtain ⟨t, rfl⟩ := rx
    have := hq.bl
    subst this
    cases ry
    exact wpAny_is_other rfl (fun z => nomatch z) ⟨.bl false, H, I, rfl, post⟩
  · cases e
    obtain ⟨rfl, _⟩ := hp.str
    obtain ⟨t, rfl⟩ := rx
    have := hq.bl
    subst this
    cases ry
    exact wpAny_is_other rfl (fun z => nomatch z) ⟨.bl false, H, I, rfl, post⟩
  · cases e
    have := hp.non
    subst this
    cases rx
    have := hq.bl
    subst this
    cases ry
    exact wpAny_is_other rfl (fun z => nomatch z) ⟨.bl false, H, I, rfl, post⟩
  · cases e
theorem oc_isnot : OpR X (compareOp .IsNot) (rC2 X.K fa fun a b => (isC a b).map (!·)) := by
  intro pins s σ H x y v u Q I rx ry ⟨S, p, q, b, sub, hp, hq, e, post⟩
  have refs : ∀ {b : Bool} {a : Addr}, x = .ref a → y = .bl b → Q (.bl true) H → wpAny (model X.prog X.w) X.A (compareOp .IsNot v u) (EP X pins σ Q) X.xe s := fun {b a} ex ey q => by
    subst ex ey
    cases rx; cases ry
    exact wpAny_isNot_other rfl (fun z => nomatch z) ⟨.bl true, H, I, rfl, q⟩
  simp only [isC] at e
  split at e
  · cases e
    have := hq.non
    subst this
    exact op_notN pins s σ H _ _ v u Q I rx ry ⟨rfl, by rw [hp.isNon]; exact post⟩
  · cases e
    exact op_isnot_bl pins s σ H _ _ v u Q I rx ry ⟨_, _, hp.bl, hq.bl, post⟩
  · cases e
    obtain ⟨a, _, rfl, _⟩ := hp.tup sub
    exact refs rfl hq.bl post
  · cases e
    obtain ⟨a, _, rfl, _⟩ := hp.lst sub
    exact refs rfl hq.bl post
  · cases e
    have := hp.int
    subst this
    obtain ⟨t, rfl⟩ := rx
    have := hq.bl
    subst this
    cases ry
    exact wpAny_isNot_other rfl (fun z => nomatch z) ⟨.bl true, H, I, rfl, post⟩
  · cases e
    obtain ⟨rfl, _⟩ := hp.str
    obtain ⟨t, rfl⟩ := rx
    have := hq.bl
    subst this
    cases ry
    exact wpAny_isNot_other rfl (fun z => nomatch z) ⟨.bl true, H, I, rfl, post⟩
  · cases e
    have := hp.non
    subst this
    cases rx
    have := hq.bl
    subst this
    cases ry
    exact wpAny_isNot_other rfl (fun z => nomatch z) ⟨.bl true, H, I, rfl, post⟩
  · cases e
theorem oc_cmp (hu : X.A.units + 200 < cLine) (op : CmpOp) : OpR X (compareOp op) (rC2 X.K fa (cmpD op)) := by
  cases op
  · exact oc_eq (by omega)
  · exact oc_ne (by omega)
  · exact oc_lt hu
  · exact oc_le
  · exact oc_gt
  · exact oc_ge
  · exact oc_is
  · exact oc_isnot
  · exact oc_in hu
  · exact oc_notIn hu
/-! ### truth -/
theorem tru_of {K : PySem.W.Frag} {S H : Hp} {v : V} {d : D} {b : Bool} (sub : Sub S H) (h : RepB K fa S H v d) (e : truD d = some b) : TruV K v H b := by
  unfold truD at e
  split at e
  · cases e; have := h.non; subst this; rfl
  · cases e; have := h.bl; subst this; rfl
  · cases e; have := h.int; subst this; rfl
  · cases e
    obtain ⟨rfl, o⟩ := h.str
    refine ⟨by rw [ss_len]; exact o.2, ?_⟩
    rw [ss_len]
    rename_i x
    cases x <;> simp
    omega
  · cases e
    obtain ⟨a, vs, rfl, t, _, r⟩ := h.tup sub
    have := r.length
    exact .inr (.inl ⟨vs, t, by cases r <;> simp⟩)
  · cases e
    obtain ⟨a, vs, rfl, t, r⟩ := h.lst sub
    exact .inl ⟨vs, .inl t, by cases r <;> simp⟩
  · cases e
/-! ### indices, slices -/
def rX2 (K : PySem.W.Frag) (fa : FA) : R2 := fun x y H Q => ∃ S p q d, Sub S H ∧ RepB K fa S H x p ∧ RepB K fa S H y q ∧ ixD p q = some d ∧ ∀ v, Rep K fa S v d → Q v H
theorem ixn_eq (n : Nat) (i : Int) : ixN n i = ixn n i := by
  unfold ixN ixn
  by_cases h : 0 ≤ i
  · simp [h]
  · simp only [if_neg h]
    try split <;> split <;> first | rfl | omega
theorem ob_ix : IxR X (rX2 X.K fa) := by
  intro value slice pins s σ H x y v u Q I rx ry ⟨S, p, q, d, sub, hp, hq, e, post⟩ hs
  unfold ixD at e
  split at e
  · obtain ⟨a, vs, rfl, t, r⟩ := hp.lst sub
    have := hq.int
    subst this
    obtain ⟨j, e1, e2⟩ := Option.bind_eq_some_iff.mp e
    obtain ⟨w, e3, e4⟩ := r.get e2
    refine ix_list value slice pins s σ H _ _ v u Q I rx ry ⟨a, vs, _, w, rfl, rfl, .inl t, ?_, post w e4⟩ hs
    unfold atI
    rw [ixn_eq, r.length, e1]
    exact e3
  · obtain ⟨a, vs, rfl, t, _, r⟩ := hp.tup sub
    have := hq.int
    subst this
    obtain ⟨j, e1, e2⟩ := Option.bind_eq_some_iff.mp e
    obtain ⟨w, e3, e4⟩ := r.get e2
    refine ix_tup value slice pins s σ H _ _ v u Q I rx ry ⟨a, vs, _, w, rfl, rfl, t, ?_, post w e4⟩ hs
    unfold atI
    rw [ixn_eq, r.length, e1]
    exact e3
  · obtain ⟨rfl, o⟩ := hp.str
    have := hq.int
    subst this
    obtain ⟨j, e1, e2⟩ := Option.bind_eq_some_iff.mp e
    obtain ⟨c, e3, e4⟩ := Option.map_eq_some_iff.mp e2
    subst e4
    refine ix_str value slice pins s σ H _ _ v u Q I rx ry ⟨_, _, c, rfl, rfl, by rw [ss_len]; exact o.2, ?_, post _ (.str [c] ⟨fun z hz => ?_, by simp [sizeLine]⟩)⟩ hs
    · unfold atI
      simp only [ss]
      rw [ixn_eq, e1]
      exact e3
    · have : z = c := by simpa using hz
      rw [this]
      exact o.1 c (List.mem_of_getElem? e3)
  · cases e
theorem bnd_eq (n d : Nat) (o : Option Int) : HT.sIx n d o = bnd n d o := by
  cases o <;> rfl
theorem cut_len {α : Type} (xs : List α) (lo hi : Option Int) : (cut xs lo hi).length ≤ xs.length := by
  unfold cut
  rw [List.length_take, List.length_drop]
  omega
theorem cut_whole {α : Type} {xs : List α} {lo hi : Option Int} (h0 : bnd xs.length 0 lo = 0) (h1 : bnd xs.length xs.length hi = xs.length) : G.cut xs lo hi = xs := by
  unfold G.cut
  rw [h0, h1, List.drop_zero, Nat.sub_zero, List.take_length]
theorem Reps.cut {K : PySem.W.Frag} {S : Hp} {vs : List V} {ds : List D} (r : Reps K fa S vs ds) (lo hi : Option Int) : Reps K fa S (cutV vs lo hi) (G.cut ds lo hi) := by
  unfold cutV G.cut
  rw [r.length, bnd_eq, bnd_eq]
  exact (r.drop _).take _
theorem sOk.cut {x : List Nat} (h : sOk x) (lo hi : Option Int) : sOk (G.cut x lo hi) :=
  ⟨fun c hc => h.1 c (List.mem_of_mem_drop (List.mem_of_mem_take hc)), Nat.le_trans (cut_len x lo hi) h.2⟩
def rS3 (K : PySem.W.Frag) (fa : FA) : V → Option Int → Option Int → Hp → VK → Prop := fun x lo hi H Q => ∃ S p z, Sub S H ∧ RepB K fa S H x p ∧ slD p lo hi = some z ∧ ∀ v H' S', Gr S H S' H' → RV0 K fa H S' H' v z.1 z.2 → Q v H'
theorem ob_sl : SlR X (rS3 X.K fa) := by
  intro pins s σ H x v vl vu lo hi sl Q I rx hs pl' pu ⟨S, p, z, sub, hp, e, post⟩
  unfold slD at e
  split at e
  · cases e
    obtain ⟨a, vs, rfl, t, r⟩ := hp.lst sub
    exact sl_list pins s σ H _ v vl vu lo hi sl Q I rx hs pl' pu ⟨a, vs, rfl, .inl t, fun p n => post _ _ S (.fresh sub n) (rv0T n (sub.none n) (r.cut lo hi))⟩
  · cases e
    obtain ⟨a, vs, rfl, t, t', r⟩ := hp.tup sub
    refine sl_tupF pins s σ H _ v vl vu lo hi sl Q I rx hs pl' pu ⟨a, vs, rfl, t, fun w => ?_, fun p o n hd => ?_⟩
    · refine post _ _ S (.refl sub) (rv0F ?_)
      rw [bnd_eq, bnd_eq, r.length] at w
      rw [cut_whole w.1 w.2]
      exact .tup t'.1 t'.2 r
    · obtain ⟨g, rr⟩ := Gr.tupF sub n hd (r.cut lo hi)
      exact post _ _ _ g (rv0F rr)
  · cases e
    obtain ⟨rfl, o⟩ := hp.str
    refine sl_str pins s σ H _ v vl vu lo hi sl Q I rx hs pl' pu ⟨_, rfl, by rw [ss_len]; exact o.2, ?_⟩
    refine post _ _ S (.refl sub) (rv0F ?_)
    have : ∀ x : List Nat, cutS (ss x) lo hi = ss (G.cut x lo hi) := fun x => by
      unfold cutS G.cut
      simp only [ss_len, bnd_eq, ss]
    rw [this]
    exact .str _ (o.cut lo hi)
  · cases e
end
end G

/-! built-ins and methods by values -/
namespace G
open PySem PySem.Spec L2
def rCl (K : PySem.W.Frag) (fa : FA) (f : List D → Option (D × Bool)) : List V → Hp → VK → Prop := fun xs H Q => ∃ S ds z, Sub S H ∧ RepBs K fa S H xs ds ∧ f ds = some z ∧
  ∀ v H' S', Gr S H S' H' → RV0 K fa H S' H' v z.1 z.2 → Q v H'
section
variable {K : PySem.W.Frag} {fa : FA} {S H : Hp}
theorem RepBs.one {xs : List V} {d : D} (h : RepBs K fa S H xs [d]) : ∃ x, xs = [x] ∧ RepB K fa S H x d := by
  cases h with
  | cons h t => cases t; exact ⟨_, rfl, h⟩
theorem RepBs.two {xs : List V} {d e : D} (h : RepBs K fa S H xs [d, e]) : ∃ x y, xs = [x, y] ∧ RepB K fa S H x d ∧ RepB K fa S H y e := by
  cases h with
  | cons h t => cases t with
    | cons h' t => cases t; exact ⟨_, _, rfl, h, h'⟩
theorem Reps.bools : ∀ {vs : List V} {ds : List D} {bs : List Bool}, Reps K fa S vs ds → G.bools ds = some bs → vs = bs.map V.bl
  | _, _, _, .nil, e => by simp [G.bools] at e; subst e; rfl
  | _, _, _, .cons h r, e => by
    unfold G.bools at e
    split at e
    · rename_i q; cases q
    · rename_i q; cases q
      obtain ⟨cs, e1, rfl⟩ := Option.map_eq_some_iff.mp e
      cases h
      rw [r.bools e1]; rfl
    · cases e
theorem Reps.intsD : ∀ {vs : List V} {ds : List D} {bs : List Int}, Reps K fa S vs ds → G.intsD ds = some bs → vs = bs.map V.int
  | _, _, _, .nil, e => by simp [G.intsD] at e; subst e; rfl
  | _, _, _, .cons h r, e => by
    unfold G.intsD at e
    split at e
    · rename_i q; cases q
    · rename_i q; cases q
      obtain ⟨cs, e1, rfl⟩ := Option.map_eq_some_iff.mp e
      cases h
      rw [r.intsD e1]; rfl
    · cases e
theorem Reps.strsD : ∀ {vs : List V} {ds : List D} {bs : List (List Nat)}, Reps K fa S vs ds → G.strsD ds = some bs → vs = (bs.map ss).map V.str ∧ ∀ b ∈ bs, sOk b
  | _, _, _, .nil, e => by simp [G.strsD] at e; subst e; exact ⟨rfl, fun _ h => nomatch h⟩
  | _, _, _, .cons h r, e => by
    unfold G.strsD at e
    split at e
    · rename_i q; cases q
    · rename_i q; cases q
      obtain ⟨cs, e1, rfl⟩ := Option.map_eq_some_iff.mp e
      cases h with
      | str _ o =>
      obtain ⟨e2, e3⟩ := r.strsD e1
      refine ⟨by rw [e2]; rfl, fun b hb => ?_⟩
      rcases List.mem_cons.mp hb with rfl | hb
      · exact o
      · exact e3 b hb
    · cases e
theorem Reps.strs {xs : List (List Nat)} (h : ∀ x ∈ xs, sOk x) : Reps K fa S ((xs.map ss).map V.str) (xs.map D.str) := by
  induction xs with
  | nil => exact .nil
  | cons x xs ih => exact .cons (.str x (h x (by simp))) (ih fun y hy => h y (List.mem_cons_of_mem _ hy))
end
section
variable {X : Cx} {fa : FA}
theorem cb_len : CallR X (.builtin "len") (rCl X.K fa lenD) := by
  intro pins s σ H xs us Q I r ⟨S, ds, z, sub, h, e, post⟩
  unfold lenD at e
  split at e
  · cases e
    obtain ⟨x, rfl, hx⟩ := h.one
    obtain ⟨rfl, o⟩ := hx.str
    refine call_len_str pins s σ H _ us Q I r ⟨_, rfl, by rw [ss_len]; exact o.2, ?_⟩
    rw [ss_len]
    exact post _ _ S (.refl sub) (rv0F (.int _))
  · cases e
    obtain ⟨x, rfl, hx⟩ := h.one
    obtain ⟨a, vs, rfl, t, _, rr⟩ := hx.tup sub
    refine call_len_seq pins s σ H _ us Q I r ⟨a, vs, rfl, .inr t, ?_⟩
    rw [rr.length]
    exact post _ _ S (.refl sub) (rv0F (.int _))
  · cases e
    obtain ⟨x, rfl, hx⟩ := h.one
    obtain ⟨a, vs, rfl, t, rr⟩ := hx.lst sub
    refine call_len_seq pins s σ H _ us Q I r ⟨a, vs, rfl, .inl (.inl t), ?_⟩
    rw [rr.length]
    exact post _ _ S (.refl sub) (rv0F (.int _))
  · cases e
theorem cb_tuple : CallR X (.type "tuple") (rCl X.K fa tupleD) := by
  intro pins s σ H xs us Q I r ⟨S, ds, z, sub, h, e, post⟩
  unfold tupleD at e
  split at e
  · cases e
    obtain ⟨x, rfl, hx⟩ := h.one
    obtain ⟨a, vs, rfl, t, rr⟩ := hx.lst sub
    refine call_tupleF pins s σ H _ us Q I r ⟨a, vs, rfl, .inl t, fun p o n hd => ?_⟩
    obtain ⟨g, r'⟩ := Gr.tupF sub n hd rr
    exact post _ _ _ g (rv0F r')
  · cases e
    obtain ⟨x, rfl, hx⟩ := h.one
    obtain ⟨a, vs, rfl, t, t', rr⟩ := hx.tup sub
    exact call_tuple_of pins s σ H _ us Q I r ⟨a, vs, rfl, .inr ⟨t, post _ _ S (.refl sub) (rv0F (.tup t'.1 t'.2 rr))⟩⟩
  · cases e
theorem cb_list : CallR X (.type "list") (rCl X.K fa listD) := by
  intro pins s σ H xs us Q I r ⟨S, ds, z, sub, h, e, post⟩
  unfold listD at e
  split at e
  · cases e
    obtain ⟨x, rfl, hx⟩ := h.one
    obtain ⟨a, vs, rfl, t, rr⟩ := hx.lst sub
    exact call_list_of pins s σ H _ us Q I r ⟨a, vs, rfl, .inl (.inl t), fun p n => post _ _ S (.fresh sub n) (rv0T n (sub.none n) rr)⟩
  · cases e
    obtain ⟨x, rfl, hx⟩ := h.one
    obtain ⟨a, vs, rfl, t, t', rr⟩ := hx.tup sub
    exact call_list_of pins s σ H _ us Q I r ⟨a, vs, rfl, .inr t, fun p n => post _ _ S (.fresh sub n) (rv0T n (sub.none n) rr)⟩
  · cases e
theorem cb_all (hc : X.calm = true) : CallR X (.builtin "all") (rCl X.K fa allD) := by
  intro pins s σ H xs us Q I r ⟨S, ds, z, sub, h, e, post⟩
  unfold allD at e
  split at e
  · obtain ⟨bs, e1, rfl⟩ := Option.map_eq_some_iff.mp e
    obtain ⟨x, rfl, hx⟩ := h.one
    obtain ⟨a, vs, rfl, t, rr⟩ := hx.lst sub
    exact cr_all hc pins s σ H _ us Q I r ⟨a, bs, rfl, by rw [← rr.bools e1]; exact .inl t, post _ _ S (.refl sub) (rv0F (.bl _))⟩
  · cases e
theorem cb_any (hc : X.calm = true) : CallR X (.builtin "any") (rCl X.K fa anyD) := by
  intro pins s σ H xs us Q I r ⟨S, ds, z, sub, h, e, post⟩
  unfold anyD at e
  split at e
  · obtain ⟨bs, e1, rfl⟩ := Option.map_eq_some_iff.mp e
    obtain ⟨x, rfl, hx⟩ := h.one
    obtain ⟨a, vs, rfl, t, rr⟩ := hx.lst sub
    exact cr_any hc pins s σ H _ us Q I r ⟨a, bs, rfl, by rw [← rr.bools e1]; exact .inl t, post _ _ S (.refl sub) (rv0F (.bl _))⟩
  · cases e
theorem cb_sum (hc : X.calm = true) : CallR X (.builtin "sum") (rCl X.K fa sumD) := by
  intro pins s σ H xs us Q I r ⟨S, ds, z, sub, h, e, post⟩
  unfold sumD at e
  split at e
  · obtain ⟨bs, e1, rfl⟩ := Option.map_eq_some_iff.mp e
    obtain ⟨x, rfl, hx⟩ := h.one
    obtain ⟨a, vs, rfl, t, rr⟩ := hx.lst sub
    exact cr_sum hc pins s σ H _ us Q I r ⟨a, bs, rfl, by rw [← rr.intsD e1]; exact .inl t, post _ _ S (.refl sub) (rv0F (.int _))⟩
  · cases e
theorem cb_max (hc : X.calm = true) : CallR X (.builtin "max") (rCl X.K fa maxD) := by
  intro pins s σ H xs us Q I r ⟨S, ds, z, sub, h, e, post⟩
  unfold maxD at e
  split at e
  · cases e
    obtain ⟨x, y, rfl, hx, hy⟩ := h.two
    have := hx.int
    have := hy.int
    subst x y
    exact call_max2 hc pins s σ H _ us Q I r ⟨_, _, rfl, post _ _ S (.refl sub) (rv0F (.int _))⟩
  · cases e
theorem cb_min (hc : X.calm = true) : CallR X (.builtin "min") (rCl X.K fa minD) := by
  intro pins s σ H xs us Q I r ⟨S, ds, z, sub, h, e, post⟩
  unfold minD at e
  split at e
  · cases e
    obtain ⟨x, y, rfl, hx, hy⟩ := h.two
    have := hx.int
    have := hy.int
    subst x y
    exact call_min2 hc pins s σ H _ us Q I r ⟨_, _, rfl, post _ _ S (.refl sub) (rv0F (.int _))⟩
  · cases e
theorem strI_ok (i : Int) (h : (strI i).length ≤ sizeLine) : sOk (strI i) := ⟨fun c hc => by
  obtain ⟨x, _, rfl⟩ := List.mem_map.mp hc
  have := x.valid
  simp only [UInt32.isValidChar, Nat.isValidChar] at this
  show x.val.toNat < _
  omega, h⟩
theorem cb_str : CallR X (.type "str") (rCl X.K fa strD) := by
  intro pins s σ H xs us Q I r ⟨S, ds, z, sub, h, e, post⟩
  unfold strD at e
  split at e
  · split at e
    · rename_i hl
      cases e
      obtain ⟨x, rfl, hx⟩ := h.one
      have := hx.int
      subst x
      refine call_str_int pins s σ H _ us Q I r ⟨_, rfl, by omega, ?_⟩
      rw [show ∀ i : Int, ((toString i : String) : Str) = ss (strI i) from fun i => PySem.Str.ofString_eq_toList _]
      exact post _ _ S (.refl sub) (rv0F (.str _ (strI_ok _ hl.2)))
    · cases e
  · cases e
    obtain ⟨x, rfl, hx⟩ := h.one
    obtain ⟨rfl, o⟩ := hx.str
    exact SkE.call_str_str pins s σ H _ us Q I r ⟨_, rfl, post _ _ S (.refl sub) (rv0F (.str _ o))⟩
  · cases e
theorem cb_int : CallR X (.type "int") (rCl X.K fa intD) := by
  intro pins s σ H xs us Q I r ⟨S, ds, z, sub, h, e, post⟩
  unfold intD at e
  split at e
  · cases e
    obtain ⟨x, rfl, hx⟩ := h.one
    have := hx.int
    subst x
    exact call_int1 pins s σ H _ us Q I r (.inl ⟨_, rfl, post _ _ S (.refl sub) (rv0F (.int _))⟩)
  · cases e
    obtain ⟨x, rfl, hx⟩ := h.one
    have := hx.bl
    subst x
    exact call_int1 pins s σ H _ us Q I r (.inr ⟨_, rfl, post _ _ S (.refl sub) (rv0F (.int _))⟩)
  · cases e
theorem cb_abs : CallR X (.builtin "abs") (rCl X.K fa absD) := by
  intro pins s σ H xs us Q I r ⟨S, ds, z, sub, h, e, post⟩
  unfold absD at e
  split at e
  · cases e
    obtain ⟨x, rfl, hx⟩ := h.one
    have := hx.int
    subst x
    exact call_abs pins s σ H _ us Q I r ⟨_, rfl, post _ _ S (.refl sub) (rv0F (.int _))⟩
  · cases e
/-! ### methods of texts -/
def rMt (K : PySem.W.Frag) (fa : FA) (f : D → List D → Option (D × Bool)) : V → List V → Hp → VK → Prop := fun x xs H Q => ∃ S p ds z, Sub S H ∧ RepB K fa S H x p ∧ RepBs K fa S H xs ds ∧ f p ds = some z ∧
  ∀ v H' S', Gr S H S' H' → RV0 K fa H S' H' v z.1 z.2 → Q v H'
theorem tl_ss (x : List Nat) : TL.tl (ss x) = x := by simp [TL.tl, ss]
theorem tl_map (ys : List (List Nat)) : (ys.map ss).map TL.tl = ys := by
  rw [List.map_map, show TL.tl ∘ ss = id from funext tl_ss, List.map_id]
theorem splitL_hit (c : Nat) (xs : List Nat) : splitL c (c :: xs) = [] :: splitL c xs := by
  show (if c = c then [] :: splitL c xs else _) = _
  rw [if_pos rfl]
theorem splitL_no {c x : Nat} (e : ¬ x = c) (xs : List Nat) : splitL c (x :: xs) = match splitL c xs with
    | [] => [[x]]
    | y :: ys => (x :: y) :: ys := by
  show (if x = c then [] :: splitL c xs else _) = _
  first
    | (rw [if_neg e]; done)
    | (rw [if_neg e]; cases splitL c xs <;> rfl)
theorem joinL_eq (s : List Nat) : ∀ ys : List (List Nat), TL.joinL s ys = G.joinL s ys
  | [] => rfl
  | [_] => rfl
  | p :: q :: r => by
    show p ++ (s ++ TL.joinL s (q :: r)) = p ++ (s ++ G.joinL s (q :: r))
    rw [joinL_eq s (q :: r)]
theorem join_ss (s : List Nat) (ys : List (List Nat)) : Txt.join (ss s) (ys.map ss) = ss (G.joinL s ys) := by
  refine TL.ext_tl ?_
  rw [TL.join_eq, TL.tl_join, tl_ss, tl_ss, tl_map, joinL_eq]
theorem joinL_len (s : List Nat) : ∀ ys : List (List Nat), (G.joinL s ys).length ≤ (ys.map List.length).sum + ys.length * s.length
  | [] => by simp [G.joinL]
  | [p] => by simp [G.joinL]
  | p :: q :: r => by
    have := joinL_len s (q :: r)
    simp only [G.joinL, List.length_append, List.map_cons, List.sum_cons, List.length_cons] at this ⊢
    have e : (r.length + 1 + 1) * s.length = (r.length + 1) * s.length + s.length := Nat.succ_mul _ _
    omega
theorem joinL_mem (s : List Nat) : ∀ ys : List (List Nat), ∀ c ∈ G.joinL s ys, c ∈ s ∨ ∃ y ∈ ys, c ∈ y
  | [], c, h => by simp [G.joinL] at h
  | [p], c, h => .inr ⟨p, by simp, h⟩
  | p :: q :: r, c, h => by
    simp only [G.joinL, List.mem_append] at h
    rcases h with h | h | h
    · exact .inr ⟨p, by simp, h⟩
    · exact .inl h
    · rcases joinL_mem s (q :: r) c h with h | ⟨y, h1, h2⟩
      · exact .inl h
      · exact .inr ⟨y, List.mem_cons_of_mem _ h1, h2⟩
theorem splitL_ne (c : Nat) : ∀ xs : List Nat, splitL c xs ≠ []
  | [] => by simp [splitL]
  | x :: xs => by
    unfold splitL
    split
    · simp
    · split <;> simp
theorem spl_one (c : Nat) : ∀ (xs acc : List Nat), TL.spl [c] 0 acc xs = match splitL c xs with
    | [] => [acc]
    | y :: ys => (acc ++ y) :: ys
  | [], acc => by simp [TL.spl, splitL]
  | x :: xs, acc => by
    show (if TL.pre [c] (x :: xs) = true then acc :: TL.spl [c] ([c].length - 1) [] xs else TL.spl [c] 0 (acc ++ [x]) xs) = _
    have hp : TL.pre [c] (x :: xs) = decide (x = c) := by
      by_cases e : x = c
      · simp [TL.pre, e]
      · have : ¬ c = x := fun z => e z.symm
        simp [TL.pre, e, this]
    rw [hp]
    by_cases e : x = c
    · rw [decide_eq_true e, if_pos rfl]
      have ih := spl_one c xs []
      show acc :: TL.spl [c] 0 [] xs = _
      rw [ih, e, splitL_hit]
      cases q : splitL c xs with
      | nil => exact absurd q (splitL_ne c xs)
      | cons y ys => simp
    · rw [decide_eq_false e, if_neg Bool.false_ne_true, spl_one c xs (acc ++ [x])]
      rw [splitL_no e]
      cases q : splitL c xs with
      | nil => rfl
      | cons y ys => simp
theorem split_ss (c : Nat) (hc : c < 256) (xs : List Nat) : Txt.split (ss xs) (ss [c]) = (splitL c xs).map ss := by
  refine TL.map_tl_inj ?_
  rw [TL.split_spl _ _ (by simp [TL.tl]) (TL.kind_ok (by simp [ss]; exact hc)), tl_ss, tl_ss, spl_one]
  rw [tl_map]
  cases q : splitL c xs with
  | nil => exact absurd q (splitL_ne c xs)
  | cons y ys => simp
theorem splitL_ok (c : Nat) : ∀ (xs : List Nat), (∀ y ∈ splitL c xs, y.length ≤ xs.length ∧ ∀ z ∈ y, z ∈ xs)
  | [], y, h => by
    simp only [splitL, List.mem_singleton] at h
    subst h
    exact ⟨Nat.le_refl _, fun _ h => h⟩
  | x :: xs, y, h => by
    have ih := splitL_ok c xs
    unfold splitL at h
    split at h
    · rcases List.mem_cons.mp h with rfl | h
      · exact ⟨Nat.zero_le _, fun _ h => nomatch h⟩
      · exact ⟨Nat.le_succ_of_le (ih y h).1, fun z hz => List.mem_cons_of_mem _ ((ih y h).2 z hz)⟩
    · split at h
      · simp only [List.mem_singleton] at h
        subst h
        exact ⟨by simp, fun z hz => by simp at hz; simp [hz]⟩
      · rename_i y' ys q
        rcases List.mem_cons.mp h with rfl | h
        · have := ih y' (by rw [q]; simp)
          exact ⟨Nat.succ_le_succ this.1, fun z hz => (List.mem_cons.mp hz).elim (fun e => by simp [e]) fun e => List.mem_cons_of_mem _ (this.2 z e)⟩
        · have := ih y (by rw [q]; exact List.mem_cons_of_mem _ h)
          exact ⟨Nat.le_succ_of_le this.1, fun z hz => List.mem_cons_of_mem _ (this.2 z hz)⟩
theorem cm_join : MtR X "str.join" (rMt X.K fa joinD) := by
  intro pins s σ H x xs v us Q I rx rs ⟨S, p, ds, z, sub, hp, h, e, post⟩
  unfold joinD at e
  split at e
  · obtain ⟨ys, e1, e2⟩ := Option.bind_eq_some_iff.mp e
    split at e2
    · rename_i hl
      cases e2
      obtain ⟨rfl, o⟩ := hp.str
      obtain ⟨y, rfl, hy⟩ := h.one
      obtain ⟨a, vs, rfl, t, rr⟩ := hy.lst sub
      obtain ⟨e3, e4⟩ := rr.strsD e1
      refine mt_join pins s σ H _ _ v us Q I rx rs ⟨_, a, ys.map ss, rfl, rfl, .inl (by rw [← e3]; exact .inl t), ?_, ?_⟩
      · rw [List.map_map, List.length_map, ss_len]
        have : (List.map ((fun x => x.length) ∘ ss) ys) = ys.map List.length := List.map_congr_left fun x _ => ss_len x
        rw [this]
        exact hl
      · rw [join_ss]
        refine post _ _ S (.refl sub) (rv0F (.str _ ⟨fun c hc => ?_, Nat.le_trans (joinL_len _ _) hl⟩))
        rcases joinL_mem _ _ c hc with h | ⟨y, h1, h2⟩
        · exact o.1 c h
        · exact (e4 y h1).1 c h2
    · cases e2
  · cases e
theorem cm_split : MtR X "str.split" (rMt X.K fa splitD) := by
  intro pins s σ H x xs v us Q I rx rs ⟨S, p, ds, z, sub, hp, h, e, post⟩
  unfold splitD at e
  split at e
  · split at e
    · rename_i hl
      cases e
      obtain ⟨rfl, o⟩ := hp.str
      obtain ⟨y, rfl, hy⟩ := h.one
      obtain ⟨rfl, _⟩ := hy.str
      refine mt_split pins s σ H _ _ v us Q I rx rs ⟨_, _, rfl, rfl, by rw [ss_len]; rfl, by rw [ss_len]; exact hl.1, fun p n => ?_⟩
      rw [split_ss _ hl.2]
      refine post _ _ S (.fresh sub n) (rv0T n (sub.none n) (Reps.strs fun y hy => ?_))
      have := splitL_ok _ _ y hy
      exact ⟨fun c hc => o.1 c (this.2 c hc), Nat.le_trans this.1 o.2⟩
    · cases e
  · cases e
end
end G

/-! expressions that raise nothing -/
namespace G
open PySem
mutual
def noX : Ex → Bool
  | .callx _ _ => false
  | .callf _ es e => noXs es && noX e
  | .nm _ => true
  | .k _ => true
  | .gc _ _ => true
  | .isx _ _ => true
  | .tup es => noXs es
  | .lst es => noXs es
  | .bin _ a b => noX a && noX b
  | .neg a => noX a
  | .cmp _ a b => noX a && noX b
  | .ch _ _ a b c => noX a && noX b && noX c
  | .and es => noXs es
  | .or es => noXs es
  | .not a => noX a
  | .ife c a b => noX c && noX a && noX b
  | .ix a i => noX a && noX i
  | .sl a lo hi => noX a && noXo lo && noXo hi
  | .st a lo _ => noX a && noXo lo
  | .call _ es => noXs es
  | .bi _ es => noXs es
  | .isi a _ => noX a
  | .mt _ a es => noX a && noXs es
  | .mu _ _ es => noXs es
  | .lc _ elt _ it c => noX elt && noX it && noXo c
  | .itr _ es => noXs es
  | .tupI _ es => noXs es
def noXs : List Ex → Bool
  | [] => true
  | e :: es => noX e && noXs es
def noXo : Option Ex → Bool
  | none => true
  | some e => noX e
end
def R.nx {α : Type} (r : R α) : Prop := ∀ c ρ, r ≠ .exc c ρ
section
variable {α β : Type}
theorem ok_nx {a : α} : (R.ok a).nx := fun _ _ h => by cases h
theorem bad_nx : (R.bad : R α).nx := fun _ _ h => by cases h
theorem R.nx_bind {r : R α} {f : α → R β} (h : r.nx) (g : ∀ a, (f a).nx) : (r.bind f).nx := by
  cases r with
  | ok a => exact g a
  | exc c ρ => exact absurd rfl (h c ρ)
  | bad => exact bad_nx
theorem opt_nx {x : Option α} {f : α → R β} (g : ∀ a, (f a).nx) : (opt x f).nx := by
  cases x with
  | some a => exact g a
  | none => exact bad_nx
theorem ite_nx {p : Prop} [Decidable p] {a b : R α} (h : a.nx) (h' : b.nx) : (if p then a else b).nx := by
  split
  · exact h
  · exact h'
theorem od_nx {e : Ex} {ρ : En} {r : R (D × Bool × En)} (h : r.nx) : (od e ρ r).nx := by
  unfold od
  split
  · split
    · exact ok_nx
    · exact bad_nx
  · exact R.nx_bind h fun _ => ok_nx
theorem src_nx {e : Ex} {ρ : En} {r : R (D × Bool × En)} (h : r.nx) : (srcOf e ρ r).nx := by
  unfold srcOf
  split
  · split
    · exact ok_nx
    · exact opt_nx fun _ => ok_nx
    · exact bad_nx
  · exact R.nx_bind h fun _ => opt_nx fun _ => ok_nx
theorem callR_nx {r : CR} {l b : List Nat} {ρ : En} : (callR r l b ρ).nx := by
  unfold callR
  split
  · exact ite_nx ok_nx bad_nx
  · exact bad_nx
  · exact bad_nx
theorem lcL_nx {g : Option (Nat × List D)} {own : List Nat} {turn : D → En → R (Option D × En)} (h : ∀ d ρ, (turn d ρ).nx) : ∀ (ds : List D) (ρ : En), (lcL g own turn ds ρ).nx
  | [], ρ => by unfold lcL; exact ite_nx ok_nx bad_nx
  | d :: ds, ρ => by unfold lcL; exact ite_nx (R.nx_bind (h d ρ) fun x => R.nx_bind (lcL_nx h ds _) fun _ => ok_nx) bad_nx
end
section
variable {mf : Nat → Option (List Bool)} {cf : Nat → List SV → CR}
theorem and2 {a b : Bool} (h : (a && b) = true) : a = true ∧ b = true := by simpa using h
mutual
theorem evE_nx : ∀ (e : Ex), noX e = true → ∀ ρ, (evE mf cf e ρ).nx
  | .nm i, _, ρ => by unfold evE; split <;> first | exact ok_nx | exact bad_nx
  | .k d, _, ρ => by unfold evE; exact ok_nx
  | .gc x d, _, ρ => by unfold evE; exact ok_nx
  | .isx i y, _, ρ => by unfold evE; split <;> first | exact ok_nx | exact bad_nx
  | .tup es, h, ρ => by unfold evE; exact R.nx_bind (evVs_nx es h ρ) fun _ => ok_nx
  | .lst es, h, ρ => by unfold evE; exact R.nx_bind (evVs_nx es h ρ) fun _ => ok_nx
  | .bin op a b, h, ρ => by
    unfold evE
    exact R.nx_bind (od_nx (evE_nx a (and2 h).1 ρ)) fun x => R.nx_bind (od_nx (evE_nx b (and2 h).2 _)) fun y => opt_nx fun _ => opt_nx fun _ => opt_nx fun _ => ok_nx
  | .neg a, h, ρ => by
    unfold evE
    refine R.nx_bind (od_nx (evE_nx a h ρ)) fun x => ?_
    split <;> first | exact ok_nx | exact bad_nx
  | .cmp op a b, h, ρ => by
    unfold evE
    exact R.nx_bind (od_nx (evE_nx a (and2 h).1 ρ)) fun x => R.nx_bind (od_nx (evE_nx b (and2 h).2 _)) fun y => opt_nx fun _ => opt_nx fun _ => opt_nx fun _ => ok_nx
  | .ch o1 o2 a b c, h, ρ => by
    unfold evE
    obtain ⟨h1, h3⟩ := and2 h
    obtain ⟨h1, h2⟩ := and2 h1
    exact R.nx_bind (od_nx (evE_nx a h1 ρ)) fun x => R.nx_bind (od_nx (evE_nx b h2 _)) fun y => opt_nx fun _ => opt_nx fun _ => opt_nx fun _ => ite_nx (R.nx_bind (od_nx (evE_nx c h3 _)) fun _ => opt_nx fun _ => opt_nx fun _ => opt_nx fun _ => ok_nx) ok_nx
  | .and es, h, ρ => by unfold evE; exact evA_nx true es h ρ
  | .or es, h, ρ => by unfold evE; exact evA_nx false es h ρ
  | .not a, h, ρ => by unfold evE; exact R.nx_bind (od_nx (evE_nx a h ρ)) fun _ => opt_nx fun _ => ok_nx
  | .ife c a b, h, ρ => by
    unfold evE
    obtain ⟨h1, h3⟩ := and2 h
    obtain ⟨h1, h2⟩ := and2 h1
    exact R.nx_bind (od_nx (evE_nx c h1 ρ)) fun x => opt_nx fun _ => ite_nx (evE_nx a h2 _) (evE_nx b h3 _)
  | .ix a i, h, ρ => by
    unfold evE
    exact R.nx_bind (od_nx (evE_nx a (and2 h).1 ρ)) fun x => R.nx_bind (od_nx (evE_nx i (and2 h).2 _)) fun y => opt_nx fun _ => opt_nx fun _ => opt_nx fun _ => ok_nx
  | .sl a lo hi, h, ρ => by
    unfold evE
    obtain ⟨h1, h3⟩ := and2 h
    obtain ⟨h1, h2⟩ := and2 h1
    exact R.nx_bind (od_nx (evE_nx a h1 ρ)) fun x => R.nx_bind (evB_nx lo h2 _) fun y => R.nx_bind (evB_nx hi h3 _) fun _ => opt_nx fun _ => opt_nx fun _ => ok_nx
  | .st a lo j, h, ρ => by
    unfold evE
    exact R.nx_bind (od_nx (evE_nx a (and2 h).1 ρ)) fun x => R.nx_bind (evB_nx lo (and2 h).2 _) fun y => opt_nx fun _ => opt_nx fun _ => ok_nx
  | .call f es, h, ρ => by
    unfold evE
    exact R.nx_bind (evOs_nx es h ρ) fun x => opt_nx fun _ => opt_nx fun _ => ite_nx callR_nx bad_nx
  | .bi b es, h, ρ => by unfold evE; exact R.nx_bind (evOs_nx es h ρ) fun x => opt_nx fun _ => opt_nx fun _ => ok_nx
  | .isi a ts, h, ρ => by unfold evE; exact R.nx_bind (od_nx (evE_nx a h ρ)) fun _ => opt_nx fun _ => ite_nx ok_nx bad_nx
  | .mt m a es, h, ρ => by
    unfold evE
    exact R.nx_bind (od_nx (evE_nx a (and2 h).1 ρ)) fun x => opt_nx fun _ => R.nx_bind (evOs_nx es (and2 h).2 _) fun y => opt_nx fun _ => ite_nx (opt_nx fun _ => ok_nx) bad_nx
  | .mu m i es, h, ρ => by
    unfold evE
    refine ite_nx (R.nx_bind (evVs_nx es h ρ) fun x => ?_) bad_nx
    split
    · exact opt_nx fun _ => ok_nx
    · exact bad_nx
  | .lc own elt tg it c, h, ρ => by
    unfold evE
    obtain ⟨h1, h3⟩ := and2 h
    obtain ⟨h1, h2⟩ := and2 h1
    refine R.nx_bind (src_nx (evE_nx it h2 ρ)) fun s => ite_nx bad_nx (R.nx_bind (lcL_nx (fun d ρ1 => opt_nx fun ρ2 => R.nx_bind ?_ fun t => ite_nx (R.nx_bind (evE_nx elt h1 _) fun _ => ok_nx) ok_nx) _ _) fun _ => ok_nx)
    cases c with
    | none => exact ok_nx
    | some c => exact R.nx_bind (od_nx (evE_nx c h3 _)) fun _ => opt_nx fun _ => ok_nx
  | .itr b es, h, ρ => by unfold evE; exact R.nx_bind (evVs_nx es h ρ) fun _ => opt_nx fun _ => ok_nx
  | .tupI b es, h, ρ => by unfold evE; exact R.nx_bind (evVs_nx es h ρ) fun _ => opt_nx fun _ => ok_nx
  | .callx f es, h, ρ => by cases h
  | .callf f es e, h, ρ => by
    unfold evE
    refine R.nx_bind (evOs_nx es (and2 h).1 ρ) fun _ => R.nx_bind (evE_nx e (and2 h).2 _) fun _ => ite_nx (opt_nx fun _ => opt_nx fun _ => ite_nx ?_ bad_nx) bad_nx
    unfold callRf
    split
    · exact ite_nx ok_nx bad_nx
    · exact bad_nx
theorem evA_nx (t : Bool) : ∀ (es : List Ex), noXs es = true → ∀ ρ, (evA mf cf t es ρ).nx
  | [], _, ρ => by unfold evA; exact bad_nx
  | [e], h, ρ => by unfold evA; exact R.nx_bind (od_nx (evE_nx e (and2 h).1 ρ)) fun _ => opt_nx fun _ => ok_nx
  | e :: f :: es, h, ρ => by
    unfold evA
    exact R.nx_bind (od_nx (evE_nx e (and2 h).1 ρ)) fun _ => opt_nx fun _ => opt_nx fun _ => ite_nx (evA_nx t (f :: es) (and2 h).2 _) ok_nx
theorem evOs_nx : ∀ (es : List Ex), noXs es = true → ∀ ρ, (evOs mf cf es ρ).nx
  | [], _, ρ => by unfold evOs; exact ok_nx
  | e :: es, h, ρ => by unfold evOs; exact R.nx_bind (od_nx (evE_nx e (and2 h).1 ρ)) fun _ => R.nx_bind (evOs_nx es (and2 h).2 _) fun _ => ok_nx
theorem evVs_nx : ∀ (es : List Ex), noXs es = true → ∀ ρ, (evVs mf cf es ρ).nx
  | [], _, ρ => by unfold evVs; exact ok_nx
  | e :: es, h, ρ => by unfold evVs; exact R.nx_bind (evE_nx e (and2 h).1 ρ) fun _ => R.nx_bind (evVs_nx es (and2 h).2 _) fun _ => ok_nx
theorem evB_nx : ∀ (e : Option Ex), noXo e = true → ∀ ρ, (evB mf cf e ρ).nx
  | none, _, ρ => by unfold evB; exact ok_nx
  | some e, h, ρ => by
    unfold evB
    refine R.nx_bind (od_nx (evE_nx e h ρ)) fun _ => ?_
    split <;> first | exact ok_nx | exact bad_nx
end
end
end G

/-! sorted -/
namespace G
open PySem PySem.Spec L2
section
open PyProof.Rows
variable {prog : Program} {w : World} {A : Around} {E : Value → Shared → Prop} {s : Shared}
/-- whatever is collected: the sorted list of it -/
theorem sorted_of {v : Value} {vs : List Value} {ltv : Value → Value → Bool} {Q : Value → Shared → Prop} {s2 : Shared} (O : SrtO.Swo ltv) (hcol : ∀ (R : List Value → Shared → Prop), R vs s2 → wpAny (model prog w) A.in1 (collect v) R E s) (hz : vs.length ≤ sizeLine)
    (hS : 2 ≤ vs.length → ∀ (h₁ : Heap) (a : Addr), h₁.get? a = some (seqObj "list" vs.toArray 0) → (∀ b o, s2.heap.get? b = some o → b ≠ a ∧ h₁.get? b = some o) → SrtO.SortableO prog w A.in1.in1 { s2 with heap := h₁ } a vs ltv)
    (h : ∀ out : List Value, SrtO.Srtd ltv out → SrtO.Stb ltv out vs → Q (.ref s2.heap.objs.size) { s2 with heap := sortedHeap (s2.heap.push (seqObj "list" vs.toArray 0)) s2.heap.objs.size vs out.toArray }) :
    wpAny (model prog w) A (call (.builtin "sorted") [v]) Q E s := by
  refine Calls.call_function_entry (kind_sorted) plain_sorted entry_sorted (args_sorted1 _) (by
    unfold Builtin.«sorted»
    refine wpAny_bind (m := checkCount "sorted" 1 1 _) (wpAny_pure (wpAny_bind (hcol _ (wpAny_bind (wpAny_newList ?_ hz)))))
    have at_ : (s2.heap.push (seqObj "list" vs.toArray 0)).get? s2.heap.objs.size = some (seqObj "list" vs.toArray 0) := Heap.get?_push_size _ rfl
    have kp : ∀ b o, s2.heap.get? b = some o → b ≠ s2.heap.objs.size ∧ (s2.heap.push (seqObj "list" vs.toArray 0)).get? b = some o := fun b o q => ⟨Nat.ne_of_lt (Heap.lt_size q), Heap.get?_push_of_some _ q⟩
    show wpAny _ _ _ _ _ { s2 with heap := s2.heap.push (seqObj "list" vs.toArray 0) }
    exact wpAny_bind (wpAny_holding (wpAny_call_entry slot_list_sort ⟨_, at_, rfl⟩ entry_list_sort (SrtO.list_sort_ord O at_ hz (fun h2 => hS h2 _ _ at_ kp) fun out a b => ⟨_, rfl, wpAny_pure ⟨_, rfl, h out a b⟩⟩) (args_list_sort _))))
/-- a tuple's items -/
theorem collect_tup {l : Addr} {vs : List Value} {R : List Value → Shared → Prop} (hl : IsTup s.heap l vs.toArray) (hz : vs.length ≤ sizeLine)
    (h : R vs { s with heap := (s.heap.push (seqObj "list" #[] 0)).update s.heap.objs.size (Obj.mapSeq (· ++ vs.toArray)) }) : wpAny (model prog w) A (collect (.ref l)) R E s := by
  obtain ⟨o, g1, g2, n, g3⟩ := id hl
  have g4 : (s.heap.push (seqObj "list" #[] 0)).get? l = some o := Heap.get?_push_of_some _ g1
  have g5 : (s.heap.push (seqObj "list" #[] 0)).get? s.heap.objs.size = some (seqObj "list" #[] 0) := Heap.get?_push_size _ rfl
  unfold collect
  refine wpAny_bind (wpAny_runValue (codeAny_builtin entry_proto_collect' ?_))
  show wpAny _ _ (do again (.builtin "list.__iadd__" ⟨[← newList [], .ref l], []⟩)) _ _ s
  refine wpAny_bind (wpAny_newList (wpAny_pure ⟨Code.quiet_builtin _ (by decide +kernel), codeAny_builtin entry_list_iadd' ?_⟩))
  show wpAny _ _ (Builtin.List.listExtendWith (.ref s.heap.objs.size) (.ref l) (.ref s.heap.objs.size)) _ _ { s with heap := s.heap.push (seqObj "list" #[] 0) }
  unfold Builtin.List.listExtendWith
  refine wpAny_bind (wpAny_typeOf (T := "tuple") ⟨o, g4, g2⟩ ?_)
  have ht : (Value.type "tuple" == Value.type "tuple") = true := by rfl
  have ht' : (Value.type "tuple" == Value.type "list") = false := by rfl
  rw [if_pos (by simp)]
  refine wpAny_bind (listItems_at g4 g3 (wpAny_bind (listItems_at (xs := #[]) (n := 0) g5 rfl ?_)))
  rw [if_neg (by simp)]
  refine wpAny_bind (listUpdate_at (xs := #[]) (n := 0) g5 rfl (wpAny_pure ?_) (Nat.zero_le _) (by show (#[] ++ vs.toArray).size ≤ sizeLine + 1; simp only [Array.size_append, List.size_toArray, List.length_nil]; omega))
  show wpAny (model prog w) A (do
      let o ← load s.heap.objs.size
      match o.data with
      | .seq xs _ => pure xs.toList
      | _ => unsupported "internal:collect") R E { s with heap := (s.heap.push (seqObj "list" #[] 0)).update s.heap.objs.size (Obj.mapSeq (· ++ vs.toArray)) }
  refine wpAny_bind (wpAny_load (get?_update_seq g5 _) ?_)
  show wpAny _ _ (pure ((#[] : Array Value) ++ vs.toArray).toList) R E _
  rw [show ((#[] : Array Value) ++ vs.toArray).toList = vs by simp]
  exact wpAny_pure h
end
theorem relV_inj {x y : V} {u : Value} (h : RelV x u) (h' : RelV y u) : x = y := by
  cases x <;> cases y <;> simp only [RelV] at h h' <;> first
    | rfl
    | (subst h; cases h'; rfl)
    | (subst h; cases h'; done)
    | (obtain ⟨t, rfl⟩ := h; obtain ⟨t', e⟩ := h'; cases e; rfl)
    | (obtain ⟨t, rfl⟩ := h; obtain ⟨t', e⟩ := h'; cases e; done)
    | (subst h; obtain ⟨t', e⟩ := h'; cases e; done)
    | (obtain ⟨t, rfl⟩ := h; cases h'; done)
section
variable {X : Cx} {fa : FA} {pins : List (Addr × Obj)} {s : Shared} {σ : L2.St} {H : Hp} {w : World} {A : Around}
/-- the datum that a value stands for -/
noncomputable def rdV (K : PySem.W.Frag) (fa : FA) (H : Hp) (u : Value) : D := by
  classical exact if h : ∃ d x, RelV x u ∧ Rep K fa H x d ∧ pl d = true then h.choose else .non
theorem rdV_eq (I : Inv X pins σ H s) {x : V} {u : Value} {d : D} (h1 : RelV x u) (h2 : Rep X.K fa H x d) (h3 : pl d = true) : rdV X.K fa H u = d := by
  have h : ∃ d x, RelV x u ∧ Rep X.K fa H x d ∧ pl d = true := ⟨d, x, h1, h2, h3⟩
  unfold rdV
  rw [dif_pos h]
  obtain ⟨y, q1, q2, q3⟩ := h.choose_spec
  cases relV_inj q1 h1
  exact Rep.inj I q2 h2 q3 h3
theorem rdV_map (I : Inv X pins σ H s) : ∀ {vs : List V} {us : List Value} {ds : List D}, Vals vs us → Reps X.K fa H vs ds → plL ds = true → us.map (rdV X.K fa H) = ds
  | _, _, _, .nil, .nil, _ => rfl
  | _, _, _, .cons a b, .cons c d, p => by
    simp only [plL, Bool.and_eq_true] at p
    rw [List.map_cons, rdV_eq I a c p.1, rdV_map I b d p.2]
theorem vals_mem : ∀ {vs : List V} {us : List Value} {ds : List D}, Vals vs us → Reps X.K fa H vs ds → ∀ u ∈ us, ∃ x d, RelV x u ∧ Rep X.K fa H x d ∧ d ∈ ds
  | _, _, _, .nil, _, u, h => nomatch h
  | _, _, _, .cons a b, .cons c d, u, h => by
    rcases List.mem_cons.mp h with rfl | h
    · exact ⟨_, _, a, c, List.mem_cons_self⟩
    · obtain ⟨x, d, q1, q2, q3⟩ := vals_mem b d u h
      exact ⟨x, d, q1, q2, List.mem_cons_of_mem _ q3⟩
theorem katD (I : Inv X pins σ H s) {b fin : Bool} {R : Bool → Shared → Prop} (hu : A.units + 130 < cLine) : ∀ {ds es : List D} {vs ws : List V} {ps qs : List Value} (i : Nat), Reps X.K fa H vs ds → Reps X.K fa H ws es → Vals vs ps → Vals ws qs → plL ds = true → plL es = true → depL ds ≤ 60 → depL es ≤ 60 → cmpbL ds es = true →
    ((b && i == 0) = true → ∀ d r e r', ds = d :: r → es = e :: r' → tyK d = tyK e ∧ (tyK d = 1 ∨ tyK d = 2)) → fin = decide (ps.length < qs.length) → R (ltBL ds es) s → PySem.W.KatLex X.prog w A b fin R (ps.zip qs) i s
  | _, _, _, _, _, _, i, .nil, .nil, .nil, .nil, _, _, _, _, _, _, hf, h => by
    subst hf
    exact PySem.W.kat_nil (by simpa [ltBL] using h)
  | _, _, _, _, _, _, i, .nil, .cons _ _, .nil, .cons _ _, _, _, _, _, _, _, hf, h => by
    subst hf
    exact PySem.W.kat_nil (by simpa [ltBL] using h)
  | _, _, _, _, _, _, i, .cons _ _, .nil, .cons _ _, .nil, _, _, _, _, _, _, hf, h => by
    subst hf
    exact PySem.W.kat_nil (by simpa [ltBL] using h)
  | d :: ds, e :: es, _, _, p :: ps, q :: qs, i, .cons a1 a2, .cons b1 b2, .cons c1 c2, .cons d1 d2, p1, p2, n1, n2, hc, hb, hf, h => by
    simp only [plL, Bool.and_eq_true] at p1 p2
    simp only [depL] at n1 n2
    simp only [cmpbL, Bool.and_eq_true, Bool.or_eq_true] at hc
    have q1 := a1.dp p1.1
    have q2 := b1.dp p2.1
    obtain ⟨as, z1⟩ := Dp.reads I _ _ _ q1.1 c1
    obtain ⟨bs, z2⟩ := Dp.reads I _ _ _ q2.1 d1
    have eq := SeqAt.eqAt_reads (toPy d) (toPy e) A s _ _ _ _ z1 z2 q1.2 q2.2 (by rw [dep_py, dep_py]; omega)
    rw [eqv_py _ _ p1.1 p2.1] at eq
    refine PySem.W.kat_cons (eq X.prog w _ _ (PySem.W.kat_go (fun ht => PySem.W.kat_yes ?_) (fun hn => PySem.W.kat_no ?_)))
    · refine katD I hu (i + 1) a2 b2 c2 d2 p1.2 p2.2 (by omega) (by omega) hc.2 (fun z => by simp at z) (by rw [hf]; simp) ?_
      simpa [ltBL, ht] using h
    · have hr : R (ltB d e) s := by simpa [ltBL, hn] using h
      have hcd := hc.1.resolve_left (by rw [hn]; simp)
      cases hbi : (b && i == 0) with
      | true =>
        obtain ⟨t1, t2⟩ := hb hbi d ds e es rfl rfl
        cases a1 <;> simp only [tyK] at t1 t2 <;> first | omega | skip
        · cases b1 <;> simp only [tyK] at t1 <;> first | omega | skip
          obtain ⟨t, rfl⟩ := c1
          obtain ⟨t', rfl⟩ := d1
          exact PyProof.Rows.oneLt_any_int (by simpa [ltB] using hr)
        · cases b1 <;> simp only [tyK] at t1 <;> first | omega | skip
          obtain ⟨t, rfl⟩ := c1
          obtain ⟨t', rfl⟩ := d1
          exact PyProof.Rows.oneLt_any_str (by simpa [ltB, ss] using hr)
      | false =>
        exact PySem.W.kat_one _ _ (lt_at I (dep d) d e _ _ _ _ A (Nat.le_refl _) (by omega) (by omega) a1 b1 c1 d1 p1.1 p2.1 hcd (by omega) X.prog w _ _ hr)
/-- the items' kind, and how any two of them compare -/
theorem firstsD (I : Inv X pins σ H s) (t : Nat) (ht : t = 1 ∨ t = 2 ∨ t = 3) : ∀ {vs : List V} {us : List Value} {ds : List D}, Vals vs us → Reps X.K fa H vs ds → ds.all (fstK t) = true →
    ∃ fs, PySem.W.KatTups s.heap us fs ∧ fs.length = us.length ∧ ∀ f ∈ fs, ∀ M : Model, PySem.W.Looks M s.heap (typeOf f) (.type (if t = 1 then "int" else if t = 2 then "str" else "tuple"))
  | _, _, _, .nil, .nil, _ => ⟨[], .nil, rfl, fun _ h => nomatch h⟩
  | _, _, d :: _, .cons a b, .cons c e, h => by
    simp only [List.all_cons, Bool.and_eq_true] at h
    obtain ⟨fs, k1, k2, k3⟩ := firstsD I t ht b e h.2
    have h1 := h.1
    unfold fstK at h1
    split at h1
    · rename_i y r
      cases c with
      | @tup a' vs' _ h' _ r' =>
        cases a
        cases r' with
        | cons hy r' =>
          obtain ⟨its, rv, ⟨o, g1, g2, n, g3⟩, _⟩ := I.tuple h'
          cases rv with
          | cons f1 f2 =>
            rename_i fv fr
            refine ⟨fv :: fs, .cons g1 g2 g3 (by simp) k1, by simp [k2], fun f hf => ?_⟩
            rcases List.mem_cons.mp hf with rfl | hf
            · simp only [beq_iff_eq] at h1
              cases hy with
              | int i =>
                obtain ⟨tk, rfl⟩ := f1
                simp only [tyK] at h1
                subst h1
                exact fun M => PySem.W.Looks.of_pure rfl
              | str x hx =>
                obtain ⟨tk, rfl⟩ := f1
                simp only [tyK] at h1
                subst h1
                exact fun M => PySem.W.Looks.of_pure rfl
              | tup hq _ =>
                cases f1
                simp only [tyK] at h1
                subst h1
                obtain ⟨its2, _, ⟨o2, j1, j2, _⟩, _⟩ := I.tuple hq
                intro M
                have : PySem.W.Looks M s.heap (typeOf (.ref _)) o2.cls := (PySem.W.Looks.ld j1).andThen .now
                rw [j2] at this
                exact this
              | _ => simp only [tyK] at h1; omega
            · exact k3 f hf
    · cases h1
theorem kindD (I : Inv X pins σ H s) {vs : List V} {us : List Value} {ds : List D} (hu : A.units + 130 < cLine) (h2 : 2 ≤ us.length) (rv : Vals vs us) (r : Reps X.K fa H vs ds) (hc : allCmp ds = true) (hk : srtK ds = true) : ∃ κ,
    (∀ (R : PyProof.Rows.SortKind → Shared → Prop) (E : Value → Shared → Prop), R κ s → wpAny (model X.prog w) A (PyProof.Rows.keyKind' us.toArray) R E s) ∧
    SrtO.Cmp X.prog w A s κ (fun p => p.1 ∈ us) (SrtO.lt2 fun a b => ltQ (rdV X.K fa H a) (rdV X.K fa H b)) := by
  simp only [allCmp, Bool.and_eq_true, decide_eq_true_eq, List.all_eq_true] at hc
  obtain ⟨⟨c1, c2⟩, c3⟩ := hc
  have lens : ds.length = us.length := by rw [← r.length, L2.Vals.length rv]
  have memD : ∀ u ∈ us, ∃ x d, RelV x u ∧ Rep X.K fa H x d ∧ d ∈ ds ∧ pl d = true ∧ dep d ≤ 50 ∧ rdV X.K fa H u = d := fun u hu => by
    obtain ⟨x, d, q1, q2, q3⟩ := vals_mem rv r u hu
    obtain ⟨j, hj, e⟩ := List.mem_iff_getElem.mp q3
    have p := plL_at c1 j hj
    have dd := depL_at j hj
    rw [e] at p dd
    exact ⟨x, d, q1, q2, q3, p, by omega, rdV_eq I q1 q2 p⟩
  have lt_eq : ∀ d e : D, d ∈ ds → e ∈ ds → pl d = true → pl e = true → ltQ d e = ltB d e := fun d e hd he p q => (ltB_key d e p q (c3 d hd e he)).symm
  have one : ∀ (T : String) (t : Nat), (∀ u ∈ us, ∀ M : Model, PySem.W.Looks M s.heap (typeOf u) (.type T)) → ((Value.type T != Value.type "tuple") = true) → ((Value.type T == Value.type T) = true) → (t = 1 ∨ t = 2) → (∀ d ∈ ds, tyK d = t) → ∃ κ,
      (∀ (R : PyProof.Rows.SortKind → Shared → Prop) (E : Value → Shared → Prop), R κ s → wpAny (model X.prog w) A (PyProof.Rows.keyKind' us.toArray) R E s) ∧ SrtO.Cmp X.prog w A s κ (fun p => p.1 ∈ us) (SrtO.lt2 fun a b => ltQ (rdV X.K fa H a) (rdV X.K fa H b)) := fun T t hT n1 n2 ht hall => by
    refine ⟨PyProof.Rows.oneType', fun R E h => PySem.W.kas_kind h2 (fun v hv => hT v hv _) n1 n2 h, fun p q hp hq => ?_⟩
    obtain ⟨x, d, a1, a2, a3, a4, a5, a6⟩ := memD _ hp
    obtain ⟨y, e, b1, b2, b3, b4, b5, b6⟩ := memD _ hq
    have key := lt_eq d e a3 b3 a4 b4
    have t1 := hall d a3
    have t2 := hall e b3
    show wpAny (model X.prog w) A (PyProof.Rows.keyLt' PyProof.Rows.oneType' p.1 q.1) (fun r s' => s' = s ∧ r = ltQ (rdV X.K fa H p.1) (rdV X.K fa H q.1)) (fun _ _ => False) s
    rw [a6, b6, key, PyProof.Rows.keyLt'_oneType]
    generalize p.1 = u1 at a1
    generalize q.1 = u2 at b1
    cases a2 <;> simp only [tyK] at t1 <;> first | omega | skip
    · cases b2 <;> simp only [tyK] at t2 <;> first | omega | skip
      obtain ⟨k1, rfl⟩ := a1
      obtain ⟨k2, rfl⟩ := b1
      exact PyProof.Rows.oneLt_any_int ⟨rfl, by simp [ltB]⟩
    · cases b2 <;> simp only [tyK] at t2 <;> first | omega | skip
      obtain ⟨k1, rfl⟩ := a1
      obtain ⟨k2, rfl⟩ := b1
      exact PyProof.Rows.oneLt_any_str ⟨rfl, by simp [ltB, ss]⟩
  have tups : ∀ t : Nat, (t = 1 ∨ t = 2 ∨ t = 3) → ds.all (fstK t) = true → ∃ κ,
      (∀ (R : PyProof.Rows.SortKind → Shared → Prop) (E : Value → Shared → Prop), R κ s → wpAny (model X.prog w) A (PyProof.Rows.keyKind' us.toArray) R E s) ∧ SrtO.Cmp X.prog w A s κ (fun p => p.1 ∈ us) (SrtO.lt2 fun a b => ltQ (rdV X.K fa H a) (rdV X.K fa H b)) := fun t ht hall => by
    obtain ⟨fs, k1, k2, k3⟩ := firstsD I t ht rv r hall
    refine ⟨_, fun R E h => PySem.W.kat_kind k1 (by omega) (fun f hf => k3 f hf _) (by rcases ht with rfl | rfl | rfl <;> decide +kernel) h, fun p q hp hq => ?_⟩
    obtain ⟨x, d, a1, a2, a3, a4, a5, a6⟩ := memD _ hp
    obtain ⟨y, e, b1, b2, b3, b4, b5, b6⟩ := memD _ hq
    have key := lt_eq d e a3 b3 a4 b4
    have cde := c3 d a3 e b3
    have f1 := List.all_eq_true.mp hall d a3
    have f2 := List.all_eq_true.mp hall e b3
    show wpAny (model X.prog w) A (PyProof.Rows.keyLt' _ p.1 q.1) (fun r s' => s' = s ∧ r = ltQ (rdV X.K fa H p.1) (rdV X.K fa H q.1)) (fun _ _ => False) s
    rw [a6, b6, key]
    generalize p.1 = u1 at a1
    generalize q.1 = u2 at b1
    unfold fstK at f1 f2
    split at f1
    · rename_i d1 dr
      split at f2
      · rename_i e1 er
        cases a2 with
        | tup g1 _ g2 =>
          cases b2 with
          | tup j1 _ j2 =>
            cases a1
            cases b1
            obtain ⟨it1, rv1, ⟨o1, m1, m2, n1, m3⟩, _⟩ := I.tuple g1
            obtain ⟨it2, rv2, ⟨o2, l1, l2, n2, l3⟩, _⟩ := I.tuple j1
            refine PySem.W.kat_lt m1 m3 l1 l3 ?_
            simp only [pl, dep, cmpb] at a4 b4 a5 b5 cde
            refine katD I hu 0 g2 j2 rv1 rv2 a4 b4 (by omega) (by omega) cde (fun hb z r z' r' ez ez' => ?_) (by simp) ⟨rfl, by simp [ltB]⟩
            cases ez
            cases ez'
            simp only [beq_iff_eq] at f1 f2
            refine ⟨by rw [f1, f2], ?_⟩
            rcases ht with rfl | rfl | rfl
            · exact .inl f1
            · exact .inr f1
            · exfalso
              revert hb
              decide +kernel
      · cases f2
    · cases f1
  simp only [srtK, Bool.or_eq_true, decide_eq_true_eq, List.all_eq_true] at hk
  rcases hk with ((((hk | hk) | hk) | hk) | hk) | hk
  · omega
  · refine one "int" 1 (fun u hu M => ?_) (by decide +kernel) (by decide +kernel) (.inl rfl) (fun d hd => by simpa using hk d hd)
    obtain ⟨x, d, a1, a2, a3, _⟩ := memD u hu
    have t1 : tyK d = 1 := by simpa using hk d a3
    cases a2 <;> simp only [tyK] at t1 <;> first | omega | skip
    obtain ⟨tk, rfl⟩ := a1
    exact PySem.W.Looks.of_pure rfl
  · refine one "str" 2 (fun u hu M => ?_) (by decide +kernel) (by decide +kernel) (.inr rfl) (fun d hd => by simpa using hk d hd)
    obtain ⟨x, d, a1, a2, a3, _⟩ := memD u hu
    have t1 : tyK d = 2 := by simpa using hk d a3
    cases a2 <;> simp only [tyK] at t1 <;> first | omega | skip
    obtain ⟨tk, rfl⟩ := a1
    exact PySem.W.Looks.of_pure rfl
  · exact tups 1 (.inl rfl) (List.all_eq_true.mpr hk)
  · exact tups 2 (.inr (.inl rfl)) (List.all_eq_true.mpr hk)
  · exact tups 3 (.inr (.inr rfl)) (List.all_eq_true.mpr hk)
/-- a sorted list out of the items -/
theorem sortOut (I : Inv X pins σ H s) {S : Hp} (sub : Sub S H) {vs : List V} {us out : List Value} {ds : List D} (rv : Vals vs us) (r : Reps X.K fa S vs ds) (hc : allCmp ds = true)
    (h1 : SrtO.Srtd (fun a b => ltQ (rdV X.K fa H a) (rdV X.K fa H b)) out) (h2 : SrtO.Stb (fun a b => ltQ (rdV X.K fa H a) (rdV X.K fa H b)) out us) : ∃ ws, Vals ws out ∧ Reps X.K fa S ws (sortR ds) := by
  simp only [allCmp, Bool.and_eq_true, decide_eq_true_eq, List.all_eq_true] at hc
  obtain ⟨⟨c1, c2⟩, c3⟩ := hc
  have pm : ∀ d ∈ ds, pl d = true := fun d hd => by
    obtain ⟨j, hj, e⟩ := List.mem_iff_getElem.mp hd
    rw [← e]
    exact plL_at c1 j hj
  have e : out.map (rdV X.K fa H) = sortR ds := by
    refine sortR_uniq (fun x hx y hy => ltB_key y x (pm y hy) (pm x hx) (c3 y hy x hx)) (SrtO.srtd_map h1) ?_
    have := SrtO.Stb.map (lt := ltQ) ltQ_swo (rdV X.K fa H) h2
    rwa [rdV_map I rv (r.mono sub) c1] at this
  rw [← e]
  have mem : ∀ u ∈ out, ∃ x, RelV x u ∧ Rep X.K fa S x (rdV X.K fa H u) := fun u hu => by
    obtain ⟨x, d, q1, q2, q3⟩ := vals_mem rv r u (h2.perm.mem_iff.mp hu)
    exact ⟨x, q1, by rw [rdV_eq I q1 (q2.mono sub) (pm d q3)]; exact q2⟩
  clear e h1 h2
  induction out with
  | nil => exact ⟨[], .nil, .nil⟩
  | cons u us' ih =>
    obtain ⟨x, q1, q2⟩ := mem u List.mem_cons_self
    obtain ⟨ws, k1, k2⟩ := ih fun v hv => mem v (List.mem_cons_of_mem _ hv)
    exact ⟨x :: ws, .cons q1 k1, .cons q2 k2⟩
end
section
variable {X : Cx} {fa : FA}
theorem sort_go {pins : List (Addr × Obj)} {s s2 : Shared} {σ : L2.St} {S H : Hp} {Q : VK} {u : Value} {vs : List V} {us : List Value} {ds : List D} (hu : X.A.units + 200 < cLine) (I : Inv X pins σ H s) (sub : Sub S H) (rv : Vals vs us) (r : Reps X.K fa S vs ds) (hz : vs.length ≤ sizeLine)
    (hs2 : ∃ h', s2 = { s with heap := h' } ∧ ∀ b o, s.heap.get? b = some o → h'.get? b = some o)
    (hcol : ∀ (R : List Value → Shared → Prop), R us s2 → wpAny (model X.prog X.w) X.A.in1 (collect u) R X.xe s) (hc : allCmp ds = true) (hk : srtK ds = true)
    (post : ∀ v H' S', Gr S H S' H' → RV0 X.K fa H S' H' v (.lst (sortR ds)) true → Q v H') : wpAny (model X.prog X.w) X.A (call (.builtin "sorted") [u]) (EP X pins σ Q) X.xe s := by
  obtain ⟨h', rfl, kp⟩ := hs2
  have I2 : Inv X pins σ H { s with heap := h' } := I.kept (t' := s.toks) kp
  have rH : Reps X.K fa H vs ds := r.mono sub
  have ul := L2.Vals.length rv
  have hn : X.A.in1.in1.units = X.A.units + 2 := rfl
  refine sorted_of (ltv := fun a b => ltQ (rdV X.K fa H a) (rdV X.K fa H b)) (s2 := { s with heap := h' }) ⟨fun x y => ltQ_swo.asym _ _, fun x y z => ltQ_swo.tr _ _ _⟩ hcol (by omega) (fun h2 h₁ a ha kk => fun h'' k2 => ?_) (fun out o1 o2 => ?_)
  · have I3 : Inv X pins σ H { s with heap := h'' } := I.kept (t' := s.toks) fun b o e => k2 b o (kk b o (kp b o e)).1 (kk b o (kp b o e)).2
    exact kindD (A := X.A.in1.in1) I3 (by omega) h2 rv rH hc hk
  · obtain ⟨ws, k1, k3⟩ := sortOut I sub rv r hc o1 o2
    have at_ : (h'.push (PyProof.Rows.seqObj "list" us.toArray 0)).get? h'.objs.size = some (PyProof.Rows.seqObj "list" us.toArray 0) := Heap.get?_push_size _ rfl
    obtain ⟨ep, he⟩ := PyProof.Rows.sortedHeap_at (vs := us) (out := out.toArray) at_
    have kp2 : ∀ b o, h'.get? b = some o → (PyProof.Rows.sortedHeap (h'.push (PyProof.Rows.seqObj "list" us.toArray 0)) h'.objs.size us out.toArray).get? b = some o := fun b o e => by
      have hb := Heap.lt_size e
      rw [PyProof.Rows.sortedHeap_old (Nat.ne_of_lt hb) (by rw [PyProof.Rows.size_push']; exact Nat.lt_succ_of_lt hb)]
      exact Heap.get?_push_of_some _ e
    have hlen : ws.length ≤ sizeLine := by rw [L2.Vals.length k1, o2.perm.length_eq]; omega
    have hf := I2.fresh
    exact ⟨.ref h'.objs.size, upd H h'.objs.size (.lst ws), I2.laid (t' := s.toks) kp2 (Nat.le_refl _) ⟨hlen, out, ep, k1, he⟩, rfl, post _ _ S (.fresh sub hf) (rv0T hf (sub.none hf) k3)⟩
theorem cb_sorted (hu : X.A.units + 200 < cLine) : CallR X (.builtin "sorted") (rCl X.K fa sortedD) := by
  intro pins s σ H xs us Q I r ⟨S, ds, z, sub, h, e, post⟩
  unfold sortedD at e
  split at e
  · split at e
    · rename_i hc
      cases e
      simp only [Bool.and_eq_true] at hc
      obtain ⟨x, rfl, hx⟩ := h.one
      obtain ⟨a, vs, rfl, t, rr⟩ := hx.lst sub
      obtain ⟨its, rv, pl, hz⟩ := I.list (.inl t)
      cases Vals.one r with
      | intro u hu' =>
        obtain ⟨rfl, ru⟩ := hu'
        cases ru
        have ul := L2.Vals.length rv
        exact sort_go hu I sub rv rr hz ⟨_, rfl, fun b o e => by
          rw [Heap.get?_update_ne _ _ _ _ (Nat.ne_of_lt (Heap.lt_size e))]
          exact Heap.get?_push_of_some _ e⟩ (fun R hR => PyProof.Rows.collect_list pl.isList hR (by omega)) hc.1 hc.2 post
    · cases e
  · split at e
    · rename_i hc
      cases e
      simp only [Bool.and_eq_true] at hc
      obtain ⟨x, rfl, hx⟩ := h.one
      obtain ⟨a, vs, rfl, t, t', rr⟩ := hx.tup sub
      obtain ⟨its, rv, pl, hz⟩ := I.tuple t
      cases Vals.one r with
      | intro u hu' =>
        obtain ⟨rfl, ru⟩ := hu'
        cases ru
        have ul := L2.Vals.length rv
        exact sort_go hu I sub rv rr hz ⟨_, rfl, fun b o e => by
          rw [Heap.get?_update_ne _ _ _ _ (Nat.ne_of_lt (Heap.lt_size e))]
          exact Heap.get?_push_of_some _ e⟩ (fun R hR => collect_tup pl (by omega) hR) hc.1 hc.2 post
    · cases e
  · cases e
end
end G

/-! sets of ints, of texts, of nested tuples: made out of a list or a tuple, and sorted -/
namespace G
open PySem PySem.Spec L2
/-! ### data as keys -/
mutual
def toK : D → NestedKey
  | .bl b => .num (if b = true then 1 else 0)
  | .int i => .num i
  | .str x => .text (ss x)
  | .tup xs => .tup (toKs xs)
  | _ => .none
def toKs : List D → List NestedKey
  | [] => []
  | x :: xs => toK x :: toKs xs
end
theorem ss_inj' {x y : List Nat} (h : ss x = ss y) : x = y := by
  have := congrArg TL.tl h
  rwa [tl_ss, tl_ss] at this
mutual
theorem eqv_toK : ∀ x y : D, kb x = true → kb y = true → eqv x y = NestedKey.beq (toK x) (toK y)
  | .non, y, _, hy => by cases y <;> first | (cases hy; done) | rfl
  | .bl a, y, _, hy => by
    cases y <;> first | (cases hy; done) | skip
    · rfl
    · rename_i b; cases a <;> cases b <;> rfl
    · rename_i j
      show ((if a then (1 : Int) else 0) == j) = decide _
      rw [Bool.eq_iff_iff, beq_iff_eq, decide_eq_true_eq]
    · rfl
    · rfl
  | .int i, y, _, hy => by
    cases y <;> first | (cases hy; done) | skip
    · rfl
    · rename_i b
      show (i == (if b then (1 : Int) else 0)) = decide _
      rw [Bool.eq_iff_iff, beq_iff_eq, decide_eq_true_eq]
    · rename_i j
      show (i == j) = decide _
      rw [Bool.eq_iff_iff, beq_iff_eq, decide_eq_true_eq]
    · rfl
    · rfl
  | .str x, y, _, hy => by
    cases y <;> first | (cases hy; done) | skip
    · rfl
    · rfl
    · rfl
    · rename_i y
      show (x == y) = decide (ss x = ss y)
      rw [Bool.eq_iff_iff, beq_iff_eq, decide_eq_true_eq]
      exact ⟨fun h => by rw [h], ss_inj'⟩
    · rfl
  | .tup xs, y, hx, hy => by
    cases y <;> first | (cases hy; done) | skip
    · rfl
    · rfl
    · rfl
    · rfl
    · rename_i ys
      exact eqvL_toK xs ys hx hy
  | .lst _, _, hx, _ => by cases hx
  | .dic _ _, _, hx, _ => by cases hx
  | .ins _ _, _, hx, _ => by cases hx
  | .fn _, _, hx, _ => by cases hx
  | .cls _, _, hx, _ => by cases hx
theorem eqvL_toK : ∀ xs ys : List D, kbL xs = true → kbL ys = true → eqvL xs ys = NestedKey.beqAll (toKs xs) (toKs ys)
  | [], [], _, _ => rfl
  | [], _ :: _, _, _ => rfl
  | _ :: _, [], _, _ => rfl
  | x :: xs, y :: ys, hx, hy => by
    simp only [kbL, Bool.and_eq_true] at hx hy
    show (eqv x y && eqvL xs ys) = (NestedKey.beq (toK x) (toK y) && NestedKey.beqAll (toKs xs) (toKs ys))
    rw [eqv_toK x y hx.1 hy.1, eqvL_toK xs ys hx.2 hy.2]
end
theorem eqv_key_iff {x y : D} (hx : kb x = true) (hy : kb y = true) : eqv x y = true ↔ toK x = toK y := by
  rw [eqv_toK x y hx hy, ← NestedKey.decide_eq, decide_eq_true_eq]
mutual
theorem toK_dep : ∀ x : D, kb x = true → (toK x).depth ≤ dep x
  | .non, _ => Nat.le_refl _
  | .bl _, _ => Nat.le_refl _
  | .int _, _ => Nat.le_refl _
  | .str _, _ => Nat.le_refl _
  | .tup xs, h => Nat.succ_le_succ (toKs_dep xs h)
  | .lst _, h => by cases h
  | .dic _ _, h => by cases h
  | .ins _ _, h => by cases h
  | .fn _, h => by cases h
  | .cls _, h => by cases h
theorem toKs_dep : ∀ xs : List D, kbL xs = true → NestedKey.depthAll (toKs xs) ≤ depL xs
  | [], _ => Nat.le_refl _
  | x :: xs, h => by
    simp only [kbL, Bool.and_eq_true] at h
    have h1 := toK_dep x h.1
    have h2 := toKs_dep xs h.2
    simp only [toKs, NestedKey.depthAll, depL]
    omega
end
section
variable {X : Cx} {fa : FA} {pins : List (Addr × Obj)} {s : Shared} {σ : L2.St} {H : Hp}
mutual
theorem nested_of (I : Inv X pins σ H s) : ∀ {d : D} {x : V} {u : Value}, Rep X.K fa H x d → RelV x u → kb d = true → NestedIs s.heap (toK d) u
  | _, _, u, .non, e, _ => by cases e; exact .none
  | _, _, u, .bl b, e, _ => by cases e; exact .bool rfl
  | _, _, u, .int i, e, _ => by obtain ⟨t, rfl⟩ := e; exact .int i t
  | _, _, u, .str x h, e, _ => by obtain ⟨t, rfl⟩ := e; exact .text _ t
  | _, _, u, .tup h _ r, e, k => by
    cases e
    obtain ⟨its, rv, ⟨o, g1, g2, n, g3⟩, _⟩ := I.tuple h
    exact .tup g1 g2 g3 (by simpa using nesteds_of I r rv k)
  | _, _, u, .lst h r, e, k => by cases k
  | _, _, u, .fn _ h, e, k => by cases k
  | _, _, u, .ins h, e, k => by cases k
theorem nesteds_of (I : Inv X pins σ H s) : ∀ {ds : List D} {xs : List V} {us : List Value}, Reps X.K fa H xs ds → Vals xs us → kbL ds = true → NestedAll s.heap (toKs ds) us
  | _, _, _, .nil, .nil, _ => .nil
  | _, _, _, .cons r rs, .cons e es, k => by
    simp only [kbL, Bool.and_eq_true] at k
    exact .cons (nested_of I r e k.1) (nesteds_of I rs es k.2)
end
end
/-! ### small questions asked of keys -/
section
variable {P : Program} {w : World} {E : Value → Shared → Prop}
/-- asked of v, n deep, it shows nothing -/
def HashAt (P : Program) (w : World) (n : Nat) (s : Shared) (v : Value) : Prop := ∀ (A : Around) (E : Value → Shared → Prop) (Q : Bool → Shared → Prop), (∀ b, Q b s) → wpAny (model P w) A (hashByValue n v) Q E s
def NoClsAt (P : Program) (w : World) (n : Nat) (s : Shared) (v : Value) : Prop := ∀ (A : Around) (E : Value → Shared → Prop) (Q : Bool → Shared → Prop), Q false s → wpAny (model P w) A (ofAClassStatement n v) Q E s
theorem HashAt.pure_ {n : Nat} {s : Shared} {v : Value} {b : Bool} (h : hashByValue n v = pure b) : HashAt P w n s v := fun A E Q q => by
  rw [h]; exact wpAny_pure (q b)
theorem NoClsAt.pure_ {n : Nat} {s : Shared} {v : Value} (h : ofAClassStatement n v = pure false) : NoClsAt P w n s v := fun A E Q q => by
  rw [h]; exact wpAny_pure q
theorem HashAt.tup {n : Nat} {s : Shared} {a : Addr} {o : Obj} {vs : Array Value} {m : Nat} (h1 : s.heap.get? a = some o) (h2 : o.cls = .type "tuple") (h3 : o.data = .seq vs m) (hs : ∀ v ∈ vs.toList, HashAt P w n s v) : HashAt P w (n + 1) s (.ref a) := fun A E Q q => by
  have hT : s.TypeIs (.ref a) "tuple" := ⟨o, h1, h2⟩
  unfold hashByValue
  refine wpAny_bind (wpAny_specialOf hT F.slot_tuple_hash.lookup ?_)
  show wpAny _ _ (seqItems? (.ref a) >>= _) _ _ s
  refine wpAny_bind (wpAny_seqItems h1 h3 (wpAny_bind ?_))
  show wpAny _ _ (forIn vs _ _) _ _ s
  rw [← Array.forIn_toList]
  refine wpAny_forIn_list _ (fun rest r z => r.1 = none ∧ z = s ∧ ∀ v ∈ rest, HashAt P w n s v) _ (fun v rest r z ⟨e1, e2, all⟩ => ?_) (fun r z ⟨e1, e2, _⟩ => ?_) _ _ ⟨rfl, rfl, hs⟩
  · subst e2
    refine wpAny_bind (all v List.mem_cons_self _ _ _ fun b => ?_)
    cases b
    · simp only [Bool.not_false, if_true]
      exact wpAny_pure (wpAny_pure (q false))
    · simp only [Bool.not_true, Bool.false_eq_true, if_false]
      exact wpAny_pure ⟨rfl, rfl, fun u hu => all u (List.mem_cons_of_mem _ hu)⟩
  · obtain ⟨r1, r2⟩ := r
    cases e1
    subst e2
    exact wpAny_pure (q true)
theorem NoClsAt.tup {n : Nat} {s : Shared} {a : Addr} {o : Obj} {vs : Array Value} {m : Nat} (h1 : s.heap.get? a = some o) (h2 : o.cls = .type "tuple") (h3 : o.data = .seq vs m) (hs : ∀ v ∈ vs.toList, NoClsAt P w n s v) : NoClsAt P w (n + 1) s (.ref a) := fun A E Q q => by
  have hT : s.TypeIs (.ref a) "tuple" := ⟨o, h1, h2⟩
  unfold ofAClassStatement
  refine wpAny_bind (wpAny_typeOf hT ?_)
  dsimp only
  have e : (("tuple" : String) == "tuple") = true := by decide
  simp only [e, if_true, Bool.not_true, Bool.false_eq_true, if_false]
  try refine wpAny_bind (wpAny_pure ?_)
  try simp only [Bool.not_true, Bool.false_eq_true, if_false]
  show wpAny _ _ (seqItems? (.ref a) >>= _) _ _ s
  refine wpAny_bind (wpAny_seqItems h1 h3 ?_)
  dsimp only
  refine wpAny_bind ?_
  show wpAny _ _ (forIn vs _ _) _ _ s
  rw [← Array.forIn_toList]
  refine wpAny_forIn_list _ (fun rest r z => r.1 = none ∧ z = s ∧ ∀ v ∈ rest, NoClsAt P w n s v) _ (fun v rest r z ⟨e1, e2, all⟩ => ?_) (fun r z ⟨e1, e2, _⟩ => ?_) _ _ ⟨rfl, rfl, hs⟩
  · subst e2
    refine wpAny_bind (all v List.mem_cons_self _ _ _ ?_)
    simp only [Bool.false_eq_true, if_false]
    exact wpAny_pure ⟨rfl, rfl, fun u hu => all u (List.mem_cons_of_mem _ hu)⟩
  · obtain ⟨r1, r2⟩ := r
    cases e1
    subst e2
    exact wpAny_pure q
mutual
theorem hash_key : ∀ (k : NestedKey) (v : Value) (n : Nat) (s : Shared), NestedIs s.heap k v → k.depth ≤ n → HashAt P w n s v
  | .none, _, n, s, x, _ => by cases x; cases n <;> exact .pure_ rfl
  | .num i, _, n, s, x, _ => by cases x <;> cases n <;> exact .pure_ rfl
  | .text y, _, n, s, x, _ => by cases x; cases n <;> exact .pure_ rfl
  | .tup ks, _, n, s, x, h => by
    cases x with
    | tup g1 g2 g3 g4 =>
      simp only [NestedKey.depth] at h
      cases n with
      | zero => omega
      | succ n => exact .tup g1 g2 g3 (hash_keys ks _ n s g4 (by omega))
theorem hash_keys : ∀ (ks : List NestedKey) (vs : List Value) (n : Nat) (s : Shared), NestedAll s.heap ks vs → NestedKey.depthAll ks ≤ n → ∀ v ∈ vs, HashAt P w n s v
  | [], _, _, _, x, _, v, hv => by cases x; cases hv
  | k :: ks, _, n, s, x, h, v, hv => by
    cases x with
    | cons x1 x2 =>
      simp only [NestedKey.depthAll] at h
      rcases List.mem_cons.mp hv with e | hv
      · rw [e]; exact hash_key k _ n s x1 (by omega)
      · exact hash_keys ks _ n s x2 (by omega) v hv
end
mutual
theorem noCls_key : ∀ (k : NestedKey) (v : Value) (n : Nat) (s : Shared), NestedIs s.heap k v → k.depth ≤ n → NoClsAt P w n s v
  | .none, _, n, s, x, _ => by cases x; cases n <;> exact .pure_ rfl
  | .num i, _, n, s, x, _ => by cases x <;> cases n <;> exact .pure_ rfl
  | .text y, _, n, s, x, _ => by cases x; cases n <;> exact .pure_ rfl
  | .tup ks, _, n, s, x, h => by
    cases x with
    | tup g1 g2 g3 g4 =>
      simp only [NestedKey.depth] at h
      cases n with
      | zero => omega
      | succ n => exact .tup g1 g2 g3 (noCls_keys ks _ n s g4 (by omega))
theorem noCls_keys : ∀ (ks : List NestedKey) (vs : List Value) (n : Nat) (s : Shared), NestedAll s.heap ks vs → NestedKey.depthAll ks ≤ n → ∀ v ∈ vs, NoClsAt P w n s v
  | [], _, _, _, x, _, v, hv => by cases x; cases hv
  | k :: ks, _, n, s, x, h, v, hv => by
    cases x with
    | cons x1 x2 =>
      simp only [NestedKey.depthAll] at h
      rcases List.mem_cons.mp hv with e | hv
      · rw [e]; exact noCls_key k _ n s x1 (by omega)
      · exact noCls_keys ks _ n s x2 (by omega) v hv
end
/-- a key: what it is in the heap, and so deep at most -/
def KyAt (h : Heap) (k : NestedKey) (v : Value) : Prop := NestedIs h k v ∧ k.depth ≤ 8
theorem KyAt.keep {h h' : Heap} {k : NestedKey} {v : Value} (x : KyAt h k v) (kp : ∀ b o, h.get? b = some o → h'.get? b = some o) : KyAt h' k v := ⟨x.1.at (fun b o _ _ e _ => kp b o e) _ _, x.2⟩
/-- a change at a set leaves it -/
theorem KyAt.but {h h' : Heap} {k : NestedKey} {v : Value} {a : Addr} {o : Obj} {es : Array (Int × Value)} {ep : Nat} {t : SetTable} (x : KyAt h k v) (ho : h.get? a = some o) (hd : o.data = .set es ep t) (sb : Heap.SameBut a h h') : KyAt h' k v :=
  ⟨x.1.at (fun b u vs n e c => (sb.2 b fun z => by
    subst z
    rw [ho] at e
    cases e
    rw [hd] at c
    cases c).trans e) _ _, x.2⟩
/-- a search among keys shows nothing -/
theorem seen_key {A : Around} {s : Shared} {k : NestedKey} {x : Addr} {Q : Bool → Shared → Prop} (hk : KyAt s.heap k (.ref x)) {ys : List Value} (hy : ∀ y ∈ ys, ∃ k' c, y = Value.ref c ∧ KyAt s.heap k' y) (h : Q false s) :
    wpAny (model P w) A (searchCouldBeSeen (.ref x) ys) Q E s := by
  unfold searchCouldBeSeen
  refine wpAny_bind (wpAny_forIn_list _ (fun rest r z => r.1 = none ∧ z = s ∧ ∀ y ∈ rest, ∃ k' c, y = Value.ref c ∧ KyAt s.heap k' y) _ (fun y rest r z ⟨e1, e2, all⟩ => ?_) (fun r z ⟨e1, e2, _⟩ => ?_) _ _ ⟨rfl, rfl, hy⟩)
  · subst e2
    obtain ⟨k', c, e3, hc⟩ := all y List.mem_cons_self
    subst e3
    have tl := fun u hu => all u (List.mem_cons_of_mem _ hu)
    dsimp only
    by_cases hv : (x == c || (carriedByValue (.ref x) && carriedByValue (.ref c))) = true
    · exact wp_if_pos hv (wpAny_pure ⟨rfl, rfl, tl⟩)
    · refine wp_if_neg hv (wpAny_bind (quiet_key k _ 8 _ hk.1 hk.2 _ _ _ ?_))
      simp only [Bool.not_true, Bool.false_eq_true, if_false]
      refine wpAny_bind (quiet_key k' _ 8 _ hc.1 hc.2 _ _ _ ?_)
      simp only [Bool.not_true, Bool.false_eq_true, if_false]
      refine wpAny_bind (noCls_key k _ 8 _ hk.1 hk.2 _ _ _ ?_)
      simp only [Bool.false_eq_true, if_false]
      refine wpAny_bind (noCls_key k' _ 8 _ hc.1 hc.2 _ _ _ ?_)
      simp only [Bool.false_eq_true, if_false]
      exact wpAny_pure ⟨rfl, rfl, tl⟩
  · obtain ⟨r1, r2⟩ := r
    cases e1
    subst e2
    exact wpAny_pure h
end
end G

/-! sets of nested keys: adding one -/
namespace G
open PySem PySem.Spec L2
abbrev Pr := Value × NestedKey
def hsh (w : World) (p : Pr) : Int := p.2.hash w
def rws (w : World) (l : List Pr) : List (Int × Value) := l.map fun p => (hsh w p, p.1)
/-- all refs, or all found by a scan -/
def allRef (l : List Pr) : Prop := ∀ p ∈ l, ∃ c, p.1 = Value.ref c
def allScan (l : List Pr) : Prop := ∀ p ∈ l, p.1.scannable = true
/-- the set at a holds l, in the order of its table -/
structure Hd (w : World) (h : Heap) (a : Addr) (l : List Pr) (es : Array (Int × Value)) (ep : Nat) (t : SetTable) : Prop where
  ob : ∃ o, h.get? a = some o ∧ o.ExactSet ∧ o.data = .set es ep t
  rw_ : es.toList = rws w l
  nd : (l.map (·.2)).Nodup
  ky : ∀ p ∈ l, KyAt h p.2 p.1
  ris : Ris t.place.toList
  led : w.params.followText "set-order" = true ∨ t.led = true
  fit : t.fits es.size = true
  few : l.length < 1000
/-- how many a set may have -/
def cap (m : Bool) : Nat := if m then 64 else 1000
/-- and its table is as the model lays it -/
structure Tb (w : World) (l : List Pr) (t : SetTable) : Prop where
  tab : TabOk t (l.map (hsh w))
  room : l.length * 5 < t.mask * 3
theorem rws_len {w : World} {l : List Pr} {es : Array (Int × Value)} (h : es.toList = rws w l) : es.size = l.length := by
  have := congrArg List.length h
  simpa [rws] using this
theorem rws_at {w : World} {l : List Pr} {es : Array (Int × Value)} (h : es.toList = rws w l) {i : Nat} {p : Pr} (e : l[i]? = some p) : es[i]? = some (hsh w p, p.1) := by
  rw [← Array.getElem?_toList, h, rws, List.getElem?_map, e]; rfl
theorem Tb.fits {w : World} {l : List Pr} {t : SetTable} (T : Tb w l t) {n : Nat} (hn : n = l.length) : t.fits n = true := by
  have h1 := T.tab.sz
  have h3 := T.room
  rw [List.length_map] at h1
  unfold SetTable.fits SetTable.fill
  rw [T.tab.dm, Bool.and_eq_true, beq_iff_eq, decide_eq_true_eq]
  show t.place.size = n ∧ t.place.size + 0 ≤ t.mask
  omega
theorem odd_gave {t : SetTable} (m : MaskOk t.mask) : ¬ t.gaveWay = true := by
  unfold SetTable.gaveWay
  rw [mask_odd m]
  decide
abbrev wy (t : SetTable) (h : Int) : Nat → SetTable.Probe := nth t.mask (runAt t.mask (SetTable.bits h % (t.mask + 1)) (SetTable.bits h))
section
variable {P : Program} {w : World} {A : Around} {E : Value → Shared → Prop} {s : Shared} {a : Addr} {l : List Pr} {es : Array (Int × Value)} {ep : Nat} {t : SetTable}
theorem dummy_none (m : Nat) : ∀ (n : Nat) (p : SetTable.Probe), p.dummy = none → (nth m p n).dummy = none
  | 0, _, h => h
  | n + 1, p, h => dummy_none m n (adv m p) (by unfold adv; split <;> exact h)
/-- the search, from its c-th step on -/
theorem look_from (Z : Hd w s.heap a l es ep t) (T : Tb w l t) (hr : allRef l) {x : Addr} {k : NestedKey} (hx : KyAt s.heap k (.ref x)) (hu : A.units + 8 < cLine) {K : Nat} (hKf : K < 10 * SetTable.turns t.mask)
    (hK : way t.mask (k.hash w) K ∉ t.place.toList) (hKb : ∀ c, c < K → way t.mask (k.hash w) c ∈ t.place.toList) {Q : SetFound → Shared → Prop}
    (hin : k ∈ l.map (·.2) → Q (.there none) s) (hout : k ∉ l.map (·.2) → Q (.free (way t.mask (k.hash w) K) false) s) :
    ∀ (f c : Nat) (stand : Option SetTable.Probe), stand.getD (t.probeStart (k.hash w)) = wy t (k.hash w) c → c ≤ K → K - c < f →
      (∀ (i : Nat) p, l[i]? = some p → p.2 = k → ∃ c', c ≤ c' ∧ c' < K ∧ t.place.toList[i]? = some (way t.mask (k.hash w) c')) →
      wpAny (model P w) A (setSearchFrom a (.ref x) (k.hash w) true f stand) Q E s
  | 0, c, stand, _, _, hf, _ => absurd hf (Nat.not_lt_zero _)
  | f + 1, c, stand, hst, hc, hf, hre => by
    obtain ⟨o, z1, z2, z3⟩ := Z.ob
    rw [setSearchFrom_succ]
    refine wpAny_bind (wpAny_setState_of z1 z3 Z.fit ?_)
    dsimp only
    refine wp_if_neg (odd_gave T.tab.mok) ?_
    try refine wpAny_bind (wpAny_pure ?_)
    have dn := dummy_none t.mask c (runAt t.mask (SetTable.bits (k.hash w) % (t.mask + 1)) (SetTable.bits (k.hash w))) rfl
    have sh : ∀ q, nth t.mask (wy t (k.hash w) c) q = wy t (k.hash w) (c + q) := fun q => (nth_add t.mask c _ q).symm
    have wj : ∀ q, (nth t.mask (wy t (k.hash w) c) q).j = way t.mask (k.hash w) (c + q) := fun q => congrArg SetTable.Probe.j (sh q)
    have back : c + (K - c) = K := by omega
    have hA : ∀ (i : Nat) p, l[i]? = some p → ((es[i]?.map (·.1)).getD 0) = hsh w p := fun i p hp => by rw [rws_at Z.rw_ hp]; rfl
    rcases go_spec t T.tab.ris T.tab.dm (fun i => (es[i]?.map (·.1)).getD 0) (k.hash w) (10 * SetTable.turns t.mask) (K - c) _ dn (by omega) (fun q hq => by rw [wj]; exact hKb (c + q) (by omega)) (by rw [wj, back]; exact hK) with ⟨q, i, hq, hi, hh, hno, hpr⟩ | ⟨hno, hpr⟩
    · have met : t.probe (fun i => (es[i]?.map (·.1)).getD 0) (k.hash w) (stand.getD (t.probeStart (k.hash w))) = some (.candidate (way t.mask (k.hash w) (c + q)) i (wy t (k.hash w) (c + (q + 1)))) := by
        rw [hst, ← wj, ← sh]; exact hpr
      rw [met]
      dsimp only
      rw [wj] at hi
      have il : i < l.length := by
        have h1 : i < t.place.toList.length := (List.getElem?_eq_some_iff.mp hi).1
        have h2 := T.tab.sz
        rw [List.length_map] at h2
        rw [Array.length_toList] at h1
        omega
      obtain ⟨p, hp⟩ : ∃ p, l[i]? = some p := ⟨_, List.getElem?_eq_getElem il⟩
      have pm : p ∈ l := List.mem_of_getElem? hp
      have pk := Z.ky p pm
      obtain ⟨cp, ep_⟩ := hr p pm
      have rest : wpAny (model P w) A (searchRest a (.ref x) (k.hash w) true f es t (way t.mask (k.hash w) (c + q)) i (wy t (k.hash w) (c + (q + 1)))) Q E s := by
        unfold searchRest
        rw [rws_at Z.rw_ hp]
        dsimp only
        refine wpAny_bind (wpAny_holding (eqAt_key p.2 k A s p.1 (.ref x) pk.1 hx.1 (by have := pk.2; omega) P w _ _ (wpAny_bind (wpAny_setState_of z1 z3 Z.fit ?_))))
        dsimp only
        by_cases kk : p.2 = k
        · refine wp_if_pos (by rw [← NestedKey.decide_eq]; simp [kk]) (wpAny_pure (hin ?_))
          exact List.mem_map.mpr ⟨p, pm, kk⟩
        · have nk : NestedKey.beq p.2 k = false := by rw [← NestedKey.decide_eq]; exact decide_eq_false kk
          refine wp_if_neg (by simp [nk]) ?_
          try refine wpAny_bind (wpAny_pure ?_)
          rw [sameMem]
          dsimp only
          have sl : t.slot (way t.mask (k.hash w) (c + q)) = .live i := slot_live T.tab.ris hi
          simp only [if_true, sl, rws_at Z.rw_ hp]
          rw [ep_]
          refine wpAny_bind (wpAny_isSame_ref_self (wpAny_bind (wpAny_pure ?_)))
          simp only [if_true]
          refine wp_if_neg (by simp [nk]) ?_
          refine look_from Z T hr hx hu hKf hK hKb hin hout f (c + (q + 1)) _ rfl (by omega) (by omega) fun i0 p0 h0 e0 => ?_
          obtain ⟨c', b1, b2, b3⟩ := hre i0 p0 h0 e0
          refine ⟨c', ?_, b2, b3⟩
          rcases Nat.lt_trichotomy c' (c + q) with y | y | y
          · exact absurd ((hA i0 p0 h0).trans (by unfold hsh; rw [e0])) (hno (c' - c) i0 (by omega) (by rw [wj, show c + (c' - c) = c' by omega]; exact b3))
          · exfalso
            rw [y] at b3
            have s0 := slot_live T.tab.ris b3
            rw [sl] at s0
            injection s0 with s0
            rw [← s0, hp] at h0
            cases h0
            exact kk e0
          · omega
      by_cases ld : t.led = true
      · refine wp_if_neg (by simp [ld]) ?_
        try refine wpAny_bind (wpAny_pure ?_)
        exact rest
      · refine wp_if_pos (by simp [ld]) (wpAny_bind (seen_key hx (fun y hy => ?_) ?_))
        · obtain ⟨e, he, ee⟩ := List.mem_map.mp hy
          have he1 : e ∈ es.toList := by
            have : e ∈ es ∧ e.1 = k.hash w := by simpa using he
            simpa using this.1
          rw [Z.rw_] at he1
          obtain ⟨p2, hp2, e2⟩ := List.mem_map.mp he1
          obtain ⟨c2, e3⟩ := hr p2 hp2
          refine ⟨p2.2, c2, ?_, ?_⟩
          · rw [← ee, ← e2]; exact e3
          · rw [← ee, ← e2]; exact Z.ky p2 hp2
        · refine wp_if_neg (by decide) ?_
          try refine wpAny_bind (wpAny_pure ?_)
          exact rest
    · have met : t.probe (fun i => (es[i]?.map (·.1)).getD 0) (k.hash w) (stand.getD (t.probeStart (k.hash w))) = some (.empty (way t.mask (k.hash w) K) none) := by
        have e2 : way t.mask (k.hash w) K = (nth t.mask (wy t (k.hash w) c) (K - c)).j := by rw [wj, back]
        rw [hst, e2]; exact hpr
      rw [met]
      dsimp only
      refine wpAny_pure (hout fun hm => ?_)
      obtain ⟨p0, h0, e0⟩ := List.mem_map.mp hm
      obtain ⟨i0, hi0⟩ := List.mem_iff_getElem?.mp h0
      obtain ⟨c', b1, b2, b3⟩ := hre i0 p0 hi0 e0
      exact hno (c' - c) i0 (by omega) (by rw [wj, show c + (c' - c) = c' by omega]; exact b3) ((hA i0 p0 hi0).trans (by unfold hsh; rw [e0]))
theorem look_at (Z : Hd w s.heap a l es ep t) (T : Tb w l t) (hr : allRef l) {x : Addr} {k : NestedKey} (hx : KyAt s.heap k (.ref x)) (hu : A.units + 8 < cLine) {Q : SetFound → Shared → Prop}
    (hin : k ∈ l.map (·.2) → Q (.there none) s)
    (hout : ∀ K, k ∉ l.map (·.2) → way t.mask (k.hash w) K ∉ t.place.toList → (∀ c, c < K → way t.mask (k.hash w) c ∈ t.place.toList) → Q (.free (way t.mask (k.hash w) K) false) s) :
    wpAny (model P w) A (setSearch a (.ref x) (k.hash w) true) Q E s := by
  have rm := T.room
  obtain ⟨K, b1, b2, b3⟩ := T.tab.first (by rw [List.length_map]; omega) (k.hash w)
  have big : K < 100000 := by
    have : 10 * SetTable.turns t.mask ≤ 1420 := by
      unfold SetTable.turns
      rcases T.tab.mok with e | e | e <;> omega
    omega
  unfold setSearch
  refine look_from Z T hr hx hu b1 b2 b3 hin (fun n => hout K n b2 b3) 100000 0 none rfl (Nat.zero_le _) (by omega) fun i p hp hk => ?_
  have hi : (l.map (hsh w))[i]? = some (k.hash w) := by rw [List.getElem?_map, hp, ← hk]; rfl
  have il : i < t.place.toList.length := by
    have h1 : i < l.length := (List.getElem?_eq_some_iff.mp hp).1
    have h2 := T.tab.sz
    rw [List.length_map] at h2
    rw [Array.length_toList]
    omega
  have hj := List.getElem?_eq_getElem il
  obtain ⟨c, hc, e⟩ := T.tab.before b2 hi hj
  exact ⟨c, Nat.zero_le _, hc, by rw [hj, e]⟩
end
end G

/-! sets of nested keys: putting one in -/
namespace G
open PySem PySem.Spec L2
theorem range_pick {α : Type} (l : List α) : (List.range l.length).filterMap (fun i => l[i]?) = l := by
  have key : ∀ n, n ≤ l.length → (List.range n).filterMap (fun i => l[i]?) = l.take n := by
    intro n
    induction n with
    | zero => intro _; rfl
    | succ n ih =>
      intro h
      have e : l[n]? = some l[n] := List.getElem?_eq_getElem h
      rw [List.range_succ, List.filterMap_append, ih (by omega), List.take_add_one, e]
      simp [e]
  rw [key _ (Nat.le_refl _), List.take_length]
theorem rws_order {w : World} {l : List Pr} {es : Array (Int × Value)} (h : es.toList = rws w l) (order : Array Nat) (hp : order.toList.Perm (List.range l.length)) :
    ∃ l2, (order.filterMap (es[·]?)).toList = rws w l2 ∧ l2.Perm l ∧ l2.map (hsh w) = order.toList.map fun i => (es.map (·.1)).getD i 0 := by
  refine ⟨order.toList.filterMap (fun i => l[i]?), ?_, ?_, ?_⟩
  · rw [Array.toList_filterMap, rws, List.map_filterMap]
    congr 1
    funext i
    rw [← Array.getElem?_toList, h, rws, List.getElem?_map]
  · exact (hp.filterMap _).trans (by rw [range_pick])
  · have : ∀ q : List Nat, (∀ i ∈ q, i < l.length) → (q.filterMap fun i => l[i]?).map (hsh w) = q.map fun i => (es.map (·.1)).getD i 0 := by
      intro q
      induction q with
      | nil => intro _; rfl
      | cons i q ih =>
        intro hq
        have hi := hq i List.mem_cons_self
        have e : l[i]? = some l[i] := List.getElem?_eq_getElem hi
        have e2 : (es.map (·.1)).getD i 0 = hsh w l[i] := by
          have e3 : (es.map (·.1))[i]? = some (hsh w l[i]) := by rw [Array.getElem?_map, rws_at h e]; rfl
          simp [Array.getD_eq_getD_getElem?, e3]
        rw [List.filterMap_cons_some e, List.map_cons, List.map_cons, ih fun j hj => hq j (List.mem_cons_of_mem _ hj), e2]
    exact this _ fun i hi => List.mem_range.mp (hp.mem_iff.mp hi)
section
variable {P : Program} {w : World} {A : Around} {E : Value → Shared → Prop} {s : Shared} {a : Addr} {l : List Pr} {es : Array (Int × Value)} {ep : Nat} {t : SetTable}
/-- the table laid anew, larger -/
theorem relay_key {o : Obj} (z1 : s.heap.get? a = some o) (z2 : o.ExactSet) (z3 : o.data = .set es ep t) (hrw : es.toList = rws w l) (fit : t.fits es.size = true)
    (nd : (l.map (·.2)).Nodup) (ky : ∀ p ∈ l, KyAt s.heap p.2 p.1) (led : w.params.followText "set-order" = true ∨ t.led = true) (few : l.length < 1000) {wanted M : Nat}
    (hw : SetTable.sizeAbove wanted - 1 = M) (hM : MaskOk M) (hw2 : SetTable.sizeAbove wanted ≤ 128) (hn : l.length * 5 < M * 3) {Q : Unit → Shared → Prop}
    (hQ : ∀ h' l' es' ep' t', Heap.SameBut a s.heap h' → Hd w h' a l' es' ep' t' → Tb w l' t' → l'.Perm l → Q () { s with heap := h' }) : wpAny (model P w) A (setRelay a wanted) Q E s := by
  have sz := rws_len hrw
  obtain ⟨t', order, e, hp, T, em, el, epl, ed⟩ := relaid_ok t (hs := es.map (·.1)) (wanted := wanted) hw hM (by rw [Array.size_map, sz]; omega)
  rw [Array.size_map, sz] at hp
  obtain ⟨l2, r1, r2, r3⟩ := rws_order hrw order hp
  rw [← r3] at T
  have sz2 : (order.filterMap (es[·]?)).size = es.size := by rw [rws_len r1, r2.length_eq, sz]
  have T2 : Tb w l2 t' := ⟨T, by rw [r2.length_eq, em]; exact hn⟩
  rw [setRelay_eq]
  refine wpAny_bind (wpAny_setState_of z1 z3 fit ?_)
  dsimp only
  refine wp_if_neg (by rw [sizeLine_eq]; omega) ?_
  try refine wpAny_bind (wpAny_pure ?_)
  rw [e]
  dsimp only
  refine wpAny_bind (wp_if_neg (by rw [sz2]; simp) ?_)
  try refine wpAny_bind (wpAny_pure ?_)
  refine wpAny_pure ?_
  dsimp only
  refine wpAny_storeSet_of z1 z3 ?_ (by rw [sz2, sz, sizeLine_eq]; omega)
  have sb : Heap.SameBut a s.heap (s.heap.update a (Obj.putSet (order.filterMap (es[·]?)) t')) := Heap.SameBut.update ..
  refine hQ _ l2 (order.filterMap (es[·]?)) (ep + 1) t' sb ?_ T2 r2
  exact ⟨⟨_, store_at z1 z3, ⟨z2.1, z2.2.1, z2.2.2⟩, rfl⟩, r1, (r2.map (·.2)).nodup_iff.mpr nd, fun p hpm => (ky p (r2.mem_iff.mp hpm)).but z1 z3 sb, T.ris, by rw [el]; exact led, T2.fits (by rw [sz2, sz, r2.length_eq]), by rw [r2.length_eq]; exact few⟩
theorem ins_perm {α : Type} (l : List α) (p : Nat) (x : α) : (l.take p ++ x :: l.drop p).Perm (x :: l) := by
  have := List.perm_middle (a := x) (l₁ := l.take p) (l₂ := l.drop p)
  rwa [List.take_append_drop] at this
/-- one of tuples put in -/
theorem add_ref (Z : Hd w s.heap a l es ep t) (T : Tb w l t) (hr : allRef l) {x : Addr} {k : NestedKey} (hx : KyAt s.heap k (.ref x)) (hu : A.units + 8 < cLine) (few : l.length + 1 < 64) {Q : Bool → Shared → Prop}
    (hQ : ∀ b h' l' es' ep' t', Heap.SameBut a s.heap h' → Hd w h' a l' es' ep' t' → Tb w l' t' → ((k ∈ l.map (·.2) ∧ l' = l) ∨ (k ∉ l.map (·.2) ∧ l'.Perm ((Value.ref x, k) :: l))) → Q b { s with heap := h' }) :
    wpAny (model P w) A (setAddHashed a (.ref x) (k.hash w)) Q E s := by
  obtain ⟨o, z1, z2, z3⟩ := Z.ob
  have sz := rws_len Z.rw_
  have rm := T.room
  unfold setAddHashed
  refine wpAny_holding ?_
  rw [show (100000 : Nat) = 99999 + 1 from rfl, setAddHashedIn_succ]
  refine wpAny_bind (wpAny_setState_of z1 z3 Z.fit ?_)
  dsimp only
  refine wp_if_neg (by simp [byScan, Value.scannable]) ?_
  try refine wpAny_bind (wpAny_pure ?_)
  refine wpAny_bind (look_at Z T hr hx hu (fun hm => ?_) fun K hm b2 b3 => ?_)
  · dsimp only
    exact wpAny_pure (hQ false s.heap l es ep t (Heap.SameBut.refl a s.heap) Z T (.inl ⟨hm, rfl⟩))
  · dsimp only
    refine wpAny_bind (wpAny_setState_of z1 z3 Z.fit ?_)
    dsimp only
    obtain ⟨q1, q2, q3, q4, q5, q6, q7, q8, q9⟩ := T.tab.put b2 b3
    generalize hpt : t.put (way t.mask (k.hash w) K) = pt at q1 q3 q4 q5 q6 q7 q8 q9 ⊢
    obtain ⟨t1, p⟩ := pt
    dsimp only at q1 q3 q4 q5 q6 q7 q8 q9 ⊢
    subst q1
    generalize hpp : SetTable.below t.place (way t.mask (k.hash w) K) = p at q2 q3 ⊢
    have pm := ins_perm l p (Value.ref x, k)
    have len := pm.length_eq
    rw [List.length_cons] at len
    have hin : (SetTable.insertAt es p (k.hash w, Value.ref x)).toList = rws w (l.take p ++ (Value.ref x, k) :: l.drop p) := by
      rw [SetTable.toList_insertAt, Z.rw_]
      simp [rws, hsh, List.map_take, List.map_drop]
    have hh : (l.take p ++ (Value.ref x, k) :: l.drop p).map (hsh w) = (l.map (hsh w)).take p ++ k.hash w :: (l.map (hsh w)).drop p := by
      simp [hsh, List.map_take, List.map_drop]
    rw [← hh] at q3
    have nd1 : ((l.take p ++ (Value.ref x, k) :: l.drop p).map (·.2)).Nodup := (pm.map (·.2)).nodup_iff.mpr (List.nodup_cons.mpr ⟨hm, Z.nd⟩)
    have sz1 := rws_len hin
    rw [len] at sz1
    generalize SetTable.insertAt es p (k.hash w, Value.ref x) = es1 at hin sz1 ⊢
    generalize l.take p ++ (Value.ref x, k) :: l.drop p = l1 at pm len q3 nd1 hin
    -- behind the storing
    have go : ∀ t2 : SetTable, t2.mask = t1.mask → t2.place = t1.place → t2.dummies = t1.dummies → t2.led = t1.led → wpAny (model P w) A (do
        storeSet a es1 t2
        if (!false && t2.tooFull) = true then setRelay a (SetTable.grown (es.size + 1))
        return true) Q E s := fun t2 e1 e2 e3 e4 => by
      have tab2 : TabOk t2 (l1.map (hsh w)) := ⟨by rw [e2]; exact q3.ris, by rw [e3]; exact q3.dm, by rw [e2]; exact q3.sz, by rw [e1]; exact q3.mok, fun x hx => by rw [e2] at hx; rw [e1]; exact q3.bd x hx, fun i h j h1 h2 => by rw [e2] at h2 ⊢; rw [e1]; exact q3.reach i h j h1 h2⟩
      have fl : t2.fill = t1.fill := by unfold SetTable.fill; rw [e2, e3]
      have fit2 : t2.fits es1.size = true := by
        have h1 := tab2.sz
        rw [List.length_map, len] at h1
        unfold SetTable.fits SetTable.fill
        rw [tab2.dm, Bool.and_eq_true, beq_iff_eq, decide_eq_true_eq]
        refine ⟨by rw [h1, sz1], ?_⟩
        show t2.place.size + 0 ≤ t2.mask
        rw [e1, q4]
        rcases T.tab.mok with e | e | e <;> rw [e] at rm ⊢ <;> omega
      refine wpAny_bind (wpAny_storeSet_of z1 z3 ?_ (by rw [sz1, sizeLine_eq]; omega))
      have sb : Heap.SameBut a s.heap (s.heap.update a (Obj.putSet es1 t2)) := Heap.SameBut.update ..
      have z4 := store_at (es' := es1) (t' := t2) z1 z3
      generalize s.heap.update a (Obj.putSet es1 t2) = h1 at sb z4 ⊢
      have ky1 : ∀ p ∈ l1, KyAt h1 p.2 p.1 := fun p hp => by
        rcases List.mem_cons.mp (pm.mem_iff.mp hp) with e | hp
        · rw [e]; exact hx.but z1 z3 sb
        · exact (Z.ky p hp).but z1 z3 sb
      have ld2 : w.params.followText "set-order" = true ∨ t2.led = true := by rw [e4, q5]; exact Z.led
      by_cases hf : t2.tooFull = true
      · have full : (l.length + 1) * 5 ≥ t2.mask * 3 := by
          have h := hf
          unfold SetTable.tooFull at h
          rw [decide_eq_true_eq, fl, q9, List.length_map] at h
          exact h
        have two : (t.mask = 7 ∧ l.length = 4) ∨ (t.mask = 31 ∧ l.length = 18) := by
          rw [e1, q4] at full
          rcases T.tab.mok with e | e | e <;> rw [e] at full rm
          · exact .inl ⟨e, by omega⟩
          · exact .inr ⟨e, by omega⟩
          · omega
        have on : ∀ M, SetTable.sizeAbove (SetTable.grown (l.length + 1)) - 1 = M → MaskOk M → SetTable.sizeAbove (SetTable.grown (l.length + 1)) ≤ 128 → (l.length + 1) * 5 < M * 3 →
            wpAny (model P w) A (setRelay a (SetTable.grown (l.length + 1))) (fun _ s' => wpAny (model P w) A (pure true) Q E s') E { s with heap := h1 } := fun M m1 m2 m3 m4 => by
          refine relay_key (s := { s with heap := h1 }) z4 ⟨z2.1, z2.2.1, z2.2.2⟩ rfl hin fit2 nd1 ky1 ld2 (by rw [len]; omega) m1 m2 m3 (by rw [len]; exact m4) fun h2 l2 es2 ep2 t3 sb2 Z2 T2 pm2 => ?_
          exact wpAny_pure (hQ true h2 l2 es2 ep2 t3 (sb.trans sb2) Z2 T2 (.inr ⟨hm, pm2.trans pm⟩))
        rw [sz]
        first
          | (refine wpAny_bind ?_; refine wp_if_pos (by simp [hf]) ?_)
          | (refine wp_if_pos (by simp [hf]) ?_; refine wpAny_bind ?_)
        rcases two with ⟨_, e⟩ | ⟨_, e⟩
        · exact on 31 (by rw [e, size_20]) (.inr (.inl rfl)) (by rw [e, size_20]; decide) (by omega)
        · exact on 127 (by rw [e, size_76]) (.inr (.inr rfl)) (by rw [e, size_76]; decide) (by omega)
      · have rm2 : l1.length * 5 < t2.mask * 3 := by
          have h := hf
          unfold SetTable.tooFull at h
          rw [decide_eq_true_eq, fl, q9, List.length_map] at h
          rw [len]
          omega
        have fin : Q true { s with heap := h1 } := hQ true h1 l1 es1 (ep + 1) t2 sb ⟨⟨_, z4, ⟨z2.1, z2.2.1, z2.2.2⟩, rfl⟩, hin, nd1, ky1, tab2.ris, ld2, fit2, by rw [len]; omega⟩ ⟨tab2, rm2⟩ (.inr ⟨hm, pm⟩)
        first
          | (refine wp_if_neg (by simp [hf]) ?_; exact wpAny_pure fin)
          | (refine wpAny_bind ?_; refine wp_if_neg (by simp [hf]) ?_; exact wpAny_pure (wpAny_pure fin))
    by_cases hpl : t1.plain = true
    · have hb := hash_key (P := P) (w := w) k (.ref x) 8 s hx.1 hx.2
      first
        | (refine wpAny_bind ?_; refine wp_if_pos hpl ?_; refine hb _ _ _ fun b => ?_)
        | refine wp_if_pos hpl (wpAny_bind (hb _ _ _ fun b => ?_))
      cases b
      · exact go { t1 with plain := false } rfl rfl rfl rfl
      · exact go t1 rfl rfl rfl rfl
    · first
        | (refine wpAny_bind ?_; refine wp_if_neg hpl ?_; refine wpAny_pure ?_)
        | refine wp_if_neg hpl (wpAny_bind (wpAny_pure ?_))
      exact go t1 rfl rfl rfl rfl
end
end G

/-! sets of ints and texts: putting one in; set(..) of a list, of a tuple -/
namespace G
open PySem PySem.Spec L2
def ofKey : Key → NestedKey
  | .inl i => .num i
  | .inr x => .text x
theorem ofKey_hash (P : Program) (w : World) (k : Key) : (ofKey k).hash w = (mixKind P w).hash k := by
  cases k <;> rfl
theorem ofKey_inj {k k' : Key} (h : ofKey k = ofKey k') : k = k' := by
  cases k <;> cases k' <;> simp [ofKey] at h <;> rw [h]
/-- found by a scan -/
def Scn (P : Program) (w : World) (p : Pr) : Prop := ∃ k : Key, (mixKind P w).is k p.1 = true ∧ p.2 = ofKey k
theorem Scn.scan {P : Program} {w : World} {p : Pr} (h : Scn P w p) : p.1.scannable = true := by
  obtain ⟨k, h1, _⟩ := h
  rcases keyIs_shape h1 with ⟨i, t, _, e⟩ | ⟨x, t, _, e⟩ <;> rw [e] <;> rfl
section
variable {P : Program} {w : World} {A : Around} {E : Value → Shared → Prop} {s : Shared} {a : Addr} {l : List Pr} {es : Array (Int × Value)} {ep : Nat} {t : SetTable}
theorem elems_of (h : es.toList = rws w l) (hs : ∀ p ∈ l, Scn P w p) : ElemsOf (mixKind P w) es.toList := fun e he => by
  rw [h] at he
  obtain ⟨p, hp, rfl⟩ := List.mem_map.mp he
  obtain ⟨k, h1, h2⟩ := hs p hp
  exact ⟨⟨k, h1, by show p.2.hash w = _; rw [h2, ofKey_hash P]⟩, (hs p hp).scan⟩
/-- one int or text put in -/
theorem add_scan (Z : Hd w s.heap a l es ep t) (hs : ∀ p ∈ l, Scn P w p) {p : Pr} (hp : Scn P w p) (hk : KyAt s.heap p.2 p.1) (few : l.length + 1 < 1000) {Q : Bool → Shared → Prop}
    (hQ : ∀ b h' l' es' ep' t', Heap.SameBut a s.heap h' → Hd w h' a l' es' ep' t' → ((p.2 ∈ l.map (·.2) ∧ l' = l) ∨ (p.2 ∉ l.map (·.2) ∧ l'.Perm (p :: l))) → Q b { s with heap := h' }) :
    wpAny (model P w) A (setAddHashed a p.1 (p.2.hash w)) Q E s := by
  obtain ⟨o, z1, z2, z3⟩ := Z.ob
  have sz := rws_len Z.rw_
  have el := elems_of Z.rw_ hs
  obtain ⟨k, k1, k2⟩ := hp
  have sc : p.1.scannable = true := Scn.scan ⟨k, k1, k2⟩
  have lt : es.size < scanBound := by unfold scanBound; have := Z.few; omega
  have hh : p.2.hash w = (mixKind P w).hash k := by rw [k2, ofKey_hash P]
  unfold setAddHashed setAddHashedIn
  refine wpAny_holding (wpAny_bind (wpAny_setState_of z1 z3 Z.fit ?_))
  dsimp only
  rw [byScan_of sc lt el]
  simp only [↓reduceIte]
  unfold setAddByScan
  refine wpAny_bind (wpAny_bind (wpAny_rule ?_))
  rw [hh]
  refine wpAny_bind (wpAny_setScan_of (knd := mixKind P w) (k := k) k1 z1 z3 Z.fit el ?_)
  cases hfi : List.findIdx? (fun e => (mixKind P w).is k e.2) es.toList with
  | some j =>
    dsimp only
    obtain ⟨hj, pj, _⟩ := List.findIdx?_eq_some_iff_getElem.mp hfi
    have jl : j < l.length := by rw [Array.length_toList, sz] at hj; exact hj
    have e1 : es.toList[j] = (hsh w l[j], l[j].1) := by
      have := rws_at Z.rw_ (List.getElem?_eq_getElem jl)
      rw [← Array.getElem?_toList, List.getElem?_eq_getElem hj] at this
      exact Option.some.inj this
    rw [e1] at pj
    obtain ⟨k', h1, h2⟩ := hs l[j] (List.getElem_mem jl)
    have ek : k = k' := (mixKind P w).inj _ k k' pj h1
    exact wpAny_pure (wpAny_pure (hQ false s.heap l es ep t (Heap.SameBut.refl a s.heap) Z (.inl ⟨List.mem_map.mpr ⟨l[j], List.getElem_mem jl, by rw [h2, k2, ek]⟩, rfl⟩)))
  | none =>
    dsimp only
    have no : p.2 ∉ l.map (·.2) := fun hm => by
      obtain ⟨q, hq, eq⟩ := List.mem_map.mp hm
      obtain ⟨k', h1, h2⟩ := hs q hq
      have ek : k' = k := ofKey_inj (by rw [← h2, ← k2]; exact eq)
      subst ek
      have := List.findIdx?_eq_none_iff.mp hfi (hsh w q, q.1) (by rw [Z.rw_]; exact List.mem_map.mpr ⟨q, hq, rfl⟩)
      rw [h1] at this
      cases this
    have gv : ∀ (b : Bool) {s₁ : Shared} {Q' : Unit → Shared → Prop}, Q' () s₁ → wpAny (model P w) A (match b with | true => rule "set.scan.the-table-gave-way" | false => pure ()) Q' E s₁ :=
      fun b s₁ Q' q => by cases b <;> first | exact wpAny_pure q | exact wpAny_rule q
    have n1 := layNew_perm t es ((mixKind P w).hash k) p.1
    have n2 := layNew_fits t es ((mixKind P w).hash k) p.1
    have n3 := layNew_ris t es ((mixKind P w).hash k) p.1 Z.ris
    have n4 := layNew_led t es ((mixKind P w).hash k) p.1
    generalize layNew t es ((mixKind P w).hash k) p.1 = N at n1 n2 n3 n4 ⊢
    obtain ⟨es1, t1, wd, gave⟩ := N
    dsimp only at n1 n2 n3 n4 ⊢
    -- what the new rows are, in their order
    have rows : ∀ es2 : Array (Int × Value), es2.toList.Perm es1.toList → ∃ l2, es2.toList = rws w l2 ∧ l2.Perm (p :: l) := fun es2 pm => by
      have pm2 : es2.toList.Perm (rws w (p :: l)) := by
        refine pm.trans (n1.trans ?_)
        rw [Array.toList_push, Z.rw_]
        refine (List.perm_append_singleton _ _).trans ?_
        show List.Perm _ ((hsh w p, p.1) :: rws w l)
        rw [show hsh w p = (mixKind P w).hash k from hh]
      obtain ⟨l2, e1, e2⟩ : ∃ l2, es2.toList = rws w l2 ∧ l2.Perm (p :: l) := by
        clear n1
        generalize es2.toList = q at pm2
        generalize p :: l = m at pm2
        clear pm
        generalize hr : rws w m = r at pm2
        induction pm2 generalizing m with
        | nil =>
          cases m with
          | nil => exact ⟨[], rfl, List.Perm.refl _⟩
          | cons _ _ => cases hr
        | cons x _ ih =>
          cases m with
          | nil => cases hr
          | cons y m =>
            have h1 : (hsh w y, y.1) = x := (List.cons.inj hr).1
            obtain ⟨l2, e1, e2⟩ := ih m (List.cons.inj hr).2
            exact ⟨y :: l2, by rw [e1, ← h1]; rfl, e2.cons y⟩
        | swap x y q =>
          match m, hr with
          | [], hr => cases hr
          | [_], hr => cases hr
          | u :: v :: m, hr =>
            simp only [rws, List.map_cons, List.cons.injEq] at hr
            exact ⟨v :: u :: m, by simp only [rws, List.map_cons]; rw [hr.1, hr.2.1, hr.2.2], List.Perm.swap _ _ _⟩
        | trans _ _ ih1 ih2 =>
          obtain ⟨l2, e1, e2⟩ := ih2 m hr
          obtain ⟨l3, e3, e4⟩ := ih1 l2 e1.symm
          exact ⟨l3, e3, e4.trans e2⟩
      exact ⟨l2, e1, e2⟩
    have ld : w.params.followText "set-order" = true ∨ t1.led = true := Z.led.imp id fun z => by rw [n4]; exact z
    have fin : ∀ h' (o' : Obj) es2 t2 ep2, Heap.SameBut a s.heap h' → h'.get? a = some o' → o'.ExactSet → o'.data = .set es2 ep2 t2 → es2.toList.Perm es1.toList → Ris t2.place.toList → (w.params.followText "set-order" = true ∨ t2.led = true) → t2.fits es2.size = true → Q true { s with heap := h' } := fun h' o' es2 t2 ep2 sb y1 y2 y3 pm r2 d2 f2 => by
      obtain ⟨l2, e1, e2⟩ := rows es2 pm
      refine hQ true h' l2 es2 ep2 t2 sb ⟨⟨o', y1, y2, y3⟩, e1, (e2.map (·.2)).nodup_iff.mpr (List.nodup_cons.mpr ⟨no, Z.nd⟩), fun q hq => ?_, r2, d2, f2, by rw [e2.length_eq, List.length_cons]; exact few⟩ (.inr ⟨no, e2⟩)
      rcases List.mem_cons.mp (e2.mem_iff.mp hq) with e | hq
      · rw [e]; exact hk.but z1 z3 sb
      · exact (Z.ky q hq).but z1 z3 sb
    have b1 : es1.size < scanBound := by
      have := n1.length_eq
      rw [Array.length_toList, Array.length_toList, Array.size_push] at this
      unfold scanBound
      have := Z.few
      omega
    have tail : ∀ t2 : SetTable, t2.place = t1.place → t2.led = t1.led → t2.fits es1.size = true → ∀ g : Bool → Sem Unit, (∀ (b : Bool) (s₁ : Shared) (Q' : Unit → Shared → Prop), Q' () s₁ → wpAny (model P w) A (g b) Q' E s₁) → ∀ R : Option Bool → Shared → Prop, (∀ s', Q true s' → R (some true) s') →
        wpAny (model P w) A (do
          storeSet a es1 t2
          if (!wd && t2.tooFull) = true then do
              g (relayAll t2 es1 (SetTable.grown es1.size)).2.2
              storeSet a (relayAll t2 es1 (SetTable.grown es1.size)).1 (relayAll t2 es1 (SetTable.grown es1.size)).2.1
              pure (some true)
            else pure (some true)) R E s := fun t2 y1 y2 y3 g hg R hR => by
      refine wpAny_bind (wpAny_storeSet_of z1 z3 ?_ (fits_of_scanBound b1))
      have z4 := store_at (es' := es1) (t' := t2) z1 z3
      have sb := Heap.SameBut.update s.heap a (Obj.putSet es1 t2)
      split
      · have m1 := relayAll_perm t2 es1 (SetTable.grown es1.size)
        have m2 := relayAll_fits t2 es1 (SetTable.grown es1.size)
        have m3 := relayAll_ris t2 es1 (SetTable.grown es1.size)
        have m4 := relayAll_led t2 es1 (SetTable.grown es1.size)
        generalize relayAll t2 es1 (SetTable.grown es1.size) = M at m1 m2 m3 m4 ⊢
        obtain ⟨es2, t3, gv2⟩ := M
        dsimp only at m1 m2 m3 m4 ⊢
        have b2 : es2.size < scanBound := by rw [← Array.length_toList, m1.length_eq, Array.length_toList]; exact b1
        refine wpAny_bind (hg _ _ _ (wpAny_bind (wpAny_storeSet_of z4 rfl ?_ (fits_of_scanBound b2))))
        have z5 := store_at (es' := es2) (t' := t3) z4 rfl
        exact wpAny_pure (hR _ (fin _ _ es2 t3 _ (sb.trans (Heap.SameBut.update _ a _)) z5 ⟨z2.1, z2.2.1, z2.2.2⟩ rfl m1 m3 (ld.imp id fun z => by rw [m4, y2]; exact z) m2))
      · exact wpAny_pure (hR _ (fin _ _ es1 t2 _ sb z4 ⟨z2.1, z2.2.1, z2.2.2⟩ rfl (List.Perm.refl _) (by rw [y1]; exact n3) (ld.imp id fun z => by rw [y2]; exact z) y3))
    refine wpAny_bind (gv _ ?_)
    have gq : ∀ (b : Bool) (s₁ : Shared) (Q' : Unit → Shared → Prop), Q' () s₁ → wpAny (model P w) A (match b with | true => rule "set.scan.the-table-gave-way" | false => pure ()) Q' E s₁ := fun b s₁ Q' q => gv b q
    split
    · refine wpAny_bind ?_
      rw [hashByValue_scannable 8 sc]
      refine wpAny_pure ?_
      cases plainKind p.1
      · simp only [Bool.false_eq_true, if_false]
        exact tail { t1 with plain := false } rfl rfl (SetTable.fits_plain_off n2) _ gq _ fun s' q => wpAny_pure q
      · simp only [if_true]
        exact tail t1 rfl rfl n2 _ gq _ fun s' q => wpAny_pure q
    · refine wpAny_bind (wpAny_pure ?_)
      simp only [↓reduceIte]
      exact tail t1 rfl rfl n2 _ gq _ fun s' q => wpAny_pure q
end
end G

/-! set(..) of a list, of a tuple -/
namespace G
open PySem PySem.Spec L2 PyProof.Rows
/-- the set, its items of one manner: m: all by address -/
structure Bo (P : Program) (w : World) (m : Bool) (h : Heap) (a : Addr) (l : List Pr) : Prop where
  ex : ∃ es ep t, Hd w h a l es ep t ∧ (m = true → Tb w l t ∧ allRef l)
  sc : m = false → ∀ p ∈ l, Scn P w p
/-- an item of that manner -/
structure Itm (P : Program) (w : World) (m : Bool) (h : Heap) (p : Pr) : Prop where
  ky : KyAt h p.2 p.1
  rf : m = true → ∃ c, p.1 = Value.ref c
  sc : m = false → Scn P w p
theorem Itm.keep {P : Program} {w : World} {m : Bool} {h h' : Heap} {p : Pr} (x : Itm P w m h p) (k : ∀ b o, h.get? b = some o → h'.get? b = some o) : Itm P w m h' p := ⟨x.ky.keep k, x.rf, x.sc⟩
/-- what the set has of the first i -/
structure Hs (ks : List Pr) (i : Nat) (l : List Pr) : Prop where
  sub : ∀ p ∈ l, p ∈ ks.take i
  all : ∀ p ∈ ks.take i, p.2 ∈ l.map (·.2)
  len : l.length ≤ i
theorem Hs.zero (ks : List Pr) : Hs ks 0 [] := ⟨fun _ h => (nomatch h), fun p h => by simp at h, Nat.le_refl _⟩
theorem Hs.next {ks l l' : List Pr} {i : Nat} {p : Pr} (g : Hs ks i l) (e : ks[i]? = some p) (c : (p.2 ∈ l.map (·.2) ∧ l' = l) ∨ (p.2 ∉ l.map (·.2) ∧ l'.Perm (p :: l))) : Hs ks (i + 1) l' := by
  have et : ks.take (i + 1) = ks.take i ++ [p] := by rw [List.take_add_one, e]; rfl
  rcases c with ⟨hm, rfl⟩ | ⟨_, pm⟩
  · refine ⟨fun q hq => by rw [et]; exact List.mem_append_left _ (g.sub q hq), fun q hq => ?_, Nat.le_succ_of_le g.len⟩
    rw [et] at hq
    rcases List.mem_append.mp hq with z | z
    · exact g.all q z
    · rw [List.mem_singleton.mp z]; exact hm
  · refine ⟨fun q hq => ?_, fun q hq => ?_, ?_⟩
    · rw [et]
      rcases List.mem_cons.mp (pm.mem_iff.mp hq) with z | z
      · rw [z]; simp
      · exact List.mem_append_left _ (g.sub q z)
    · rw [(pm.map (·.2)).mem_iff, List.map_cons]
      rw [et] at hq
      rcases List.mem_append.mp hq with z | z
      · exact List.mem_cons_of_mem _ (g.all q z)
      · rw [List.mem_singleton.mp z]; exact List.mem_cons_self
    · rw [pm.length_eq, List.length_cons]; exact Nat.succ_le_succ g.len
section
variable {P : Program} {w : World} {A : Around} {E : Value → Shared → Prop} {s : Shared}
theorem Bo.keep {m : Bool} {h h' : Heap} {a : Addr} {l : List Pr} (B : Bo P w m h a l) (ka : ∀ o, h.get? a = some o → h'.get? a = some o) (kk : ∀ p ∈ l, KyAt h' p.2 p.1) : Bo P w m h' a l := by
  obtain ⟨es, ep, t, Z, T⟩ := B.ex
  obtain ⟨o, z1, z⟩ := Z.ob
  exact ⟨⟨es, ep, t, ⟨⟨o, ka o z1, z⟩, Z.rw_, Z.nd, kk, Z.ris, Z.led, Z.fit, Z.few⟩, T⟩, B.sc⟩
theorem Bo.nd {m : Bool} {h : Heap} {a : Addr} {l : List Pr} (B : Bo P w m h a l) : (l.map (·.2)).Nodup := by
  obtain ⟨_, _, _, Z, _⟩ := B.ex
  exact Z.nd
/-- one put in -/
theorem add_one {m : Bool} {a : Addr} {l : List Pr} (B : Bo P w m s.heap a l) {p : Pr} (hp : Itm P w m s.heap p) (hu : A.units + 16 < cLine) (few : l.length + 1 < cap m) {Q : Bool → Shared → Prop}
    (hQ : ∀ b h' l' tk, Heap.SameBut a s.heap h' → s.toks ≤ tk → Bo P w m h' a l' → ((p.2 ∈ l.map (·.2) ∧ l' = l) ∨ (p.2 ∉ l.map (·.2) ∧ l'.Perm (p :: l))) → Q b { s with heap := h', toks := tk }) :
    wpAny (model P w) A (setAdd a p.1) Q E s := by
  obtain ⟨es, ep, t, Z, T⟩ := B.ex
  unfold setAdd
  refine wpAny_holding (wpAny_bind (pyHash_key p.2 p.1 A s _ hp.ky.1 (by have := hp.ky.2; omega) ?_))
  cases m with
  | true =>
    obtain ⟨c, ec⟩ := hp.rf rfl
    obtain ⟨T1, T2⟩ := T rfl
    obtain ⟨pv, pk⟩ := p
    dsimp only at ec
    subst ec
    refine add_ref (s := { s with toks := s.toks + pk.draws }) Z T1 T2 hp.ky (by omega) few fun b h' l' es' ep' t' sb Z' T' c => ?_
    refine hQ b h' l' _ sb (Nat.le_add_right _ _) ⟨⟨es', ep', t', Z', fun _ => ⟨T', ?_⟩⟩, fun z => (nomatch z)⟩ c
    rcases c with ⟨_, rfl⟩ | ⟨_, pm⟩
    · exact T2
    · intro q hq
      rcases List.mem_cons.mp (pm.mem_iff.mp hq) with z | z
      · exact ⟨c, by rw [z]⟩
      · exact T2 q z
  | false =>
    refine add_scan (s := { s with toks := s.toks + p.2.draws }) Z (B.sc rfl) (hp.sc rfl) hp.ky few fun b h' l' es' ep' t' sb Z' c => ?_
    refine hQ b h' l' _ sb (Nat.le_add_right _ _) ⟨⟨es', ep', t', Z', fun z => (nomatch z)⟩, fun _ => ?_⟩ c
    rcases c with ⟨_, rfl⟩ | ⟨_, pm⟩
    · exact B.sc rfl
    · intro q hq
      rcases List.mem_cons.mp (pm.mem_iff.mp hq) with z | z
      · rw [z]; exact hp.sc rfl
      · exact B.sc rfl q z
/-- a new set -/
theorem bo_new (m : Bool) {h : Heap} {a : Addr} (e : h.get? a = some { cls := .type "set", dict := none, data := .set #[] 0 (.fresh 0 0 (!w.params.followText "set-order")) }) : Bo P w m h a [] := by
  refine ⟨⟨#[], 0, .fresh 0 0 (!w.params.followText "set-order"), ⟨⟨_, e, ⟨rfl, rfl, rfl⟩, rfl⟩, rfl, List.nodup_nil, fun _ h => (nomatch h), List.Pairwise.nil, ?_, rfl, by decide⟩, fun _ => ⟨⟨⟨List.Pairwise.nil, rfl, rfl, .inl rfl, fun x h => (nomatch h), fun i h j hi => by simp at hi⟩, ?_⟩, fun _ h => (nomatch h)⟩⟩, fun _ _ h => (nomatch h)⟩
  · show _ ∨ (!w.params.followText "set-order") = true
    cases w.params.followText "set-order"
    · exact .inr rfl
    · exact .inl rfl
  · show 0 * 5 < 7 * 3
    decide
/-- the loop that puts them in -/
theorem upd_loop {m : Bool} {I : Addr} {fp wr : List Addr} {G : Array GenState → Array GenState → Prop} {n : Nat} {Pv : Nat → Value → Prop} {St : Nat → Shared → Prop} {R : Result → Shared → Prop}
    (W : WalksS P w A.in1 I fp wr G n Pv St) (S : Addr) (ns : S ∉ fp) (ks : List Pr) (hn : n = ks.length) (few : ∀ l : List Pr, (l.map (·.2)).Nodup → (∀ p ∈ l, p ∈ ks) → l.length + 1 < cap m) (hv : ∀ i v, Pv i v → ∃ p, ks[i]? = some p ∧ v = p.1)
    (h0 : Heap) (hk : ∀ p ∈ ks, Itm P w m h0 p) (s0 : h0.get? S = none) (w0 : ∀ b ∈ wr, h0.get? b = none) (hu : A.in1.units + 16 < cLine) :
    ∀ (k i : Nat) (s : Shared), n - i = k → i ≤ n → St i s → (∀ b o, h0.get? b = some o → s.heap.get? b = some o) → (∃ l, Bo P w m s.heap S l ∧ Hs ks i l) →
      (∀ s' l, Moved (S :: wr) G s s' → Bo P w m s'.heap S l → Hs ks n l → (∀ b o, h0.get? b = some o → s'.heap.get? b = some o) → R (.ok (.ret .none)) s') →
      codeAny (model P w) A (.builtin "set.update.loop" ⟨[.ref S, .ref I], []⟩) R s := by
  have nw : S ∉ wr := fun h => ns (W.sub _ h)
  have up : ∀ b ∈ wr, b ∈ S :: wr := fun b hb => List.mem_cons_of_mem _ hb
  have kM : ∀ {s s' : Shared}, Moved wr G s s' → (∀ b o, h0.get? b = some o → s.heap.get? b = some o) → ∀ b o, h0.get? b = some o → s'.heap.get? b = some o := fun mv kp b o e =>
    mv.heap b o (fun hb => by rw [w0 b hb] at e; cases e) (kp b o e)
  intro k
  induction k with
  | zero =>
    intro i s hk' hi st kp ⟨l, B, g⟩ hR
    obtain rfl : i = n := by omega
    refine codeAny_builtin F.entry_set_update_loop ?_
    rw [Around.under_plainId F.plain_set_update_loop _]
    show wpAny _ A.in1 (pyNext (.ref I) >>= _) _ _ s
    refine wpAny_bind (W.done s _ _ st fun s' mv => ?_)
    show wpAny _ A.in1 (ret Value.none) _ _ s'
    have kp' := kM mv kp
    exact wpAny_pure (hR s' l (mv.mono up) (B.keep (fun o e => mv.heap S o nw e) fun p hp => (hk p (List.mem_of_mem_take (g.sub p hp))).ky.keep kp') g kp')
  | succ k ih =>
    intro i s hk' hi st kp ⟨l, B, g⟩ hR
    have lt : i < n := by omega
    refine codeAny_builtin F.entry_set_update_loop ?_
    rw [Around.under_plainId F.plain_set_update_loop _]
    show wpAny _ A.in1 (pyNext (.ref I) >>= _) _ _ s
    refine wpAny_bind (W.item i s _ _ lt st fun v s' hP st' mv => ?_)
    obtain ⟨p, hp, rfl⟩ := hv i v hP
    have kp' := kM mv kp
    have B' : Bo P w m s'.heap S l := B.keep (fun o e => mv.heap S o nw e) fun q hq => (hk q (List.mem_of_mem_take (g.sub q hq))).ky.keep kp'
    have ip := (hk p (List.mem_of_getElem? hp)).keep kp'
    show wpAny _ A.in1 (holding [p.1] (setAdd S p.1) >>= _) _ _ s'
    refine wpAny_bind (wpAny_holding (add_one B' ip hu (few l B'.nd fun p hp => List.mem_of_mem_take (g.sub p hp)) fun b h' l' tk sb tk' B2 c => ?_))
    have kp2 : ∀ b o, h0.get? b = some o → h'.get? b = some o := fun b o e => (sb.2 b (fun z => by rw [z, s0] at e; cases e)).trans (kp' b o e)
    refine wpAny_pure ⟨plainId_quiet F.plain_set_update_loop _, ih (i + 1) _ (by omega) lt (W.frame _ s' _ _ st' tk' fun b hb o e => ?_) kp2 ⟨l', B2, g.next hp c⟩ fun s'' l2 mv2 B3 g3 kp3 => ?_⟩
    · rw [sb.2 b fun h => ns (h ▸ hb)]; exact e
    · refine hR s'' l2 (Moved.trans W.gtrans ((mv.mono up).then_heap tk' fun b o hb e => ?_) mv2) B3 g3 kp3
      rw [sb.2 b fun h => hb (by rw [h]; exact List.mem_cons_self)]; exact e
end
end G

/-! set(..) of a list, of a tuple -/
namespace G
open PySem PySem.Spec L2 PyProof.Rows
section
variable {P : Program} {w : World} {A : Around} {E : Value → Shared → Prop} {s : Shared}
/-- set(x), x a list -/
theorem mkset_list {m : Bool} {l0 : Addr} {vs : Array Value} (ks : List Pr) {Q : Value → Shared → Prop} (hd0 : A.handled = none) (hl : s.heap.IsList l0 vs) (ev : vs.toList = ks.map (·.1)) (hk : ∀ p ∈ ks, Itm P w m s.heap p) (few : ∀ l : List Pr, (l.map (·.2)).Nodup → (∀ p ∈ l, p ∈ ks) → l.length + 1 < cap m) (hu : A.units + 24 < cLine)
    (h : ∀ (h' : Heap) (tk : Nat) l, Bo P w m h' s.heap.objs.size l → Hs ks ks.length l → (∀ b o, s.heap.get? b = some o → h'.get? b = some o) → Q (.ref s.heap.objs.size) { s with heap := h', toks := tk }) :
    wpAny (model P w) A (call (.type "set") [.ref l0]) Q E s := by
  have esz : vs.size = ks.length := by have q := congrArg List.length ev; rwa [Array.length_toList, List.length_map] at q
  obtain ⟨c, tl, hmro⟩ := F.called_set.mro
  have x1 := F.called_set.made
  have x2 := F.called_set.sub
  refine wpAny_call (codeAny_of_tree (show wpAny _ _ (callAny (.type "set") _) _ _ _ from wpAny_pure ⟨Code.quiet_builtin _ (by decide +kernel), codeAny_builtin F.entry_type_call ?_⟩))
  rw [Around.under_plain (weight_type_call_type "set" [.ref l0] []) rfl]
  have x3 := F.called_set.notType
  have x4 := F.called_set.canCreate
  have x5 := F.typeCall_set_1 (.ref l0)
  repeat (any_goals (first | assumption | wp_step))
  generalize hnw : ({ cls := .type "set", dict := none, data := .set #[] 0 (.fresh 0 0 (!w.params.followText "set-order")) } : Obj) = nw
  refine codeAny_mono (code_set_led1 (.ref l0) (E := E) (Q₁ := fun ob z => ob = .ref s.heap.objs.size ∧ z = { s with heap := s.heap.push nw }) (by rw [hnw]; exact ⟨rfl, rfl⟩)) fun r z hz => ?_
  cases r with
  | error e => exact hz
  | ok fl =>
    cases fl with
    | ret ob =>
      obtain ⟨rfl, rfl⟩ := hz
      have g0 : (s.heap.push nw).get? s.heap.objs.size = some nw := by subst hnw; exact Heap.get?_push_size _ rfl
      have ty : Shared.TypeIs { s with heap := s.heap.push nw } (.ref s.heap.objs.size) "set" := ⟨_, g0, by subst hnw; rfl⟩
      have x6 := F.called_set.init.lookup
      have x7 := F.called_set.init.bind (.ref s.heap.objs.size)
      repeat (any_goals (first | assumption | wp_step))
      refine codeAny_mono (codeAny_call_builtin (R := wants (fun r z => r = .none ∧ ∃ h' tk l, z = { s with heap := h', toks := tk } ∧ Bo P w m h' s.heap.objs.size l ∧ Hs ks ks.length l ∧ (∀ b o, s.heap.get? b = some o → h'.get? b = some o)) E) F.called_set.init.plain F.entry_set_init (check_set_init_1 ty ?_)) fun r₂ z₂ hz₂ => ?_
      · obtain ⟨⟨ocls, odict, odata, oslots⟩, y1, y2, nl, y3⟩ := hl
        simp only at y2 y3
        subst y2; subst y3
        have y4 : (s.heap.push nw).get? l0 = some { cls := .type "list", dict := odict, data := .seq vs nl, slots := oslots } := Heap.get?_push_of_some _ y1
        have x8 := F.sub_list_set
        have x9 := F.sub_list_frozenset
        have x10 : (Value.type "list" == Value.type "dict") = false := by decide
        have y5 : (s.heap.push nw).IsList l0 vs := ⟨_, y4, rfl, nl, rfl⟩
        subst hnw
        unfold Builtin.«set.__init__» noKeywords; unfold Builtin.Frozenset.updateFrom
        generalize hit : pyIter = PIt
        wp_walk
        subst hit
        (refine wpAny_pyIter_list y5 ?_); refine wpAny_bind (wpAny_runValue ?_)
        have l1 : l0 < s.heap.objs.size := Heap.lt_size y1
        have hd3 : A.in1.in1.in1.handled = none := by simp [hd0]
        have sz1 : (s.heap.push ({ cls := .type "set", dict := none, data := .set #[] 0 (.fresh 0 0 (!w.params.followText "set-order")) } : Obj)).objs.size = s.heap.objs.size + 1 := Heap.size_push ..
        have l2 : l0 ≠ (s.heap.push ({ cls := .type "set", dict := none, data := .set #[] 0 (.fresh 0 0 (!w.params.followText "set-order")) } : Obj)).objs.size := by rw [sz1]; exact Nat.ne_of_lt (Nat.lt_succ_of_lt l1)
        have off : s.heap.objs.size ∉ [(s.heap.push ({ cls := .type "set", dict := none, data := .set #[] 0 (.fresh 0 0 (!w.params.followText "set-order")) } : Obj)).objs.size, l0] := fun hm => by
          rcases List.mem_cons.mp hm with z | z
          · rw [sz1] at z; exact absurd z (Nat.ne_of_lt (Nat.lt_succ_self _))
          · exact absurd (List.mem_singleton.mp z) (Nat.ne_of_gt l1)
        have hv : ∀ (i : Nat) (v : Value), vs[i]? = some v → ∃ p, ks[i]? = some p ∧ v = p.1 := fun i v hv => by
          have q : vs.toList[i]? = some v := by rw [Array.getElem?_toList]; exact hv
          rw [ev, List.getElem?_map] at q
          obtain ⟨p, e1, e2⟩ := Option.map_eq_some_iff.mp q
          exact ⟨p, e1, e2.symm⟩
        have un : ∀ b, s.heap.objs.size ≤ b → s.heap.get? b = none := fun b hb => by
          cases q : s.heap.get? b with
          | none => rfl
          | some o => exact absurd (Nat.lt_of_lt_of_le (Heap.lt_size q) hb) (Nat.lt_irrefl _)
        refine upd_loop (m := m) ((Walks.list hd3 _ l0 l2 vs).toS) s.heap.objs.size off ks esz few hv s.heap hk (un _ (Nat.le_refl _)) (fun b hb => un b (by rw [List.mem_singleton.mp hb, sz1]; exact Nat.le_succ _)) (by simp only [Around.in1_units]; omega) (vs.size - 0) 0 _ (by omega) (Nat.zero_le _)
          ⟨⟨_, Heap.get?_push_size _ rfl, rfl, rfl⟩, (y5.push _)⟩ (fun b o e => Heap.get?_push_of_some _ (Heap.get?_push_of_some _ e)) ⟨[], bo_new m (Heap.get?_push_of_some _ g0), Hs.zero ks⟩ fun s' l mv B g kp => ?_
        obtain ⟨h', g2, d', tk', os'⟩ := s'
        have eg : g2 = s.gens := mv.gens
        have ed : d' = s.drawn := mv.drawn
        have eo : os' = s.os := mv.os
        subst eg; subst ed; subst eo
        refine wpAny_pure (show wpAny _ _ (ret Value.none) _ _ _ from ?_)
        rw [esz] at g
        exact wpAny_pure ⟨rfl, h', tk', l, rfl, B, g, kp⟩
      · cases r₂ with
        | error e => exact hz₂
        | ok fl₂ =>
          cases fl₂ with
          | ret r =>
            obtain ⟨rfl, h', tk, l, rfl, B, g, kp⟩ := hz₂
            repeat (any_goals (first | assumption | wp_step))
            exact h _ _ _ B g kp
          | _ => exact hz₂.elim
    | _ => exact hz.elim

/-- set(x), x a tuple -/
theorem mkset_tuple {m : Bool} {l0 : Addr} {vs : Array Value} (ks : List Pr) {Q : Value → Shared → Prop} (hd0 : A.handled = none) (hl : s.heap.IsTuple l0 vs) (ev : vs.toList = ks.map (·.1)) (hk : ∀ p ∈ ks, Itm P w m s.heap p) (few : ∀ l : List Pr, (l.map (·.2)).Nodup → (∀ p ∈ l, p ∈ ks) → l.length + 1 < cap m) (hu : A.units + 24 < cLine)
    (h : ∀ (h' : Heap) (tk : Nat) l, Bo P w m h' s.heap.objs.size l → Hs ks ks.length l → (∀ b o, s.heap.get? b = some o → h'.get? b = some o) → Q (.ref s.heap.objs.size) { s with heap := h', toks := tk }) :
    wpAny (model P w) A (call (.type "set") [.ref l0]) Q E s := by
  have esz : vs.size = ks.length := by have q := congrArg List.length ev; rwa [Array.length_toList, List.length_map] at q
  obtain ⟨c, tl, hmro⟩ := F.called_set.mro
  have x1 := F.called_set.made
  have x2 := F.called_set.sub
  refine wpAny_call (codeAny_of_tree (show wpAny _ _ (callAny (.type "set") _) _ _ _ from wpAny_pure ⟨Code.quiet_builtin _ (by decide +kernel), codeAny_builtin F.entry_type_call ?_⟩))
  rw [Around.under_plain (weight_type_call_type "set" [.ref l0] []) rfl]
  have x3 := F.called_set.notType
  have x4 := F.called_set.canCreate
  have x5 := F.typeCall_set_1 (.ref l0)
  repeat (any_goals (first | assumption | wp_step))
  generalize hnw : ({ cls := .type "set", dict := none, data := .set #[] 0 (.fresh 0 0 (!w.params.followText "set-order")) } : Obj) = nw
  refine codeAny_mono (code_set_led1 (.ref l0) (E := E) (Q₁ := fun ob z => ob = .ref s.heap.objs.size ∧ z = { s with heap := s.heap.push nw }) (by rw [hnw]; exact ⟨rfl, rfl⟩)) fun r z hz => ?_
  cases r with
  | error e => exact hz
  | ok fl =>
    cases fl with
    | ret ob =>
      obtain ⟨rfl, rfl⟩ := hz
      have g0 : (s.heap.push nw).get? s.heap.objs.size = some nw := by subst hnw; exact Heap.get?_push_size _ rfl
      have ty : Shared.TypeIs { s with heap := s.heap.push nw } (.ref s.heap.objs.size) "set" := ⟨_, g0, by subst hnw; rfl⟩
      have x6 := F.called_set.init.lookup
      have x7 := F.called_set.init.bind (.ref s.heap.objs.size)
      repeat (any_goals (first | assumption | wp_step))
      refine codeAny_mono (codeAny_call_builtin (R := wants (fun r z => r = .none ∧ ∃ h' tk l, z = { s with heap := h', toks := tk } ∧ Bo P w m h' s.heap.objs.size l ∧ Hs ks ks.length l ∧ (∀ b o, s.heap.get? b = some o → h'.get? b = some o)) E) F.called_set.init.plain F.entry_set_init (check_set_init_1 ty ?_)) fun r₂ z₂ hz₂ => ?_
      · obtain ⟨⟨ocls, odict, odata, oslots⟩, y1, y2, nl, y3⟩ := hl
        simp only at y2 y3
        subst y2; subst y3
        have y4 : (s.heap.push nw).get? l0 = some { cls := .type "tuple", dict := odict, data := .seq vs nl, slots := oslots } := Heap.get?_push_of_some _ y1
        have x8 := F.sub_tuple_set
        have x9 := F.sub_tuple_frozenset
        have x10 : (Value.type "tuple" == Value.type "dict") = false := by decide
        have y5 : (s.heap.push nw).IsTuple l0 vs := ⟨_, y4, rfl, nl, rfl⟩
        subst hnw
        unfold Builtin.«set.__init__» noKeywords; unfold Builtin.Frozenset.updateFrom
        generalize hit : pyIter = PIt
        wp_walk
        subst hit
        (refine wpAny_pyIter_tuple y5 ?_); refine wpAny_bind (wpAny_runValue ?_)
        have l1 : l0 < s.heap.objs.size := Heap.lt_size y1
        have hd3 : A.in1.in1.in1.handled = none := by simp [hd0]
        have sz1 : (s.heap.push ({ cls := .type "set", dict := none, data := .set #[] 0 (.fresh 0 0 (!w.params.followText "set-order")) } : Obj)).objs.size = s.heap.objs.size + 1 := Heap.size_push ..
        have l2 : l0 ≠ (s.heap.push ({ cls := .type "set", dict := none, data := .set #[] 0 (.fresh 0 0 (!w.params.followText "set-order")) } : Obj)).objs.size := by rw [sz1]; exact Nat.ne_of_lt (Nat.lt_succ_of_lt l1)
        have off : s.heap.objs.size ∉ [(s.heap.push ({ cls := .type "set", dict := none, data := .set #[] 0 (.fresh 0 0 (!w.params.followText "set-order")) } : Obj)).objs.size, l0] := fun hm => by
          rcases List.mem_cons.mp hm with z | z
          · rw [sz1] at z; exact absurd z (Nat.ne_of_lt (Nat.lt_succ_self _))
          · exact absurd (List.mem_singleton.mp z) (Nat.ne_of_gt l1)
        have hv : ∀ (i : Nat) (v : Value), vs[i]? = some v → ∃ p, ks[i]? = some p ∧ v = p.1 := fun i v hv => by
          have q : vs.toList[i]? = some v := by rw [Array.getElem?_toList]; exact hv
          rw [ev, List.getElem?_map] at q
          obtain ⟨p, e1, e2⟩ := Option.map_eq_some_iff.mp q
          exact ⟨p, e1, e2.symm⟩
        have un : ∀ b, s.heap.objs.size ≤ b → s.heap.get? b = none := fun b hb => by
          cases q : s.heap.get? b with
          | none => rfl
          | some o => exact absurd (Nat.lt_of_lt_of_le (Heap.lt_size q) hb) (Nat.lt_irrefl _)
        refine upd_loop (m := m) ((Walks.tuple hd3 _ l0 l2 vs).toS) s.heap.objs.size off ks esz few hv s.heap hk (un _ (Nat.le_refl _)) (fun b hb => un b (by rw [List.mem_singleton.mp hb, sz1]; exact Nat.le_succ _)) (by simp only [Around.in1_units]; omega) (vs.size - 0) 0 _ (by omega) (Nat.zero_le _)
          ⟨⟨_, Heap.get?_push_size _ rfl, rfl, rfl⟩, (y5.push _)⟩ (fun b o e => Heap.get?_push_of_some _ (Heap.get?_push_of_some _ e)) ⟨[], bo_new m (Heap.get?_push_of_some _ g0), Hs.zero ks⟩ fun s' l mv B g kp => ?_
        obtain ⟨h', g2, d', tk', os'⟩ := s'
        have eg : g2 = s.gens := mv.gens
        have ed : d' = s.drawn := mv.drawn
        have eo : os' = s.os := mv.os
        subst eg; subst ed; subst eo
        refine wpAny_pure (show wpAny _ _ (ret Value.none) _ _ _ from ?_)
        rw [esz] at g
        exact wpAny_pure ⟨rfl, h', tk', l, rfl, B, g, kp⟩
      · cases r₂ with
        | error e => exact hz₂
        | ok fl₂ =>
          cases fl₂ with
          | ret r =>
            obtain ⟨rfl, h', tk, l, rfl, B, g, kp⟩ := hz₂
            repeat (any_goals (first | assumption | wp_step))
            exact h _ _ _ B g kp
          | _ => exact hz₂.elim
    | _ => exact hz.elim
end
end G

/-! sorted(set(..)), len(set(..)) -/
namespace G
open PySem PySem.Spec L2
/-! ### plain: the items, each once -/
theorem all_sub {p : D → Bool} {xs ys : List D} (h : ∀ y ∈ ys, y ∈ xs) (a : xs.all p = true) : ys.all p = true :=
  List.all_eq_true.mpr fun y hy => List.all_eq_true.mp a y (h y hy)
theorem plL_iff : ∀ {xs : List D}, plL xs = true ↔ ∀ x ∈ xs, pl x = true
  | [] => by simp [plL]
  | x :: xs => by simp [plL, plL_iff (xs := xs)]
theorem kbL_iff : ∀ {xs : List D}, kbL xs = true ↔ ∀ x ∈ xs, kb x = true
  | [] => by simp [kbL]
  | x :: xs => by simp [kbL, kbL_iff (xs := xs)]
theorem depL_iff {n : Nat} : ∀ {xs : List D}, depL xs ≤ n ↔ ∀ x ∈ xs, dep x ≤ n
  | [] => by simp [depL]
  | x :: xs => by
    have := depL_iff (n := n) (xs := xs)
    simp only [depL, List.mem_cons, forall_eq_or_imp, ← this]
    omega
theorem allCmp_sub {xs ys : List D} (h : ∀ y ∈ ys, y ∈ xs) (a : allCmp xs = true) : allCmp ys = true := by
  simp only [allCmp, Bool.and_eq_true, decide_eq_true_eq, plL_iff, depL_iff, List.all_eq_true] at a ⊢
  exact ⟨⟨fun y hy => a.1.1 y (h y hy), fun y hy => a.1.2 y (h y hy)⟩, fun x hx y hy => a.2 x (h x hx) y (h y hy)⟩
theorem srtK_sub {xs ys : List D} (h : ∀ y ∈ ys, y ∈ xs) (hl : ys.length ≤ xs.length) (a : srtK xs = true) : srtK ys = true := by
  simp only [srtK, Bool.or_eq_true, decide_eq_true_eq] at a ⊢
  rcases a with ((((a | a) | a) | a) | a) | a
  · exact .inl (.inl (.inl (.inl (.inl (by omega)))))
  · exact .inl (.inl (.inl (.inl (.inr (all_sub h a)))))
  · exact .inl (.inl (.inl (.inr (all_sub h a))))
  · exact .inl (.inl (.inr (all_sub h a)))
  · exact .inl (.inr (all_sub h a))
  · exact .inr (all_sub h a)
theorem dedup_sub : ∀ {xs : List D} {x : D}, x ∈ dedup xs → x ∈ xs
  | [], _, h => by cases h
  | y :: ys, x, h => by
    rcases List.mem_cons.mp h with rfl | h
    · exact List.mem_cons_self
    · exact List.mem_cons_of_mem _ (dedup_sub (List.mem_filter.mp h).1)
theorem dedup_nd : ∀ {xs : List D}, (∀ x ∈ xs, eqv x x = true) → (dedup xs).Nodup
  | [], _ => List.nodup_nil
  | y :: ys, h => by
    refine List.nodup_cons.mpr ⟨fun z => ?_, (dedup_nd fun x hx => h x (List.mem_cons_of_mem _ hx)).filter _⟩
    have := (List.mem_filter.mp z).2
    rw [h y List.mem_cons_self] at this
    cases this
theorem same_iff {xs : List D} (s : sameD xs = true) : ∀ x ∈ xs, ∀ y ∈ xs, eqv x y = true → x = y := fun x hx y hy e => by
  have := List.all_eq_true.mp (List.all_eq_true.mp s x hx) y hy
  rw [e] at this
  simpa using this
theorem dedup_mem : ∀ {xs : List D}, (∀ x ∈ xs, ∀ y ∈ xs, eqv x y = true → x = y) → ∀ {x : D}, x ∈ xs → x ∈ dedup xs
  | [], _, _, h => by cases h
  | y :: ys, s, x, h => by
    by_cases e : x = y
    · rw [e]; exact List.mem_cons_self
    · rcases List.mem_cons.mp h with h | h
      · exact absurd h e
      · refine List.mem_cons_of_mem _ (List.mem_filter.mpr ⟨dedup_mem (fun a ha b hb => s a (List.mem_cons_of_mem _ ha) b (List.mem_cons_of_mem _ hb)) h, ?_⟩)
        cases q : eqv x y with
        | false => rfl
        | true => exact absurd (s x (List.mem_cons_of_mem _ h) y List.mem_cons_self q) e
theorem dedup_len : ∀ xs : List D, (dedup xs).length ≤ xs.length
  | [] => Nat.le_refl _
  | x :: xs => Nat.succ_le_succ (Nat.le_trans (List.length_filter_le _ _) (dedup_len xs))
theorem nodup_one {α : Type} {p : α → Bool} {l m : List α} (pm : l.Perm m) (nd : l.Nodup) (one : ∀ x ∈ l, ∀ y ∈ l, p x = true → p y = true → x = y) : l.filter p = m.filter p := by
  have pf := pm.filter p
  have nf := nd.filter p
  have o : ∀ x ∈ l.filter p, ∀ y ∈ l.filter p, x = y := fun x hx y hy => one x (List.mem_filter.mp hx).1 y (List.mem_filter.mp hy).1 (List.mem_filter.mp hx).2 (List.mem_filter.mp hy).2
  generalize l.filter p = a at *
  generalize m.filter p = b at *
  match a, nf, o, pf with
  | [], _, _, pf => exact (List.nil_perm.mp pf).symm
  | [x], _, _, pf => exact List.singleton_perm.mp pf
  | x :: y :: a, nf, o, _ =>
    have e := o x List.mem_cons_self y (List.mem_cons_of_mem _ List.mem_cons_self)
    subst e
    exact absurd List.mem_cons_self (List.nodup_cons.mp nf).1
/-- in whatever order they stand -/
theorem sortR_perm {l m : List D} (pm : l.Perm m) (nd : l.Nodup) (a : allCmp m = true) (s : ∀ x ∈ m, ∀ y ∈ m, eqv x y = true → x = y) : sortR l = sortR m := by
  have al := allCmp_sub (fun y hy => pm.mem_iff.mp hy) a
  simp only [allCmp, Bool.and_eq_true, decide_eq_true_eq, plL_iff, List.all_eq_true] at a al
  have kl : ∀ x ∈ l, ∀ y ∈ l, ltB y x = ltQ y x := fun x hx y hy => ltB_key y x (al.1.1 y hy) (al.1.1 x hx) (al.2 y hy x hx)
  have km : ∀ x ∈ m, ∀ y ∈ m, ltB y x = ltQ y x := fun x hx y hy => ltB_key y x (a.1.1 y hy) (a.1.1 x hx) (a.2 y hy x hx)
  rw [sortR_eq l kl]
  obtain ⟨h1, h2⟩ := isort_ok ltQ_swo l
  refine sortR_uniq km h1 (h2.trans ⟨pm, fun z => nodup_one pm nd fun x hx y hy px py => ?_⟩)
  refine s x (pm.mem_iff.mp hx) y (pm.mem_iff.mp hy) ?_
  rw [eqv_key x y (al.1.1 x hx) (al.1.1 y hy)]
  have e1 : SrtO.eqv ltQ x y = true := by
    have q1 := SrtO.eqv_iff.mp px
    have q2 := SrtO.eqv_iff.mp py
    exact SrtO.eqv_iff.mpr ⟨ltQ_swo.tr y z x q2.1 q1.2, ltQ_swo.tr x z y q1.1 q2.2⟩
  have q := SrtO.eqv_iff.mp e1
  unfold ltQ at q
  have sw := cq_swap (key x) (key y)
  cases c : cq (key x) (key y) with
  | lt => rw [c] at q; exact absurd q.1 (by decide)
  | eq => rfl
  | gt => rw [sw, c] at q; exact absurd q.2 (by decide)
section
open PyProof.Rows
variable {prog : Program} {w : World} {A : Around} {E : Value → Shared → Prop} {s : Shared}
/-- whatever is collected, in one of some ways -/
theorem sorted_any {v : Value} {C : List Value → Shared → Prop} {ltv : Value → Value → Bool} {Q : Value → Shared → Prop} (O : SrtO.Swo ltv) (hcol : ∀ (R : List Value → Shared → Prop), (∀ vs s2, C vs s2 → R vs s2) → wpAny (model prog w) A.in1 (collect v) R E s)
    (hz : ∀ vs s2, C vs s2 → vs.length ≤ sizeLine)
    (hS : ∀ vs s2, C vs s2 → 2 ≤ vs.length → ∀ (h₁ : Heap) (a : Addr), h₁.get? a = some (seqObj "list" vs.toArray 0) → (∀ b o, s2.heap.get? b = some o → b ≠ a ∧ h₁.get? b = some o) → SrtO.SortableO prog w A.in1.in1 { s2 with heap := h₁ } a vs ltv)
    (h : ∀ vs s2, C vs s2 → ∀ out : List Value, SrtO.Srtd ltv out → SrtO.Stb ltv out vs → Q (.ref s2.heap.objs.size) { s2 with heap := sortedHeap (s2.heap.push (seqObj "list" vs.toArray 0)) s2.heap.objs.size vs out.toArray }) :
    wpAny (model prog w) A (call (.builtin "sorted") [v]) Q E s := by
  refine Calls.call_function_entry (kind_sorted) plain_sorted entry_sorted (args_sorted1 _) (by
    unfold Builtin.«sorted»
    refine wpAny_bind (m := checkCount "sorted" 1 1 _) (wpAny_pure (wpAny_bind (hcol _ fun vs s2 hc => wpAny_bind (wpAny_newList ?_ (hz vs s2 hc)))))
    have at_ : (s2.heap.push (seqObj "list" vs.toArray 0)).get? s2.heap.objs.size = some (seqObj "list" vs.toArray 0) := Heap.get?_push_size _ rfl
    have kp : ∀ b o, s2.heap.get? b = some o → b ≠ s2.heap.objs.size ∧ (s2.heap.push (seqObj "list" vs.toArray 0)).get? b = some o := fun b o q => ⟨Nat.ne_of_lt (Heap.lt_size q), Heap.get?_push_of_some _ q⟩
    show wpAny _ _ _ _ _ { s2 with heap := s2.heap.push (seqObj "list" vs.toArray 0) }
    exact wpAny_bind (wpAny_holding (wpAny_call_entry slot_list_sort ⟨_, at_, rfl⟩ entry_list_sort (SrtO.list_sort_ord O at_ (hz vs s2 hc) (fun h2 => hS vs s2 hc h2 _ _ at_ kp) fun out a b => ⟨_, rfl, wpAny_pure ⟨_, rfl, h vs s2 hc out a b⟩⟩) (args_list_sort _))))
end
section
variable {X : Cx} {fa : FA} {pins : List (Addr × Obj)} {s : Shared} {σ : L2.St} {S H : Hp}
/-- the items with their keys -/
def prs (us : List Value) (ds : List D) : List Pr := us.zip (toKs ds)
theorem toKs_map (ds : List D) : toKs ds = ds.map toK := by
  induction ds with
  | nil => rfl
  | cons d ds ih => simp [toKs, ih]
theorem prs_mem (I : Inv X pins σ H s) : ∀ {vs : List V} {us : List Value} {ds : List D}, Vals vs us → Reps X.K fa H vs ds → kbL ds = true → plL ds = true → ∀ p ∈ prs us ds, rdV X.K fa H p.1 ∈ ds ∧ p.2 = toK (rdV X.K fa H p.1) ∧ p.1 ∈ us ∧ NestedIs s.heap p.2 p.1
  | _, _, _, .nil, .nil, _, _, p, hp => by cases hp
  | _, _, _, .cons a b, .cons c e, k, q, p, hp => by
    simp only [kbL, plL, Bool.and_eq_true] at k q
    rcases List.mem_cons.mp hp with z | z
    · subst z
      have r := rdV_eq I a c q.1
      exact ⟨by rw [r]; exact List.mem_cons_self, by rw [r], List.mem_cons_self, nested_of I c a k.1⟩
    · obtain ⟨h1, h2, h3, h4⟩ := prs_mem I b e k.2 q.2 p z
      exact ⟨List.mem_cons_of_mem _ h1, h2, List.mem_cons_of_mem _ h3, h4⟩
theorem prs_len {us : List Value} {ds : List D} (h : us.length = ds.length) : (prs us ds).length = ds.length := by
  simp [prs, toKs_map, h]
theorem prs_fst {us : List Value} {ds : List D} (h : us.length = ds.length) : us = (prs us ds).map (·.1) := by
  unfold prs
  rw [List.map_fst_zip (by rw [toKs_map]; simp [h])]
theorem prs_keys {us : List Value} {ds : List D} (h : us.length = ds.length) : (prs us ds).map (·.2) = ds.map toK := by
  unfold prs
  rw [List.map_snd_zip (by rw [toKs_map]; simp [h]), toKs_map]
/-- what the set holds, as data -/
theorem set_perm (I : Inv X pins σ H s) {vs : List V} {us : List Value} {ds : List D} (rv : Vals vs us) (r : Reps X.K fa H vs ds) (ok : setOk ds = true) {l : List Pr} (g : Hs (prs us ds) (prs us ds).length l) (nd : (l.map (·.2)).Nodup) :
    (l.map fun p => rdV X.K fa H p.1).Perm (dedup ds) := by
  simp only [setOk, Bool.and_eq_true, decide_eq_true_eq] at ok
  obtain ⟨⟨⟨⟨⟨⟨o1, o2⟩, o3⟩, o4⟩, o5⟩, o6⟩, o7⟩ := ok
  have ac := o1
  simp only [allCmp, Bool.and_eq_true] at ac
  have ul : us.length = ds.length := by rw [← r.length, L2.Vals.length rv]
  have mem := prs_mem I rv r o3 ac.1.1
  have sub : ∀ p ∈ l, p ∈ prs us ds := fun p hp => List.mem_of_mem_take (g.sub p hp)
  have kb1 : ∀ d ∈ ds, kb d = true := kbL_iff.mp o3
  have pl1 : ∀ d ∈ ds, pl d = true := plL_iff.mp ac.1.1
  refine (List.perm_ext_iff_of_nodup ?_ (dedup_nd fun x hx => ?_)).mpr fun d => ⟨fun h => ?_, fun h => ?_⟩
  · have e : (l.map fun p => rdV X.K fa H p.1).map toK = l.map (·.2) := by
      rw [List.map_map]
      exact List.map_congr_left fun p hp => ((mem p (sub p hp)).2.1).symm
    exact nodup_of_map (f := toK) (by rw [e]; exact nd)
  · exact (eqv_key_iff (kb1 x hx) (kb1 x hx)).mpr rfl
  · obtain ⟨p, hp, rfl⟩ := List.mem_map.mp h
    exact dedup_mem (same_iff o6) (mem p (sub p hp)).1
  · have hd := dedup_sub h
    have : toK d ∈ (prs us ds).map (·.2) := by rw [prs_keys ul]; exact List.mem_map_of_mem hd
    obtain ⟨q, hq, eq⟩ := List.mem_map.mp this
    have := g.all q (by rw [List.take_length]; exact hq)
    obtain ⟨p, hp, ep⟩ := List.mem_map.mp this
    have m := mem p (sub p hp)
    refine List.mem_map.mpr ⟨p, hp, same_iff o6 _ m.1 _ hd ((eqv_key_iff (kb1 _ m.1) (kb1 d hd)).mpr ?_)⟩
    rw [← m.2.1, ep, eq]
theorem itm_ok (I : Inv X pins σ H s) {vs : List V} {us : List Value} {ds : List D} (rv : Vals vs us) (r : Reps X.K fa H vs ds) (ok : setOk ds = true) : ∃ m, (∀ p ∈ prs us ds, Itm X.prog X.w m s.heap p) ∧ (dedup ds).length + 1 < cap m := by
  simp only [setOk, Bool.and_eq_true, decide_eq_true_eq, Bool.or_eq_true] at ok
  obtain ⟨⟨⟨⟨⟨⟨o1, o2⟩, o3⟩, o4⟩, o5⟩, o6⟩, o7⟩ := ok
  have ac := o1
  simp only [allCmp, Bool.and_eq_true] at ac
  have mem := prs_mem I rv r o3 ac.1.1
  have ky : ∀ p ∈ prs us ds, KyAt s.heap p.2 p.1 := fun p hp => by
    obtain ⟨m1, m2, _, m4⟩ := mem p hp
    refine ⟨m4, ?_⟩
    rw [m2]
    exact Nat.le_trans (toK_dep _ (kbL_iff.mp o3 _ m1)) (depL_iff.mp o4 _ m1)
  have o7 : ds.all (fun x => tyK x == 3) = true ∨ (¬ ds.all (fun x => tyK x == 3) = true ∧ ds.all (fun x => tyK x == 1 || tyK x == 2) = true) := by
    by_cases z : ds.all (fun x => tyK x == 3) = true
    · exact .inl z
    · exact .inr ⟨z, o7.resolve_left z⟩
  unfold capD at o5
  rcases o7 with o7 | ⟨o8, o7⟩
  · refine ⟨true, fun p hp => ⟨ky p hp, fun _ => ?_, fun z => (nomatch z)⟩, by rw [if_pos o7] at o5; exact o5⟩
    obtain ⟨x, d, q1, q2, q3⟩ := vals_mem rv r p.1 (mem p hp).2.2.1
    have t := List.all_eq_true.mp o7 d q3
    cases q2 <;> simp only [tyK, beq_iff_eq] at t <;> first | omega | skip
    exact ⟨_, q1⟩
  · refine ⟨false, fun p hp => ⟨ky p hp, fun z => (nomatch z), fun _ => ?_⟩, by rw [if_neg o8] at o5; exact o5⟩
    obtain ⟨m1, m2, m3, m4⟩ := mem p hp
    obtain ⟨x, d, q1, q2, q3⟩ := vals_mem rv r p.1 m3
    have hd := rdV_eq I q1 q2 (plL_iff.mp ac.1.1 _ q3)
    rw [hd] at m2
    have t := List.all_eq_true.mp o7 d q3
    cases q2 <;> simp only [tyK, Bool.or_eq_true, beq_iff_eq] at t <;> first | omega | skip
    · obtain ⟨tk, e⟩ := q1
      exact ⟨.inl _, by rw [e]; exact keyIs_int _ tk, m2⟩
    · obtain ⟨tk, e⟩ := q1
      exact ⟨.inr _, by rw [e]; exact keyIs_str _ tk, m2⟩
theorem nodup_le {α : Type} : ∀ {m l : List α}, m.Nodup → (∀ a ∈ m, a ∈ l) → m.length ≤ l.length
  | [], _, _, _ => Nat.zero_le _
  | x :: m, l, h, s => by
    classical
    obtain ⟨h1, h2⟩ := List.nodup_cons.mp h
    have q := nodup_le (m := m) (l := l.erase x) h2 fun a ha => (List.mem_erase_of_ne (fun e : a = x => h1 (by rw [← e]; exact ha))).mpr (s a (List.mem_cons_of_mem _ ha))
    rw [List.length_erase_of_mem (s x List.mem_cons_self)] at q
    have : 0 < l.length := List.length_pos_of_mem (s x List.mem_cons_self)
    rw [List.length_cons]
    omega
theorem few_of {us : List Value} {ds : List D} (ul : us.length = ds.length) (ok : setOk ds = true) {c : Nat} (h : (dedup ds).length + 1 < c) (l : List Pr) (nd : (l.map (·.2)).Nodup) (sub : ∀ p ∈ l, p ∈ prs us ds) : l.length + 1 < c := by
  simp only [setOk, Bool.and_eq_true, decide_eq_true_eq, Bool.or_eq_true] at ok
  obtain ⟨⟨⟨⟨⟨⟨o1, o2⟩, o3⟩, o4⟩, o5⟩, o6⟩, o7⟩ := ok
  have q := nodup_le (l := (dedup ds).map toK) nd fun k hk => by
    obtain ⟨p, hp, rfl⟩ := List.mem_map.mp hk
    have e : p.2 ∈ (prs us ds).map (·.2) := List.mem_map_of_mem (sub p hp)
    rw [prs_keys ul] at e
    obtain ⟨d, hd, e2⟩ := List.mem_map.mp e
    rw [← e2]
    exact List.mem_map_of_mem (dedup_mem (same_iff o6) hd)
  rw [List.length_map, List.length_map] at q
  omega
/-- items out of values -/
theorem reps_of {out : List Value} (mem : ∀ u ∈ out, ∃ x, RelV x u ∧ Rep X.K fa S x (rdV X.K fa H u)) : ∃ ws, Vals ws out ∧ Reps X.K fa S ws (out.map (rdV X.K fa H)) := by
  induction out with
  | nil => exact ⟨[], .nil, .nil⟩
  | cons u out ih =>
    obtain ⟨x, q1, q2⟩ := mem u List.mem_cons_self
    obtain ⟨ws, k1, k2⟩ := ih fun v hv => mem v (List.mem_cons_of_mem _ hv)
    exact ⟨x :: ws, .cons q1 k1, .cons q2 k2⟩
/-- sorted of such a set -/
theorem sort_set {Q : VK} {a : Addr} {vs : List V} {us : List Value} {ds : List D} {l : List Pr} {m : Bool} (hc : X.calm = true) (hu : X.A.units + 200 < cLine) (I : Inv X pins σ H s) (sub : Sub S H) (rv : Vals vs us) (r : Reps X.K fa S vs ds)
    (B : Bo X.prog X.w m s.heap a l) (g : Hs (prs us ds) (prs us ds).length l) (ok : setOk ds = true)
    (post : ∀ v H' S', Gr S H S' H' → RV0 X.K fa H S' H' v (.lst (sortR (dedup ds))) true → Q v H') : wpAny (model X.prog X.w) X.A (call (.builtin "sorted") [.ref a]) (EP X pins σ Q) X.xe s := by
  obtain ⟨es, ep, t, Z, _⟩ := B.ex
  obtain ⟨o, z1, z2, z3⟩ := Z.ob
  have rH : Reps X.K fa H vs ds := r.mono sub
  have pm := set_perm I rv rH ok g Z.nd
  have ok' := ok
  simp only [setOk, Bool.and_eq_true, decide_eq_true_eq] at ok'
  obtain ⟨⟨⟨⟨⟨⟨o1, o2⟩, o3⟩, o4⟩, o5⟩, o6⟩, o7⟩ := ok'
  have ac := o1
  simp only [allCmp, Bool.and_eq_true] at ac
  have mem := prs_mem I rv rH o3 ac.1.1
  have lsub : ∀ p ∈ l, p ∈ prs us ds := fun p hp => List.mem_of_mem_take (g.sub p hp)
  have dd : (dedup ds).Nodup := dedup_nd fun x hx => (eqv_key_iff (kbL_iff.mp o3 x hx) (kbL_iff.mp o3 x hx)).mpr rfl
  -- what a gathering may be
  refine sorted_any (C := fun out s2 => (∀ b u, s.heap.get? b = some u → s2.heap.get? b = some u) ∧ s2.gens = s.gens ∧ s2.os = s.os ∧ out.Perm (l.map (·.1))) (ltv := fun a b => ltQ (rdV X.K fa H a) (rdV X.K fa H b)) ⟨fun x y => ltQ_swo.asym _ _, fun x y z => ltQ_swo.tr _ _ _⟩ (fun R hR => ?_) (fun out s2 c => ?_) (fun out s2 c h2 h₁ b hb kk => fun h'' k2 => ?_) (fun out s2 c res r1 r2 => ?_)
  · refine collect_set (A := X.A.in1) (by have := I.ok.hd hc; simpa using this) ⟨o, z1, z2.1, z3⟩ Z.fit (by rw [rws_len Z.rw_]; unfold scanBound; have := Z.few; omega) Z.ris Z.led fun s1 out k1 hz g1 o1 pm1 => hR out s1 ⟨k1, g1, o1, ?_⟩
    rw [Z.rw_] at pm1
    have e : (rws X.w l).map (·.2) = l.map (·.1) := by
      unfold rws
      rw [List.map_map]
      rfl
    rwa [e] at pm1
  · rw [c.2.2.2.length_eq, List.length_map, sizeLine_eq]; have := Z.few; omega
  all_goals
    obtain ⟨c1, c2, c3, c4⟩ := c
    have mo : ∀ u ∈ out, ∃ x, RelV x u ∧ Rep X.K fa S x (rdV X.K fa H u) := fun u hu' => by
      obtain ⟨p, hp, rfl⟩ := List.mem_map.mp (c4.mem_iff.mp hu')
      obtain ⟨x, d, q1, q2, q3⟩ := vals_mem rv r p.1 (mem p (lsub p hp)).2.2.1
      have pd : pl d = true := plL_iff.mp ac.1.1 d q3
      exact ⟨x, q1, by rw [rdV_eq I q1 (q2.mono sub) pd]; exact q2⟩
    obtain ⟨ws, w1, w2⟩ := reps_of mo
    have pmo : (out.map (rdV X.K fa H)).Perm (dedup ds) := by
      have z := c4.map (rdV X.K fa H)
      rw [List.map_map] at z
      exact z.trans pm
    have os : ∀ y ∈ out.map (rdV X.K fa H), y ∈ ds := fun y hy => dedup_sub (pmo.mem_iff.mp hy)
    have oa := allCmp_sub os o1
    have I2 : Inv X pins σ H s2 := by
      have J := I.call (h' := s2.heap) (g' := s2.gens) (t' := s2.toks) (d' := s2.drawn) (ch := []) (Un.kept c1) (I.hok.kept c1) (by rw [c2]; exact I.bare) (fun _ z => nomatch z)
      have e : s2 = { s with heap := s2.heap, gens := s2.gens, drawn := s2.drawn, toks := s2.toks } := by
        cases s2; cases s; cases c3; rfl
      rw [e]; exact J
  · have I3 : Inv X pins σ H { s2 with heap := h'' } := I2.kept (t' := s2.toks) fun b o e => k2 b o (kk b o e).1 (kk b o e).2
    have nl : (out.map (rdV X.K fa H)).length ≤ ds.length := by
      rw [pmo.length_eq]
      exact dedup_len ds
    exact kindD (A := X.A.in1.in1) I3 (by have hn : X.A.in1.in1.units = X.A.units + 2 := rfl; omega) h2 w1 (w2.mono sub) oa (srtK_sub os nl o2)
  · obtain ⟨rs, k1, k3⟩ := sortOut I2 sub w1 w2 oa r1 r2
    have e1 : sortR (out.map (rdV X.K fa H)) = sortR (dedup ds) := sortR_perm pmo (pmo.nodup_iff.mpr dd) (allCmp_sub (fun y hy => dedup_sub hy) o1) fun x hx y hy => same_iff o6 x (dedup_sub hx) y (dedup_sub hy)
    rw [e1] at k3
    have at_ : (s2.heap.push (PyProof.Rows.seqObj "list" out.toArray 0)).get? s2.heap.objs.size = some (PyProof.Rows.seqObj "list" out.toArray 0) := Heap.get?_push_size _ rfl
    obtain ⟨ep', he⟩ := PyProof.Rows.sortedHeap_at (vs := out) (out := res.toArray) at_
    have kp2 : ∀ b o, s2.heap.get? b = some o → (PyProof.Rows.sortedHeap (s2.heap.push (PyProof.Rows.seqObj "list" out.toArray 0)) s2.heap.objs.size out res.toArray).get? b = some o := fun b o e => by
      have hb := Heap.lt_size e
      rw [PyProof.Rows.sortedHeap_old (Nat.ne_of_lt hb) (by rw [PyProof.Rows.size_push']; exact Nat.lt_succ_of_lt hb)]
      exact Heap.get?_push_of_some _ e
    have hlen : rs.length ≤ sizeLine := by
      rw [L2.Vals.length k1, r2.perm.length_eq, c4.length_eq, List.length_map, sizeLine_eq]
      have := Z.few
      omega
    have hf := I2.fresh
    exact ⟨.ref s2.heap.objs.size, upd H s2.heap.objs.size (.lst rs), I2.laid (t' := s2.toks) kp2 (Nat.le_refl _) ⟨hlen, res, ep', k1, he⟩, rfl, post _ _ S (.fresh sub hf) (rv0T hf (sub.none hf) k3)⟩
end
end G

/-! expressions: what the interpreter says, the model does -/
namespace G
open PySem PySem.Spec L2
structure Gt where
  T : Nat → Option Fd
  nm : Nat → Option Str
  gc : Nat → Option (Str × D)
  /-- the classes that may be raised: their names -/
  en : Nat → Option Str
  /-- how many of them at most -/
  nc : Nat
  /-- the defs that are called in except suites -/
  hot : Nat → Bool
  /-- whether the clause 'except y' catches a class's -/
  exm : Nat → Str → Option Bool
  /-- isinstance of a class's, asked for y -/
  isn : Nat → Str → Option Bool
structure Gs where
  fa : FA
  W : Nat
  t : Gt
  /-- where these classes stand -/
  ec : Nat → Option Addr
abbrev Gs.T (G : Gs) : Nat → Option Fd := G.t.T
abbrev Gs.nm (G : Gs) : Nat → Option Str := G.t.nm
abbrev Gs.en (G : Gs) : Nat → Option Str := G.t.en
abbrev Gs.gc (G : Gs) : Nat → Option (Str × D) := G.t.gc
/-- the built-ins' names that may be used: no module's name hides them -/
def frees : List Str := ["len", "tuple", "list", "sorted", "range", "all", "any", "sum", "max", "min", "int", "str", "abs", "enumerate", "zip", "reversed", "set", "isinstance", "bool"]
def Gs.mf (G : Gs) (f : Nat) : Option (List Bool) := (G.T f).map Fd.mu
def Gs.cf (G : Gs) (k : Nat) : Nat → List SV → CR := callF G.T G.W k
def reA : List SV → List D → List SV
  | .own _ :: as, d :: ds => .own d :: reA as ds
  | a :: as, ds => a :: reA as ds
  | [], _ => []
/-- the promise of the def f, k calls deep at most -/
def spO (G : Gs) (K : PySem.W.Frag) (k f : Nat) : Sp := fun vs H Q _ => ∃ S args d fr outs, Rl K G.fa S (vs.map some) (args.map some) H ∧ G.cf k f args = .ok d fr outs ∧ (∃ fd, G.T f = some fd ∧ vs.length = fd.ps) ∧
  ∀ v H' S', Go K G.fa (vs.map some) S (args.map some) H S' ((reA args outs).map some) H' → RV K G.fa (vs.map some) ((reA args outs).map some) H S' H' v d fr → Q v H'
/-- the same where it raises -/
def spX (G : Gs) (K : PySem.W.Frag) (k f : Nat) : Sp := fun vs H _ E => ∃ S args c a, Rl K G.fa S (vs.map some) (args.map some) H ∧ G.cf k f args = .exc c [] ∧ G.ec c = some a ∧ (∃ fd, G.T f = some fd ∧ vs.length = fd.ps) ∧
  ∀ H' S', Go K G.fa (vs.map some) S (args.map some) H S' (args.map some) H' → E (.ref a) none H'
def spF (G : Gs) (K : PySem.W.Frag) (k f : Nat) : Sp := fun vs H Q E => spO G K k f vs H Q E ∨ spX G K k f vs H Q E
def FnsOk (G : Gs) (P : Program) (w : World) (K : PySem.W.Frag) (mg : Str → Option Value) (base : Heap) (k : Nat) : Prop :=
  ∀ f fd, G.T f = some fd → G.t.hot f = false → ∃ a fdat ps, G.fa f = some a ∧ PySem.W.keepIn K (.ref a) = true ∧ Binds K fdat ps [] ∧ ps.length = fd.ps ∧ FnOk P w K mg base (L2.CX P w) k a fdat ps (spF G K k f)
/-- an exception of the class c stands at a -/
def Gs.withX (G : Gs) (c : Nat) (a : Addr) : Gs := { G with fa := fun n => if n = 1000000 + c then some a else G.fa n }
/-- what a class's caught object is -/
def Caught (C : Addr) (oe : Obj) : Prop := Zc (.ref C) none oe ∧ ∃ vs, oe.data = .fields vs
def FnsHot (G : Gs) (P : Program) (w : World) (K : PySem.W.Frag) (mg : Str → Option Value) (base : Heap) (k : Nat) : Prop :=
  ∀ c C p, G.ec c = some C → Caught C p.2 → ∀ f fd, G.T f = some fd → G.t.hot f = true → ∃ a fdat ps, G.fa f = some a ∧ PySem.W.keepIn K (.ref a) = true ∧ Binds K fdat ps [] ∧ ps.length = fd.ps ∧ FnK P w K mg base (L2.CX P w) k a fdat ps p (spO (G.withX c p.1) K k f)
structure GlobOk (G : Gs) (K : PySem.W.Frag) (mg : Str → Option Value) : Prop where
  nm : ∀ f x, G.nm f = some x → ∃ a, mg x = some (.ref a) ∧ G.fa f = some a
  fre : ∀ x ∈ frees, mg x = none
  gc : ∀ i x d, G.gc i = some (x, d) → ∃ u v, mg x = some u ∧ RelV v u ∧ Rep K G.fa (fun _ => none) v d
  exc : ∀ c x, G.en c = some x → ∃ a, G.ec c = some a ∧ mg x = some (.ref a) ∧ PySem.W.keepIn K (.ref a) = true ∧ PySem.W.excIn K a He.veBase "ValueError.__new__" = true ∧ PySem.W.subIn K (.ref a) (.type "BaseException") = some true ∧ PySem.W.typeIn K (.ref a) = some (.type "type")
  ecn : ∀ c C, G.ec c = some C → ∃ x, G.en c = some x ∧ c < G.t.nc
  exm : ∀ c y b, G.t.exm c y = some b → ∃ C D, G.ec c = some C ∧ mg y = some (.ref D) ∧ PySem.W.exmOne K (.ref C) (.ref D) = some b
  isn : ∀ c y b, G.t.isn c y = some b → ∃ C v u, G.ec c = some C ∧ ExcC K C ∧ RelV v u ∧ ClsV v u ∧ (mg y = some u ∨ (mg y = none ∧ bootBuiltins y = some u ∧ y ≠ "__name__")) ∧ PySem.W.kitOne K (.ref C) u = some b
/-- the static side of a def's or a block's frame: slots, scope, cells that may be stored -/
structure SE where
  N : List Str
  sc : Scope
  cs : List Str
  /-- in an except suite -/
  hot : Bool
structure SEok (S : SE) : Prop where
  nd : S.N.Nodup
  kd : S.sc.kind = .function
  dbg : ∀ x ∈ S.N, (x == ("__debug__" : Str)) = false ∧ (x == ("__classdict__" : Str)) = false
/-- outside of except suites -/
structure XCold (G : Gs) (k : Nat) (X : Cx) : Prop where
  fns : FnsOk G X.prog X.w X.K X.mg X.base k
  hfn : FnsHot G X.prog X.w X.K X.mg X.base k
  room : Room k X.A
  calm : X.calm = true
  fai : ∀ c, G.fa (1000000 + c) = none
/-- in such a suite -/
structure XHot (G : Gs) (k : Nat) (X : Cx) (c : Nat) (C : Addr) (p : Addr × Obj) : Prop where
  ec : G.ec c = some C
  ok : Caught C p.2
  pin : p ∈ X.pn
  fai : ∀ n b, G.fa (1000000 + n) = some b → n = c ∧ b = p.1
  room : L2H.RoomH k X.A
  hfn : ∀ f fd, G.T f = some fd → G.t.hot f = true → ∃ a fdat ps, G.fa f = some a ∧ PySem.W.keepIn X.K (.ref a) = true ∧ Binds X.K fdat ps [] ∧ ps.length = fd.ps ∧ FnK X.prog X.w X.K X.mg X.base (L2.CX X.prog X.w) k a fdat ps p (spO G X.K k f)
structure XOk (G : Gs) (k : Nat) (S : SE) (X : Cx) : Prop where
  cold : S.hot = false → XCold G k X
  hot : S.hot = true → ∃ c C p, XHot G k X c C p
  glo : GlobOk G X.K X.mg
  hN : X.N = S.N
  se : SEok S
  hsc : X.env.scope = S.sc
  small : X.A.units + 200 < cLine
  fn : ∀ x ∈ S.cs, X.fn x = true

theorem R.bind_ok {α β : Type} {r : R α} {f : α → R β} {b : β} (h : r.bind f = .ok b) : ∃ a, r = .ok a ∧ f a = .ok b := by
  cases r with
  | ok a => exact ⟨a, rfl, h⟩
  | exc c ρ => cases h
  | bad => cases h
theorem R.bind_exc {α β : Type} {r : R α} {f : α → R β} {c : Nat} {ρ : En} (h : r.bind f = .exc c ρ) : r = .exc c ρ ∨ ∃ a, r = .ok a ∧ f a = .exc c ρ := by
  cases r with
  | ok a => exact .inr ⟨a, rfl, h⟩
  | exc c ρ => cases h; exact .inl rfl
  | bad => cases h
theorem opt_exc {α β : Type} {x : Option α} {f : α → R β} {c : Nat} {ρ : En} (h : opt x f = .exc c ρ) : ∃ a, x = some a ∧ f a = .exc c ρ := by
  cases x with
  | some a => exact ⟨a, rfl, h⟩
  | none => cases h
theorem opt_ok {α β : Type} {x : Option α} {f : α → R β} {b : β} (h : opt x f = .ok b) : ∃ a, x = some a ∧ f a = .ok b := by
  cases x with
  | some a => exact ⟨a, rfl, h⟩
  | none => cases h
theorem R.ok_inj {α : Type} {a b : α} (h : R.ok a = R.ok b) : a = b := by cases h; rfl
section
variable (G : Gs) (k : Nat)
abbrev Gs.ev (e : Ex) (ρ : En) : R (D × Bool × En) := evE G.mf (G.cf k) e ρ
def tE (K : PySem.W.Frag) (e : Ex) : TE := fun σ H Q => ∃ S ρ d fr ρ', Rl K G.fa S σ ρ H ∧ G.ev k e ρ = .ok (d, fr, ρ') ∧
  ∀ v H' S', Go K G.fa σ S ρ H S' ρ' H' → RV K G.fa σ ρ' H S' H' v d fr → Q v H'
/-- as an operand -/
def tO (K : PySem.W.Frag) (e : Ex) : TE := fun σ H Q => ∃ S ρ o ρ', Rl K G.fa S σ ρ H ∧ od e ρ (G.ev k e ρ) = .ok (o, ρ') ∧
  ∀ v H' S', Go K G.fa σ S ρ H S' ρ' H' → OV K G.fa S' σ v o → Q v H'
/-- laid by -/
def tV (K : PySem.W.Frag) (e : Ex) : TE := fun σ H Q => ∃ S ρ d fr ρ', Rl K G.fa S σ ρ H ∧ G.ev k e ρ = .ok (d, fr, ρ') ∧
  ∀ v H' S', Go K G.fa σ S ρ H S' ρ' H' → Rep K G.fa S' v d → Q v H'
/-- as a test -/
def tT (K : PySem.W.Frag) (e : Ex) : TT := fun σ H Q => ∃ S ρ x b, Rl K G.fa S σ ρ H ∧ od e ρ (G.ev k e ρ) = .ok x ∧ (der x.2 x.1).bind truD = some b ∧
  ∀ H' S', Go K G.fa σ S ρ H S' x.2 H' → Q b H'
def tOs (K : PySem.W.Frag) (es : List Ex) : TA := fun σ H Q => ∃ S ρ os ρ', Rl K G.fa S σ ρ H ∧ evOs G.mf (G.cf k) es ρ = .ok (os, ρ') ∧
  ∀ vs H' S', Go K G.fa σ S ρ H S' ρ' H' → OVs K G.fa S' σ vs os → Q vs H'
def tVs (K : PySem.W.Frag) (es : List Ex) : TA := fun σ H Q => ∃ S ρ ds ρ', Rl K G.fa S σ ρ H ∧ evVs G.mf (G.cf k) es ρ = .ok (ds, ρ') ∧
  ∀ vs H' S', Go K G.fa σ S ρ H S' ρ' H' → Reps K G.fa S' vs ds → Q vs H'
end
theorem _root_.L2.PE.weak {X : Cx} {e : Expr} {t t' : TE} (h : PE X e t) (w : ∀ σ H Q, t' σ H Q → t σ H Q) : PE X e t' := ⟨fun pins s σ H Q I q => h.run pins s σ H Q I (w σ H Q q)⟩
theorem _root_.L2.PT.weak {X : Cx} {e : Expr} {t t' : TT} (h : PT X e t) (w : ∀ σ H Q, t' σ H Q → t σ H Q) : PT X e t' := ⟨fun pins s σ H Q I q => h.run pins s σ H Q I (w σ H Q q)⟩
theorem _root_.L2.PA.weak {X : Cx} {e : List Expr} {t t' : TA} (h : PA X e t) (w : ∀ σ H Q, t' σ H Q → t σ H Q) : PA X e t' := ⟨fun pos pins s σ H Q I q => h.run pos pins s σ H Q I (w σ H Q q)⟩
section
variable {G : Gs} {k : Nat} {N : List Str} {sc : Scope} {X : Cx} {pos : Pos} {e a b c : Ex} {es : List Ex} {x xa xb xc : Expr} {xs : List Expr}
theorem pe_v (h : PE X x (tE G k X.K e)) : PE X x (tV G k X.K e) := h.weak fun σ H Q ⟨S, ρ, d, fr, ρ', rl, ev, post⟩ =>
  ⟨S, ρ, d, fr, ρ', rl, ev, fun v H' S' g rv => let ⟨S2, g2, r2⟩ := rv.frz g; post v H' S2 g2 r2⟩
theorem od_ne {ρ : En} {r : R (D × Bool × En)} (h : ∀ i, e ≠ .nm i) : od e ρ r = r.bind fun x => .ok (.v x.1, x.2.2) := by
  cases e <;> first | rfl | exact absurd rfl (h _)
theorem od_v {ρ : En} {r : R (D × Bool × En)} {x : Od × En} (ev : od e ρ r = .ok x) (h : ∀ i, e ≠ .nm i) : ∃ d fr ρ', r = .ok (d, fr, ρ') ∧ x = (.v d, ρ') := by
  rw [od_ne h] at ev
  obtain ⟨⟨d, fr, ρ'⟩, e1, e2⟩ := R.bind_ok ev
  cases e2
  exact ⟨d, fr, ρ', e1, rfl⟩
theorem pe_o (h : PE X x (tE G k X.K e)) (ne : ∀ i, e ≠ .nm i) : PE X x (tO G k X.K e) := (pe_v h).weak fun σ H Q ⟨S, ρ, o, ρ', rl, ev, post⟩ => by
  rw [od_ne ne] at ev
  obtain ⟨⟨d, fr, ρ1⟩, e1, e2⟩ := R.bind_ok ev
  cases e2
  exact ⟨S, ρ, d, fr, ρ1, rl, e1, fun v H' S' g r => post v H' S' g r⟩
/-- a slot -/
theorem pe_nmO {i : Nat} {n : Str} (hv : PE X (.Name n pos) (tVar i)) : PE X (.Name n pos) (tO G k X.K (.nm i)) := hv.weak fun σ H Q ⟨S, ρ, o, ρ', rl, ev, post⟩ => by
  simp only [od] at ev
  split at ev
  · rename_i w q
    cases ev
    cases w with
    | val d =>
      obtain ⟨v, e1, _⟩ := rl.val i d q
      exact ⟨v, e1, post v H S (.refl rl) e1⟩
    | own d =>
      obtain ⟨v, e1, _⟩ := rl.own i d q
      exact ⟨_, e1, post _ H S (.refl rl) e1⟩
  · cases ev
theorem set_same {σ : L2.St} {ρ : En} {i : Nat} {v : Option SV} {w : SV} (h : ρ[i]? = some (some w)) : (ρ.set i v)[i]? = some v := by
  have := (List.getElem?_eq_some_iff.mp h).1
  rw [List.getElem?_set_self this]
/-- a slot's own list laid by -/
theorem Rl.frzSlot {K : PySem.W.Frag} {fa : FA} {S H : Hp} {σ : L2.St} {ρ : En} {i : Nat} {d : D} (rl : Rl K fa S σ ρ H) (q : ρ[i]? = some (some (.own d))) :
    ∃ v S', σ[i]? = some (some v) ∧ Go K fa σ S ρ H S' (ρ.set i (some (.val d))) H ∧ Rep K fa S' v d := by
  obtain ⟨a, e1, h0, vs, ds, rfl, h1, h2⟩ := rl.own i d q
  have sub : Sub S (upd S a (.lst vs)) := fun b o e => by
    rw [upd_ne]; exact e
    rintro rfl
    rw [h0] at e; cases e
  have hi := (List.getElem?_eq_some_iff.mp q).1
  have set_ne : ∀ {j : Nat} {w : Option SV}, j ≠ i → (ρ.set i w)[j]? = ρ[j]? := fun h => List.getElem?_set_ne (Ne.symm h)
  refine ⟨.ref a, upd S a (.lst vs), e1, ⟨⟨?_, by simpa using rl.len, ?_, ?_, ?_⟩, sub, fun _ _ e _ => e, ?_, ?_, fun _ h => h⟩, .lst (.inl upd_same) (h2.mono sub)⟩
  · intro b o e
    by_cases z : b = a
    · subst z; rw [upd_same] at e; cases e; exact h1
    · rw [upd_ne z] at e; exact rl.sub _ _ e
  · intro j d' e
    by_cases z : j = i
    · subst z
      rw [List.getElem?_set_self hi] at e
      cases e
      exact ⟨_, e1, .lst (.inl upd_same) (h2.mono sub)⟩
    · rw [set_ne z] at e
      obtain ⟨v, q1, q2⟩ := rl.val j d' e
      exact ⟨v, q1, q2.mono sub⟩
  · intro j d' e
    by_cases z : j = i
    · subst z
      rw [List.getElem?_set_self hi] at e
      cases e
    · rw [set_ne z] at e
      obtain ⟨b, q1, q2, ws, es, q3, q4, q5⟩ := rl.own j d' e
      refine ⟨b, q1, ?_, ws, es, q3, q4, q5.mono sub⟩
      rw [upd_ne]; exact q2
      rintro rfl
      exact z (rl.dis j i _ _ _ e q q1 e1)
  · intro j j' d' d'' b e1' e2' e3 e4
    by_cases z : j = i
    · subst z; rw [List.getElem?_set_self hi] at e1'; cases e1'
    · by_cases z' : j' = i
      · subst z'; rw [List.getElem?_set_self hi] at e2'; cases e2'
      · rw [set_ne z] at e1'
        rw [set_ne z'] at e2'
        exact rl.dis j j' _ _ _ e1' e2' e3 e4
  · rintro b ⟨j, d', e, f⟩
    by_cases z : j = i
    · subst z; rw [List.getElem?_set_self hi] at e; cases e
    · rw [set_ne z] at e
      exact ⟨j, d', e, f⟩
  · intro b o e
    by_cases z : b = a
    · subst z; exact .inr (.inr ⟨i, _, q, e1⟩)
    · rw [upd_ne z] at e; exact .inl e
theorem pe_nm {i : Nat} {n : Str} (hv : PE X (.Name n pos) (tVar i)) : PE X (.Name n pos) (tE G k X.K (.nm i)) := hv.weak fun σ H Q ⟨S, ρ, d, fr, ρ', rl, ev, post⟩ => by
  simp only [Gs.ev, evE] at ev
  split at ev
  · rename_i d' q
    cases ev
    obtain ⟨v, e1, e2⟩ := rl.val i _ q
    exact ⟨v, e1, post v H S (.refl rl) e2⟩
  · rename_i d' q
    cases ev
    obtain ⟨v, S', e1, g, r⟩ := rl.frzSlot q
    exact ⟨v, e1, post v H S' g r⟩
  · cases ev
theorem rep_const {K : PySem.W.Frag} {fa : FA} {S : Hp} {v : V} {d : D} (h : Rep K fa (fun _ => none) v d) : Rep K fa S v d := h.mono fun _ _ e => by cases e
theorem pe_const {d : D} {v : V} (h : PE X x (tC v)) (r : Rep X.K G.fa (fun _ => none) v d) (ev : ∀ ρ, G.ev k e ρ = .ok (d, false, ρ)) : PE X x (tE G k X.K e) := h.weak fun σ H Q ⟨S, ρ, d', fr, ρ', rl, ev', post⟩ => by
  rw [ev] at ev'
  cases ev'
  exact post v H S (.refl rl) (rep_const r)
theorem pa_Os_nil : PA X [] (tOs G k X.K []) := pa_nil.weak fun σ H Q ⟨S, ρ, os, ρ', rl, ev, post⟩ => by
  cases ev
  exact post [] H S (.refl rl) .nil
theorem pa_Os (h : PE X x (tO G k X.K e)) (hs : PA X xs (tOs G k X.K es)) (st : starEach (x :: xs) X.env = (false, eval x X.env) :: starEach xs X.env) : PA X (x :: xs) (tOs G k X.K (e :: es)) :=
  (pa_cons h hs st).weak fun σ H Q ⟨S, ρ, os, ρ', rl, ev, post⟩ => by
    obtain ⟨⟨o, ρ1⟩, e1, ev⟩ := R.bind_ok ev
    obtain ⟨⟨os', ρ2⟩, e2, ev⟩ := R.bind_ok ev
    cases ev
    exact ⟨S, ρ, o, ρ1, rl, e1, fun v H1 S1 g1 ov => ⟨S1, ρ1, os', ρ2, g1.rl, e2, fun vs H2 S2 g2 ovs => post _ H2 S2 (g1.trans g2) (.cons (ov.mono g2.sub) ovs)⟩⟩
theorem pa_Vs_nil : PA X [] (tVs G k X.K []) := pa_nil.weak fun σ H Q ⟨S, ρ, os, ρ', rl, ev, post⟩ => by
  cases ev
  exact post [] H S (.refl rl) .nil
theorem pa_Vs (h : PE X x (tE G k X.K e)) (hs : PA X xs (tVs G k X.K es)) (st : starEach (x :: xs) X.env = (false, eval x X.env) :: starEach xs X.env) : PA X (x :: xs) (tVs G k X.K (e :: es)) :=
  (pa_cons (pe_v h) hs st).weak fun σ H Q ⟨S, ρ, os, ρ', rl, ev, post⟩ => by
    obtain ⟨⟨o, fr, ρ1⟩, e1, ev⟩ := R.bind_ok ev
    obtain ⟨⟨os', ρ2⟩, e2, ev⟩ := R.bind_ok ev
    cases ev
    exact ⟨S, ρ, o, fr, ρ1, rl, e1, fun v H1 S1 g1 ov => ⟨S1, ρ1, os', ρ2, g1.rl, e2, fun vs H2 S2 g2 ovs => post _ H2 S2 (g1.trans g2) (.cons (ov.mono g2.sub) ovs)⟩⟩
theorem evVs_len {mf : Nat → Option (List Bool)} {cf : Nat → List SV → CR} : ∀ {es : List Ex} {ρ ρ' : En} {ds : List D}, evVs mf cf es ρ = .ok (ds, ρ') → ds.length = es.length
  | [], _, _, _, h => by simp only [evVs] at h; cases h; rfl
  | e :: es, _, _, _, h => by
    simp only [evVs] at h
    obtain ⟨x, _, h⟩ := R.bind_ok h
    obtain ⟨y, h1, h⟩ := R.bind_ok h
    cases h
    simp [evVs_len (ds := y.1) (ρ' := y.2) h1]
theorem le_line {n : Nat} (h : n ≤ 1000) : n ≤ sizeLine := Nat.le_trans h (by decide)
theorem pe_tupE {n : Nat} (h : PA X xs (tVs G k X.K es)) (hl : es.length ≤ 1000) : PE X (.Tuple xs n pos) (tE G k X.K (.tup es)) := (pe_tupF h).weak fun σ H Q ⟨S, ρ, d, fr, ρ', rl, ev, post⟩ => by
  simp only [Gs.ev, evE] at ev
  obtain ⟨⟨ds, ρ1⟩, e1, ev⟩ := R.bind_ok ev
  cases ev
  refine ⟨S, ρ, ds, ρ1, rl, e1, fun vs H1 S1 g r => ⟨le_line (by rw [r.length, evVs_len e1]; exact hl), fun p o n hd => ?_⟩⟩
  obtain ⟨g2, r2⟩ := Gr.tupF g.rl.sub n hd r
  exact post _ _ _ (g.trans (g2.go g.rl)) r2
theorem pe_lstE (h : PA X xs (tVs G k X.K es)) (hl : es.length ≤ 1000) : PE X (.List xs pos) (tE G k X.K (.lst es)) := (pe_lst h).weak fun σ H Q ⟨S, ρ, d, fr, ρ', rl, ev, post⟩ => by
  simp only [Gs.ev, evE] at ev
  obtain ⟨⟨ds, ρ1⟩, e1, ev⟩ := R.bind_ok ev
  cases ev
  refine ⟨S, ρ, ds, ρ1, rl, e1, fun vs H1 S1 g r => ⟨le_line (by rw [r.length, evVs_len e1]; exact hl), fun p n => ?_⟩⟩
  exact post _ _ _ (g.trans ((Gr.fresh g.rl.sub n).go g.rl)) (RV0.lift g (rv0T n (g.rl.sub.none n) r))
theorem pe_binE {op : Operator} (ha : PE X xa (tO G k X.K a)) (hb : PE X xb (tO G k X.K b)) (ho : okBin op = true) : PE X (.BinOp xa op xb pos) (tE G k X.K (.bin op a b)) :=
  (pe_op (ob_bin (fa := G.fa) ho) ha hb).weak fun σ H Q ⟨S, ρ, d, fr, ρ', rl, ev, post⟩ => by
  simp only [Gs.ev, evE] at ev
  obtain ⟨⟨o1, ρ1⟩, e1, ev⟩ := R.bind_ok ev
  obtain ⟨⟨o2, ρ2⟩, e2, ev⟩ := R.bind_ok ev
  obtain ⟨p, e3, ev⟩ := opt_ok ev
  obtain ⟨q, e4, ev⟩ := opt_ok ev
  obtain ⟨z, e5, ev⟩ := opt_ok ev
  cases ev
  exact ⟨S, ρ, o1, ρ1, rl, e1, fun v1 H1 S1 g1 ov1 => ⟨S1, ρ1, o2, ρ2, g1.rl, e2, fun v2 H2 S2 g2 ov2 => ⟨S2, p, q, z, g2.rl.sub, (ov1.mono g2.sub).get g2.rl e3, ov2.get g2.rl e4, e5,
    fun v H' S' gr rv => post v H' S' ((g1.trans g2).trans (gr.go g2.rl)) (RV0.lift (g1.trans g2) rv)⟩⟩⟩
theorem pe_cmpE {op : CmpOp} (hu : X.A.units + 200 < cLine) (ha : PE X xa (tO G k X.K a)) (hb : PE X xb (tO G k X.K b)) (hm : behindInMarks op xb = false) : PE X (.Compare xa [op] [xb] pos) (tE G k X.K (.cmp op a b)) :=
  (pe_cmpR (oc_cmp (fa := G.fa) hu op) ha hb hm).weak fun σ H Q ⟨S, ρ, d, fr, ρ', rl, ev, post⟩ => by
  simp only [Gs.ev, evE] at ev
  obtain ⟨⟨o1, ρ1⟩, e1, ev⟩ := R.bind_ok ev
  obtain ⟨⟨o2, ρ2⟩, e2, ev⟩ := R.bind_ok ev
  obtain ⟨p, e3, ev⟩ := opt_ok ev
  obtain ⟨q, e4, ev⟩ := opt_ok ev
  obtain ⟨z, e5, ev⟩ := opt_ok ev
  cases ev
  exact ⟨S, ρ, o1, ρ1, rl, e1, fun v1 H1 S1 g1 ov1 => ⟨S1, ρ1, o2, ρ2, g1.rl, e2, fun v2 H2 S2 g2 ov2 => ⟨S2, p, q, z, g2.rl.sub, (ov1.mono g2.sub).get g2.rl e3, ov2.get g2.rl e4, e5,
    post _ H2 S2 (g1.trans g2) (.bl _)⟩⟩⟩
/-- the same as a test -/
theorem pt_cmpE {op : CmpOp} (hu : X.A.units + 200 < cLine) (ha : PE X xa (tO G k X.K a)) (hb : PE X xb (tO G k X.K b)) (hm : behindInMarks op xb = false) : PT X (.Compare xa [op] [xb] pos) (tT G k X.K (.cmp op a b)) :=
  (pt_cmpR (oc_cmp (fa := G.fa) hu op) ha hb hm).weak fun σ H Q ⟨S, ρ, x, t, rl, ev, et, post⟩ => by
  obtain ⟨d, fr, ρ', ew, ex⟩ := od_v (e := .cmp op a b) (r := G.ev k (.cmp op a b) ρ) ev (by intro i h; cases h)
  subst ex
  clear ev
  have ev := ew
  simp only [Gs.ev, evE] at ev
  obtain ⟨⟨o1, ρ1⟩, e1, ev⟩ := R.bind_ok ev
  obtain ⟨⟨o2, ρ2⟩, e2, ev⟩ := R.bind_ok ev
  obtain ⟨p, e3, ev⟩ := opt_ok ev
  obtain ⟨q, e4, ev⟩ := opt_ok ev
  obtain ⟨z, e5, ev⟩ := opt_ok ev
  cases ev
  cases et
  exact ⟨S, ρ, o1, ρ1, rl, e1, fun v1 H1 S1 g1 ov1 => ⟨S1, ρ1, o2, ρ2, g1.rl, e2, fun v2 H2 S2 g2 ov2 => ⟨S2, p, q, _, g2.rl.sub, (ov1.mono g2.sub).get g2.rl e3, ov2.get g2.rl e4, e5,
    _, rfl, post H2 S2 (g1.trans g2)⟩⟩⟩
/-- a test by truth -/
theorem pt_tr (h : PE X x (tO G k X.K e)) (he : ∀ whole, isTrue x X.env whole = (do let v ← whole; standAt x.pos; holding [v] (truthy v))) : PT X x (tT G k X.K e) :=
  (pt_truth h he).weak fun σ H Q ⟨S, ρ, x, t, rl, ev, et, post⟩ => by
  obtain ⟨d, e1, e2⟩ := Option.bind_eq_some_iff.mp et
  exact ⟨S, ρ, x.1, x.2, rl, ev, fun v H' S' g ov => ⟨t, tru_of g.rl.sub (ov.get g.rl e1) e2, post H' S' g⟩⟩
theorem pt_notT (h : PT X xa (tT G k X.K a)) : PT X (.UnaryOp .Not xa pos) (tT G k X.K (.not a)) := (pt_not h).weak fun σ H Q ⟨S, ρ, x, t, rl, ev, et, post⟩ => by
  obtain ⟨d, fr, ρ', ew, ex⟩ := od_v (e := .not a) (r := G.ev k (.not a) ρ) ev (by intro i h; cases h)
  subst ex
  clear ev
  have ev := ew
  simp only [Gs.ev, evE] at ev
  obtain ⟨z, e1, ev⟩ := R.bind_ok ev
  obtain ⟨u, e2, ev⟩ := opt_ok ev
  cases ev
  cases et
  exact ⟨S, ρ, z, u, rl, e1, e2, fun H' S' g => post H' S' g⟩
theorem pe_ixE (ha : PE X xa (tO G k X.K a)) (hb : PE X xb (tO G k X.K b)) (hs : PlainIx xb) : PE X (.Subscript xa xb pos) (tE G k X.K (.ix a b)) :=
  (pe_ix (ob_ix (fa := G.fa)) ha hb hs).weak fun σ H Q ⟨S, ρ, d, fr, ρ', rl, ev, post⟩ => by
  simp only [Gs.ev, evE] at ev
  obtain ⟨⟨o1, ρ1⟩, e1, ev⟩ := R.bind_ok ev
  obtain ⟨⟨o2, ρ2⟩, e2, ev⟩ := R.bind_ok ev
  obtain ⟨p, e3, ev⟩ := opt_ok ev
  obtain ⟨q, e4, ev⟩ := opt_ok ev
  obtain ⟨z, e5, ev⟩ := opt_ok ev
  cases ev
  exact ⟨S, ρ, o1, ρ1, rl, e1, fun v1 H1 S1 g1 ov1 => ⟨S1, ρ1, o2, ρ2, g1.rl, e2, fun v2 H2 S2 g2 ov2 => ⟨S2, p, q, _, g2.rl.sub, (ov1.mono g2.sub).get g2.rl e3, ov2.get g2.rl e4, e5,
    fun v r => post _ H2 S2 (g1.trans g2) r⟩⟩⟩
end
end G

/-! expressions, further -/
namespace G
open PySem PySem.Spec L2
section
variable {G : Gs} {k : Nat} {N : List Str} {sc : Scope} {X : Cx} {pos p : Pos} {e a b c f : Ex} {es : List Ex} {x y xa xb xc : Expr} {xs : List Expr}
/-- a call of a built-in: what stands between the arguments and the answer -/
theorem bi_mid {bi : Bi} {σ : L2.St} {H : Hp} {Q : VK} (h : tE G k X.K (.bi bi es) σ H Q) : tCB (rCl X.K G.fa (biD bi)) (tOs G k X.K es) σ H Q := by
  obtain ⟨S, ρ, d, fr, ρ', rl, ev, post⟩ := h
  simp only [Gs.ev, evE] at ev
  obtain ⟨⟨os, ρ1⟩, e1, ev⟩ := R.bind_ok ev
  obtain ⟨ds, e2, ev⟩ := opt_ok ev
  obtain ⟨z, e3, ev⟩ := opt_ok ev
  cases ev
  exact ⟨S, ρ, os, ρ1, rl, e1, fun vs H1 S1 g ov => ⟨S1, ds, z, g.rl.sub, ov.get g.rl e2, e3, fun v H' S' gr rv => post v H' S' (g.trans (gr.go g.rl)) (RV0.lift g rv)⟩⟩
theorem pe_biB {bi : Bi} {id : String} {n : Str} (hc : CallR X (.builtin id) (rCl X.K G.fa (biD bi))) (hg : Gl X n) (hm : X.mg n = none) (hv : bootBuiltins n = some (.builtin id)) (ha : PA X (x :: xs) (tOs G k X.K es)) (hn : n ≠ "__name__") (hd : (n == ("__debug__" : Str)) = false)
    (he : starEach (x :: xs) X.env = (false, eval x X.env) :: starEach xs X.env) (hpl : (backTo pos (starEach xs X.env)).any (·.1) = false) : PE X (.Call (.Name n p) (x :: xs) [] pos) (tE G k X.K (.bi bi es)) :=
  (pe_callB hc hg hm hv ha hn hd he hpl).weak fun _ _ _ h => bi_mid h
theorem pe_biT {bi : Bi} {T : String} {n : Str} (hc : CallR X (.type T) (rCl X.K G.fa (biD bi))) (hg : Gl X n) (hm : X.mg n = none) (hv : bootBuiltins n = some (.type T)) (ha : PA X (x :: xs) (tOs G k X.K es)) (hn : n ≠ "__name__") (hd : (n == ("__debug__" : Str)) = false)
    (he : starEach (x :: xs) X.env = (false, eval x X.env) :: starEach xs X.env) (hpl : (backTo pos (starEach xs X.env)).any (·.1) = false) : PE X (.Call (.Name n p) (x :: xs) [] pos) (tE G k X.K (.bi bi es)) :=
  (pe_callTy hc hg hm hv ha hn hd he hpl).weak fun _ _ _ h => bi_mid h
/-! ### isinstance -/
def tyOf : D → Option String
  | .non => some "NoneType"
  | .bl _ => some "bool"
  | .int _ => some "int"
  | .str _ => some "str"
  | .tup _ => some "tuple"
  | .lst _ => some "list"
  | _ => none
def tyN : Nat → Option String
  | 0 => some "int"
  | 1 => some "bool"
  | 2 => some "str"
  | 3 => some "tuple"
  | 4 => some "list"
  | _ => none
theorem tyX_of {K : PySem.W.Frag} {fa : FA} {S H : Hp} {v : V} {d : D} {t : String} (sub : Sub S H) (h : RepB K fa S H v d) (e : tyOf d = some t) : TyX K H v (.type t) := by
  unfold tyOf at e
  split at e
  · cases e; have := h.non; subst this; exact .base .non
  · cases e; have := h.bl; subst this; exact .base (.bl _)
  · cases e; have := h.int; subst this; exact .base (.int _)
  · cases e; obtain ⟨rfl, _⟩ := h.str; exact .base (.str _)
  · cases e
    obtain ⟨a, vs, rfl, t, _, _⟩ := h.tup sub
    rcases t with (t | ⟨o, t⟩) | ⟨o, its, n, t, c, _⟩
    · exact .base (.tup t)
    · exact .fTuple t
    · exact .kTuple t c
  · cases e
    obtain ⟨a, vs, rfl, t, _⟩ := h.lst sub
    rcases t with t | ⟨o, t⟩
    · exact .base (.lst t)
    · exact .base (.frz t)
  · cases e
theorem kit_is {K : PySem.W.Frag} {d : D} {t n : String} {j : Nat} (e : tyOf d = some t) (e' : tyN j = some n) : PySem.W.kitOne K (.type t) (.type n) = some (isT1 d j) := by
  unfold tyN at e'
  split at e' <;> cases e' <;> (unfold tyOf at e; split at e <;> cases e <;> first | exact kit_ty (r := true) (by decide +kernel) | exact kit_ty (r := false) (by decide +kernel))
theorem pe_isi {j : Nat} {T : String} {n m : Str} {q : Pos} (ha : PE X x (tO G k X.K a)) (hg : Gl X n) (hm : X.mg n = none) (hv : bootBuiltins n = some (.builtin "isinstance")) (hn : n ≠ "__name__") (hd : (n == ("__debug__" : Str)) = false)
    (hg' : Gl X m) (hm' : X.mg m = none) (hv' : bootBuiltins m = some (.type T)) (hn' : m ≠ "__name__") (hd' : (m == ("__debug__" : Str)) = false) (ht : tyN j = some T)
    (he : starEach [x, .Name m q] X.env = (false, eval x X.env) :: starEach [.Name m q] X.env) (he' : starEach [.Name m q] X.env = (false, eval (.Name m q) X.env) :: starEach [] X.env) : PE X (.Call (.Name n p) [x, .Name m q] [] pos) (tE G k X.K (.isi a [j])) := by
  refine (pe_callB call_isi hg hm hv (pa_cons ha (pa_cons (pe_bltn hg' hm' hv' (v := .ty T) rfl hn' hd') pa_nil he') he) hn hd he (by rw [he']; rfl)).weak fun σ H Q ⟨S, ρ, d, fr, ρ', rl, ev, post⟩ => ?_
  simp only [Gs.ev, evE] at ev
  obtain ⟨⟨o, ρ1⟩, e1, ev⟩ := R.bind_ok ev
  obtain ⟨p, e2, ev⟩ := opt_ok ev
  split at ev
  · rename_i ok
    cases ev
    refine ⟨S, ρ, o, ρ1, rl, e1, fun v H1 S1 g ov => ?_⟩
    have hb := ov.get g.rl e2
    have hp : ∃ t, tyOf p = some t := by cases p <;> first | exact ⟨_, rfl⟩ | exact absurd ok (by simp [tyOk])
    obtain ⟨t, et⟩ := hp
    refine ⟨v, .ty T, _, _, _, rfl, .ty T, tyX_of g.rl.sub hb et, kit_is et ht, ?_⟩
    have := post (.bl (isT1 p j)) H1 S1 g
    simp only [List.any_cons, List.any_nil, Bool.or_false] at this
    exact this (.bl _)
  · cases ev
/-! ### and, or -/
theorem frz_env {K : PySem.W.Frag} {fa : FA} {S H : Hp} {σ : L2.St} {ρ : En} (rl : Rl K fa S σ ρ H) (o : Od) : ∃ S', Go K fa σ S ρ H S' (frz1 o ρ) H := by
  cases o with
  | v d' => exact ⟨S, .refl rl⟩
  | s i =>
    simp only [frz1]
    split
    · rename_i d q
      obtain ⟨v', S', e1, g, r⟩ := rl.frzSlot q
      exact ⟨S', g⟩
    · exact ⟨S, .refl rl⟩
theorem frz_of {K : PySem.W.Frag} {fa : FA} {S H : Hp} {σ : L2.St} {ρ : En} {o : Od} {v : V} {d : D} (rl : Rl K fa S σ ρ H) (ov : OV K fa S σ v o) (e : der ρ o = some d) :
    ∃ S', Go K fa σ S ρ H S' (frz1 o ρ) H ∧ Rep K fa S' v d := by
  cases o with
  | v d' => cases e; exact ⟨S, .refl rl, ov⟩
  | s i =>
    have ov : σ[i]? = some (some v) := ov
    simp only [der] at e
    split at e
    · rename_i w q
      cases e
      cases w with
      | val d =>
        obtain ⟨v', e1, e2⟩ := rl.val i d q
        rw [ov] at e1; cases e1
        refine ⟨S, ?_, e2⟩
        simp only [frz1, q]
        exact .refl rl
      | own d =>
        obtain ⟨v', S', e1, g, r⟩ := rl.frzSlot q
        rw [ov] at e1; cases e1
        refine ⟨S', ?_, r⟩
        simp only [frz1, q]
        exact g
    · cases e
theorem pe_and1 (ha : PE X xa (tO G k X.K a)) : PE X (.BoolOp .And [xa] pos) (tE G k X.K (.and [a])) := (pe_one ha).weak fun σ H Q ⟨S, ρ, d, fr, ρ', rl, ev, post⟩ => by
  simp only [Gs.ev, evE, evA] at ev
  obtain ⟨⟨o, ρ1⟩, e1, ev⟩ := R.bind_ok ev
  obtain ⟨p, e2, ev⟩ := opt_ok ev
  cases ev
  refine ⟨S, ρ, o, ρ1, rl, e1, fun v H1 S1 g ov => ?_⟩
  obtain ⟨S', g', r⟩ := frz_of g.rl ov e2
  exact post v H1 S' (g.trans g') r
theorem pe_or1 (ha : PE X xa (tO G k X.K a)) : PE X (.BoolOp .Or [xa] pos) (tE G k X.K (.or [a])) := (pe_one ha).weak fun σ H Q ⟨S, ρ, d, fr, ρ', rl, ev, post⟩ => by
  simp only [Gs.ev, evE, evA] at ev
  obtain ⟨⟨o, ρ1⟩, e1, ev⟩ := R.bind_ok ev
  obtain ⟨p, e2, ev⟩ := opt_ok ev
  cases ev
  refine ⟨S, ρ, o, ρ1, rl, e1, fun v H1 S1 g ov => ?_⟩
  obtain ⟨S', g', r⟩ := frz_of g.rl ov e2
  exact post v H1 S' (g.trans g') r
theorem pe_andE (ha : PE X xa (tO G k X.K a)) (hb : PE X (.BoolOp .And (xb :: xs) pos) (tE G k X.K (.and (b :: es)))) : PE X (.BoolOp .And (xa :: xb :: xs) pos) (tE G k X.K (.and (a :: b :: es))) := (pe_andT ha hb).weak fun σ H Q ⟨S, ρ, d, fr, ρ', rl, ev, post⟩ => by
  simp only [Gs.ev, evE, evA] at ev
  obtain ⟨⟨o, ρ1⟩, e1, ev⟩ := R.bind_ok ev
  obtain ⟨p, e2, ev⟩ := opt_ok ev
  obtain ⟨t, e3, ev⟩ := opt_ok ev
  refine ⟨S, ρ, o, ρ1, rl, e1, fun v H1 S1 g ov => ⟨t, tru_of g.rl.sub (ov.get g.rl e2) e3, ?_⟩⟩
  cases t with
  | true =>
    simp only [if_true] at ev ⊢
    exact ⟨S1, ρ1, d, fr, ρ', g.rl, ev, fun v' H' S' g' rv => post v' H' S' (g.trans g') (by
      unfold RV at rv ⊢
      cases fr with
      | false => simpa using rv
      | true =>
        simp only [if_true] at rv ⊢
        obtain ⟨z, h1, h2, h3, h4⟩ := rv
        exact ⟨z, h1, h2, g.al z h3, h4⟩)⟩
  | false =>
    simp only [Bool.false_eq_true, if_false] at ev ⊢
    cases ev
    obtain ⟨S', g', r⟩ := frz_of g.rl ov e2
    exact post v H1 S' (g.trans g') r
theorem pe_orE (ha : PE X xa (tO G k X.K a)) (hb : PE X (.BoolOp .Or (xb :: xs) pos) (tE G k X.K (.or (b :: es)))) : PE X (.BoolOp .Or (xa :: xb :: xs) pos) (tE G k X.K (.or (a :: b :: es))) := (pe_orT ha hb).weak fun σ H Q ⟨S, ρ, d, fr, ρ', rl, ev, post⟩ => by
  simp only [Gs.ev, evE, evA] at ev
  obtain ⟨⟨o, ρ1⟩, e1, ev⟩ := R.bind_ok ev
  obtain ⟨p, e2, ev⟩ := opt_ok ev
  obtain ⟨t, e3, ev⟩ := opt_ok ev
  refine ⟨S, ρ, o, ρ1, rl, e1, fun v H1 S1 g ov => ⟨t, tru_of g.rl.sub (ov.get g.rl e2) e3, ?_⟩⟩
  cases t with
  | false =>
    simp only [Bool.false_eq_true, if_true, if_false] at ev ⊢
    exact ⟨S1, ρ1, d, fr, ρ', g.rl, ev, fun v' H' S' g' rv => post v' H' S' (g.trans g') (by
      unfold RV at rv ⊢
      cases fr with
      | false => simpa using rv
      | true =>
        simp only [if_true] at rv ⊢
        obtain ⟨z, h1, h2, h3, h4⟩ := rv
        exact ⟨z, h1, h2, g.al z h3, h4⟩)⟩
  | true =>
    simp only [Bool.true_eq_false, if_true, if_false] at ev ⊢
    cases ev
    obtain ⟨S', g', r⟩ := frz_of g.rl ov e2
    exact post v H1 S' (g.trans g') r
theorem pw_and1E (ha : PT X xa (tT G k X.K a)) : PW X (.BoolOp .And [xa] pos) (tT G k X.K (.and [a])) := ⟨fun wh pins s σ H Q I ⟨S, ρ, x, t, rl, ev, et, post⟩ => (pw_and1 ha).run wh pins s σ H Q I (by
  obtain ⟨d, fr, ρ', ew, ex⟩ := od_v (e := .and [a]) (r := G.ev k (.and [a]) ρ) ev (by intro i h; cases h)
  subst ex
  simp only [Gs.ev, evE, evA] at ew
  obtain ⟨⟨o, ρ1⟩, e1, ew⟩ := R.bind_ok ew
  obtain ⟨p, e2, ew⟩ := opt_ok ew
  cases ew
  have et : truD d = some t := et
  refine ⟨S, ρ, (o, ρ1), t, rl, e1, by rw [show der (o, ρ1).2 (o, ρ1).1 = some d from e2]; exact et, fun H' S' g => ?_⟩
  obtain ⟨S2, g2⟩ := frz_env g.rl o
  exact post H' S2 (g.trans g2))⟩
theorem pw_or1E (ha : PT X xa (tT G k X.K a)) : PW X (.BoolOp .Or [xa] pos) (tT G k X.K (.or [a])) := ⟨fun wh pins s σ H Q I ⟨S, ρ, x, t, rl, ev, et, post⟩ => (pw_or1 ha).run wh pins s σ H Q I (by
  obtain ⟨d, fr, ρ', ew, ex⟩ := od_v (e := .or [a]) (r := G.ev k (.or [a]) ρ) ev (by intro i h; cases h)
  subst ex
  simp only [Gs.ev, evE, evA] at ew
  obtain ⟨⟨o, ρ1⟩, e1, ew⟩ := R.bind_ok ew
  obtain ⟨p, e2, ew⟩ := opt_ok ew
  cases ew
  have et : truD d = some t := et
  refine ⟨S, ρ, (o, ρ1), t, rl, e1, by rw [show der (o, ρ1).2 (o, ρ1).1 = some d from e2]; exact et, fun H' S' g => ?_⟩
  obtain ⟨S2, g2⟩ := frz_env g.rl o
  exact post H' S2 (g.trans g2))⟩
theorem pw_andE (ha : PT X xa (tT G k X.K a)) (hb : PW X (.BoolOp .And (xb :: xs) pos) (tT G k X.K (.and (b :: es)))) : PW X (.BoolOp .And (xa :: xb :: xs) pos) (tT G k X.K (.and (a :: b :: es))) :=
  ⟨fun wh pins s σ H Q I ⟨S, ρ, x, t, rl, ev, et, post⟩ => (pw_and ha hb).run wh pins s σ H Q I (by
  obtain ⟨d, fr, ρ', ew, ex⟩ := od_v (e := .and (a :: b :: es)) (r := G.ev k (.and (a :: b :: es)) ρ) ev (by intro i h; cases h)
  subst ex
  simp only [Gs.ev, evE] at ew
  unfold evA at ew
  obtain ⟨⟨o, ρ1⟩, e1, ew⟩ := R.bind_ok ew
  obtain ⟨p, e2, ew⟩ := opt_ok ew
  obtain ⟨u, e3, ew⟩ := opt_ok ew
  refine ⟨S, ρ, (o, ρ1), u, rl, e1, by rw [show der (o, ρ1).2 (o, ρ1).1 = _ from e2]; exact e3, fun H' S' g => ?_⟩
  cases u with
  | true =>
    simp only [if_true] at ew ⊢
    exact ⟨S', ρ1, (.v d, ρ'), t, g.rl, by
      rw [od_ne (by intro i h; cases h)]
      simp only [Gs.ev, evE]
      rw [ew]; rfl, et, fun H2 S2 g2 => post H2 S2 (g.trans g2)⟩
  | false =>
    simp only [Bool.false_eq_true, if_false] at ew ⊢
    cases ew
    have et : truD d = some t := et
    rw [e3] at et
    cases et
    obtain ⟨S2, g2⟩ := frz_env g.rl o
    exact post H' S2 (g.trans g2))⟩
theorem pw_orE (ha : PT X xa (tT G k X.K a)) (hb : PW X (.BoolOp .Or (xb :: xs) pos) (tT G k X.K (.or (b :: es)))) : PW X (.BoolOp .Or (xa :: xb :: xs) pos) (tT G k X.K (.or (a :: b :: es))) :=
  ⟨fun wh pins s σ H Q I ⟨S, ρ, x, t, rl, ev, et, post⟩ => (pw_or ha hb).run wh pins s σ H Q I (by
  obtain ⟨d, fr, ρ', ew, ex⟩ := od_v (e := .or (a :: b :: es)) (r := G.ev k (.or (a :: b :: es)) ρ) ev (by intro i h; cases h)
  subst ex
  simp only [Gs.ev, evE] at ew
  unfold evA at ew
  obtain ⟨⟨o, ρ1⟩, e1, ew⟩ := R.bind_ok ew
  obtain ⟨p, e2, ew⟩ := opt_ok ew
  obtain ⟨u, e3, ew⟩ := opt_ok ew
  refine ⟨S, ρ, (o, ρ1), u, rl, e1, by rw [show der (o, ρ1).2 (o, ρ1).1 = _ from e2]; exact e3, fun H' S' g => ?_⟩
  cases u with
  | false =>
    simp only [Bool.false_eq_true, if_true, if_false] at ew ⊢
    exact ⟨S', ρ1, (.v d, ρ'), t, g.rl, by
      rw [od_ne (by intro i h; cases h)]
      simp only [Gs.ev, evE]
      rw [ew]; rfl, et, fun H2 S2 g2 => post H2 S2 (g.trans g2)⟩
  | true =>
    simp only [Bool.true_eq_false, if_true, if_false] at ew ⊢
    cases ew
    have et : truD d = some t := et
    rw [e3] at et
    cases et
    obtain ⟨S2, g2⟩ := frz_env g.rl o
    exact post H' S2 (g.trans g2))⟩
/-- what comes at an expression's end, seen from further ahead -/
theorem RV.ahead {K : PySem.W.Frag} {fa : FA} {σ : L2.St} {S S1 S' H H1 H' : Hp} {ρ ρ1 ρ' : En} {v : V} {d : D} {fr : Bool} (g : Go K fa σ S ρ H S1 ρ1 H1) (rv : RV K fa σ ρ' H1 S' H' v d fr) : RV K fa σ ρ' H S' H' v d fr := by
  unfold RV at rv ⊢
  cases fr with
  | false => simpa using rv
  | true =>
    simp only [if_true] at rv ⊢
    obtain ⟨z, h1, h2, h3, h4⟩ := rv
    exact ⟨z, h1, h2, g.al z h3, h4⟩
theorem pe_ife (hc : PT X xc (tT G k X.K c)) (ha : PE X xa (tE G k X.K a)) (hb : PE X xb (tE G k X.K b)) : PE X (.IfExp xc xa xb pos) (tE G k X.K (.ife c a b)) := (pe_ifExp hc ha hb).weak fun σ H Q ⟨S, ρ, d, fr, ρ', rl, ev, post⟩ => by
  simp only [Gs.ev, evE] at ev
  obtain ⟨x, e1, ev⟩ := R.bind_ok ev
  obtain ⟨t, e2, ev⟩ := opt_ok ev
  refine ⟨S, ρ, x, t, rl, e1, e2, fun H1 S1 g => ?_⟩
  cases t with
  | true =>
    simp only [if_true] at ev ⊢
    exact ⟨S1, x.2, d, fr, ρ', g.rl, ev, fun v H' S' g' rv => post v H' S' (g.trans g') (rv.ahead g)⟩
  | false =>
    simp only [Bool.false_eq_true, if_false] at ev ⊢
    exact ⟨S1, x.2, d, fr, ρ', g.rl, ev, fun v H' S' g' rv => post v H' S' (g.trans g') (rv.ahead g)⟩
theorem pe_neg (ha : PE X xa (tO G k X.K a)) : PE X (.UnaryOp .USub xa pos) (tE G k X.K (.neg a)) := (pe_un un_neg ha).weak fun σ H Q ⟨S, ρ, d, fr, ρ', rl, ev, post⟩ => by
  simp only [Gs.ev, evE] at ev
  obtain ⟨⟨o, ρ1⟩, e1, ev⟩ := R.bind_ok ev
  split at ev
  · rename_i i q
    cases ev
    exact ⟨S, ρ, o, ρ1, rl, e1, fun v H1 S1 g ov => ⟨i, (ov.get g.rl q).int, post _ H1 S1 g (.int _)⟩⟩
  · cases ev
theorem pe_notE (ha : PE X xa (tO G k X.K a)) : PE X (.UnaryOp .Not xa pos) (tE G k X.K (.not a)) := (pe_notT ha).weak fun σ H Q ⟨S, ρ, d, fr, ρ', rl, ev, post⟩ => by
  simp only [Gs.ev, evE] at ev
  obtain ⟨x, e1, ev⟩ := R.bind_ok ev
  obtain ⟨t, e2, ev⟩ := opt_ok ev
  cases ev
  obtain ⟨p, e3, e4⟩ := Option.bind_eq_some_iff.mp e2
  exact ⟨S, ρ, x.1, x.2, rl, e1, fun v H1 S1 g ov => ⟨t, tru_of g.rl.sub (ov.get g.rl e3) e4, post _ H1 S1 g (.bl _)⟩⟩
theorem pe_chE {o1 o2 : CmpOp} (hu : X.A.units + 200 < cLine) (ha : PE X xa (tO G k X.K a)) (hb : PE X xb (tO G k X.K b)) (hc : PE X xc (tO G k X.K c)) (hm : lastMarks [o1, o2] [xb, xc] = false) : PE X (.Compare xa [o1, o2] [xb, xc] pos) (tE G k X.K (.ch o1 o2 a b c)) :=
  (pe_chain (oc_cmp (fa := G.fa) hu o1) (oc_cmp (fa := G.fa) hu o2) ha hb hc hm).weak fun σ H Q ⟨S, ρ, d, fr, ρ', rl, ev, post⟩ => by
  simp only [Gs.ev, evE] at ev
  obtain ⟨⟨v1, ρ1⟩, e1, ev⟩ := R.bind_ok ev
  obtain ⟨⟨v2, ρ2⟩, e2, ev⟩ := R.bind_ok ev
  obtain ⟨p, e3, ev⟩ := opt_ok ev
  obtain ⟨q, e4, ev⟩ := opt_ok ev
  obtain ⟨z, e5, ev⟩ := opt_ok ev
  refine ⟨S, ρ, v1, ρ1, rl, e1, fun w1 H1 S1 g1 ov1 => ⟨S1, ρ1, v2, ρ2, g1.rl, e2, fun w2 H2 S2 g2 ov2 => ⟨S2, p, q, z, g2.rl.sub, (ov1.mono g2.sub).get g2.rl e3, ov2.get g2.rl e4, e5, z, rfl, ?_⟩⟩⟩
  cases z with
  | true =>
    simp only [if_true] at ev ⊢
    obtain ⟨⟨v3, ρ3⟩, e6, ev⟩ := R.bind_ok ev
    obtain ⟨q', e7, ev⟩ := opt_ok ev
    obtain ⟨r', e8, ev⟩ := opt_ok ev
    obtain ⟨z', e9, ev⟩ := opt_ok ev
    cases ev
    exact ⟨S2, ρ2, v3, ρ3, g2.rl, e6, fun w3 H3 S3 g3 ov3 => ⟨S3, q', r', z', g3.rl.sub, (ov2.mono g3.sub).get g3.rl e7, ov3.get g3.rl e8, e9, post _ H3 S3 ((g1.trans g2).trans g3) (.bl _)⟩⟩
  | false =>
    simp only [Bool.false_eq_true, if_false] at ev ⊢
    cases ev
    exact post _ H2 S2 (g1.trans g2) (.bl _)
/-! ### slices -/
def tBd (G : Gs) (k : Nat) (K : PySem.W.Frag) (o : Option Ex) : TO := fun σ H Q => ∃ S ρ i ρ', Rl K G.fa S σ ρ H ∧ evB G.mf (G.cf k) o ρ = .ok (i, ρ') ∧ ∀ H' S', Go K G.fa σ S ρ H S' ρ' H' → Q i H'
theorem po_n : PO X none (tBd G k X.K none) := ⟨fun pins s σ H Q I ⟨S, ρ, i, ρ', rl, ev, post⟩ => po_none.run pins s σ H Q I (by
  simp only [evB] at ev
  cases ev
  exact post H S (.refl rl))⟩
theorem po_s (ha : PE X xa (tO G k X.K a)) : PO X (some xa) (tBd G k X.K (some a)) := ⟨fun pins s σ H Q I ⟨S, ρ, i, ρ', rl, ev, post⟩ => (po_some ha).run pins s σ H Q I (by
  simp only [evB] at ev
  obtain ⟨⟨o, ρ1⟩, e1, ev⟩ := R.bind_ok ev
  split at ev
  · rename_i j q
    cases ev
    exact ⟨S, ρ, o, ρ1, rl, e1, fun v H1 S1 g ov => ⟨j, (ov.get g.rl q).int, post H1 S1 g⟩⟩
  · cases ev)⟩
theorem pe_slE {lo hi : Option Ex} {xl xh : Option Expr} {p2 : Pos} (ha : PE X xa (tO G k X.K a)) (hl : PO X xl (tBd G k X.K lo)) (hh : PO X xh (tBd G k X.K hi)) : PE X (.Subscript xa (.Slice xl xh none p2) pos) (tE G k X.K (.sl a lo hi)) :=
  (pe_slice (ob_sl (fa := G.fa)) ha hl hh).weak fun σ H Q ⟨S, ρ, d, fr, ρ', rl, ev, post⟩ => by
  simp only [Gs.ev, evE] at ev
  obtain ⟨⟨o, ρ1⟩, e1, ev⟩ := R.bind_ok ev
  obtain ⟨⟨l, ρ2⟩, e2, ev⟩ := R.bind_ok ev
  obtain ⟨⟨h, ρ3⟩, e3, ev⟩ := R.bind_ok ev
  obtain ⟨p, e4, ev⟩ := opt_ok ev
  obtain ⟨z, e5, ev⟩ := opt_ok ev
  cases ev
  exact ⟨S, ρ, o, ρ1, rl, e1, fun v H1 S1 g1 ov => ⟨S1, ρ1, l, ρ2, g1.rl, e2, fun H2 S2 g2 => ⟨S2, ρ2, h, ρ3, g2.rl, e3, fun H3 S3 g3 =>
    ⟨S3, p, z, g3.rl.sub, (ov.mono (g2.sub.trans g3.sub)).get g3.rl e4, e5, fun v H' S' gr rv => post v H' S' (((g1.trans g2).trans g3).trans (gr.go g3.rl)) (RV0.lift ((g1.trans g2).trans g3) rv)⟩⟩⟩⟩
/-! ### methods of texts, one argument -/
theorem pe_mtE {m : Nat} {id : String} {n : Str} {apos : Pos} (slot : Slot "str" n id) (ty : typeOf (.builtin id) = pure (.type "method_descriptor")) (rule : MtR X id (rMt X.K G.fa (mtD m))) (hs : ∀ d ds z, mtD m d ds = some z → ∃ x, d = .str x)
    (ha : PE X xa (tO G k X.K a)) (hb : PE X xb (tO G k X.K b)) (he : starEach [xb] X.env = [(false, eval xb X.env)]) (hbase : attributeBase xa n X.env (eval xa X.env) = eval xa X.env) (hline : (apos.endLine == pos.line) = true) :
    PE X (.Call (.Attribute xa n apos) [xb] [] pos) (tE G k X.K (.mt m a [b])) := (pe_m1 slot ty rule ha hb he hbase hline).weak fun σ H Q ⟨S, ρ, d, fr, ρ', rl, ev, post⟩ => by
  simp only [Gs.ev, evE, evOs] at ev
  obtain ⟨⟨o, ρ1⟩, e1, ev⟩ := R.bind_ok ev
  obtain ⟨p, e4, ev⟩ := opt_ok ev
  obtain ⟨⟨os, ρ2⟩, e2, ev⟩ := R.bind_ok ev
  obtain ⟨⟨o2, ρ3⟩, e3, e2⟩ := R.bind_ok e2
  cases e2
  obtain ⟨ds, e5, ev⟩ := opt_ok ev
  split at ev
  case isFalse => cases ev
  obtain ⟨z, e6, ev⟩ := opt_ok ev
  cases ev
  obtain ⟨y, rfl⟩ := hs _ _ _ e6
  refine ⟨S, ρ, o, ρ1, rl, e1, fun v H1 S1 g1 ov => ?_⟩
  obtain ⟨rfl, ok⟩ := (ov.get g1.rl e4).str
  exact ⟨⟨_, rfl⟩, S1, ρ1, o2, ρ3, g1.rl, e3, fun w H2 S2 g2 ov2 => ⟨S2, .str y, ds, z, g2.rl.sub, .inl (.str _ ok), OVs.get g2.rl (.cons ov2 .nil) e5, e6,
    fun v H' S' gr rv => post v H' S' ((g1.trans g2).trans (gr.go g2.rl)) (RV0.lift (g1.trans g2) rv)⟩⟩
/-! ### tuple(range(..)), tuple(reversed(..)) -/
theorem rgV_reps {K : PySem.W.Frag} {fa : FA} {S : Hp} (a b : Int) : Reps K fa S (rgV a b) (rangeL a (b - a).toNat) := by
  have key : ∀ (n : Nat) (a : Int), Reps K fa S ((List.range n).map fun i => V.int (a + (i : Nat))) (rangeL a n) := by
    intro n
    induction n with
    | zero => intro a; exact .nil
    | succ n ih =>
      intro a
      rw [List.range_succ_eq_map, List.map_cons, List.map_map]
      have e : ((fun i : Nat => V.int (a + (i : Nat))) ∘ Nat.succ) = fun i : Nat => V.int (a + 1 + (i : Nat)) := by
        funext i
        show V.int _ = V.int _
        congr 1
        push_cast
        omega
      rw [e]
      have e0 : a + ((0 : Nat) : Int) = a := by omega
      rw [e0]
      exact .cons (.int _) (ih (a + 1))
  exact key _ a
theorem smallI_i {i : Int} (h : smallI i = true) : -(2 ^ 62) ≤ i ∧ i < 2 ^ 62 := by
  simpa [smallI] using h
theorem tupI_mid {σ : L2.St} {H : Hp} {Q : VK} {bi : Bi} (h : tE G k X.K (.tupI bi es) σ H Q) : ∃ S ρ ds zs ρ', Rl X.K G.fa S σ ρ H ∧ evVs G.mf (G.cf k) es ρ = .ok (ds, ρ') ∧ itT bi ds = some zs ∧
    ∀ v H' S', Go X.K G.fa σ S ρ H S' ρ' H' → Rep X.K G.fa S' v (.tup zs) → Q v H' := by
  obtain ⟨S, ρ, d, fr, ρ', rl, ev, post⟩ := h
  simp only [Gs.ev, evE] at ev
  obtain ⟨⟨vs, ρ2⟩, e2, e1⟩ := R.bind_ok ev
  obtain ⟨z, e4, e1⟩ := opt_ok e1
  cases e1
  exact ⟨S, ρ, vs, z, ρ2, rl, e2, e4, fun v H' S' g r => post v H' S' g r⟩
theorem pe_tupRg1E {p p2 pos2 : Pos} (hc : X.calm = true) (hg : Gl X "tuple") (hm : X.mg "tuple" = none) (hg2 : Gl X "range") (hm2 : X.mg "range" = none) (ha : PE X xa (tE G k X.K a)) (na : starEach [xa] X.env = (false, eval xa X.env) :: starEach [] X.env) :
    PE X (.Call (.Name "tuple" p) [.Call (.Name "range" p2) [xa] [] pos2] [] pos) (tE G k X.K (.tupI .range [a])) := (pe_tupRg hc hg hm (prg_1 hg2 hm2 (pe_v ha) na)).weak fun σ H Q h => by
  obtain ⟨S, ρ, ds, zs, ρ', rl, ev, e, post⟩ := tupI_mid h
  simp only [evVs] at ev
  obtain ⟨⟨d, fr, ρ1⟩, e1, ev⟩ := R.bind_ok ev
  cases ev
  refine ⟨S, ρ, d, fr, ρ1, rl, e1, fun v H1 S1 g r => ?_⟩
  cases d <;> try (simp [itT] at e; done)
  · simp only [itT] at e
    split at e
    · rename_i hsm
      cases e
      simp only [Bool.and_eq_true, decide_eq_true_eq] at hsm
      obtain ⟨b1, b2⟩ := smallI_i hsm.1
      cases r
      refine ⟨_, rfl, ⟨by omega, by omega, b1, b2, by rw [Int.sub_zero]; exact hsm.2⟩, fun q n => ?_⟩
      obtain ⟨g2, r2⟩ := Gr.tup (fa := G.fa) g.rl.sub n (rgV_reps (K := X.K) (S := S1) 0 _) (lets_rg _ _)
      rw [Int.sub_zero] at r2
      exact post _ _ _ (g.trans (g2.go g.rl)) r2
    · cases e
theorem pe_tupRg2E {p p2 pos2 : Pos} (hc : X.calm = true) (hg : Gl X "tuple") (hm : X.mg "tuple" = none) (hg2 : Gl X "range") (hm2 : X.mg "range" = none) (ha : PE X xa (tE G k X.K a)) (hb : PE X xb (tE G k X.K b)) (na : starEach [xa, xb] X.env = (false, eval xa X.env) :: starEach [xb] X.env)
    (nb : starEach [xb] X.env = (false, eval xb X.env) :: starEach [] X.env) (hp : (backTo pos2 (starEach [xb] X.env)).any (·.1) = false) :
    PE X (.Call (.Name "tuple" p) [.Call (.Name "range" p2) [xa, xb] [] pos2] [] pos) (tE G k X.K (.tupI .range [a, b])) := (pe_tupRg hc hg hm (prg_2 hg2 hm2 (pe_v ha) (pe_v hb) na nb hp)).weak fun σ H Q h => by
  obtain ⟨S, ρ, ds, zs, ρ', rl, ev, e, post⟩ := tupI_mid h
  simp only [evVs] at ev
  obtain ⟨⟨d, fr, ρ1⟩, e1, ev⟩ := R.bind_ok ev
  obtain ⟨⟨ds2, ρ3⟩, e2, ev⟩ := R.bind_ok ev
  cases ev
  obtain ⟨⟨d2, fr2, ρ2⟩, e3, e2⟩ := R.bind_ok e2
  cases e2
  refine ⟨S, ρ, d, fr, ρ1, rl, e1, fun v H1 S1 g1 r1 => ⟨S1, ρ1, d2, fr2, ρ2, g1.rl, e3, fun u H2 S2 g2 r2 => ?_⟩⟩
  cases d <;> cases d2 <;> try (simp [itT] at e; done)
  · simp only [itT] at e
    split at e
    · rename_i hsm
      cases e
      simp only [Bool.and_eq_true, decide_eq_true_eq] at hsm
      obtain ⟨b1, b2⟩ := smallI_i hsm.1.1
      obtain ⟨b3, b4⟩ := smallI_i hsm.1.2
      cases r1
      cases r2
      refine ⟨_, _, rfl, rfl, ⟨b1, b2, b3, b4, hsm.2⟩, fun q n => ?_⟩
      obtain ⟨g3, r3⟩ := Gr.tup (fa := G.fa) g2.rl.sub n (rgV_reps (K := X.K) (S := S2) _ _) (lets_rg _ _)
      exact post _ _ _ ((g1.trans g2).trans (g3.go g2.rl)) r3
    · cases e
theorem pe_tupRevE {p p2 pos2 : Pos} (hc : X.calm = true) (hg : Gl X "tuple") (hm : X.mg "tuple" = none) (hg2 : Gl X "reversed") (hm2 : X.mg "reversed" = none) (ha : PE X xa (tE G k X.K a)) (na : starEach [xa] X.env = (false, eval xa X.env) :: starEach [] X.env) :
    PE X (.Call (.Name "tuple" p) [.Call (.Name "reversed" p2) [xa] [] pos2] [] pos) (tE G k X.K (.tupI .rev [a])) := (RT.pe_tupRev hc hg hm hg2 hm2 (pe_v ha) na).weak fun σ H Q h => by
  obtain ⟨S, ρ, ds, zs, ρ', rl, ev, e, post⟩ := tupI_mid h
  simp only [evVs] at ev
  obtain ⟨⟨d, fr, ρ1⟩, e1, ev⟩ := R.bind_ok ev
  cases ev
  refine ⟨S, ρ, d, fr, ρ1, rl, e1, fun v H1 S1 g r => ?_⟩
  cases d <;> try (simp [itT] at e; done)
  · simp only [itT] at e
    split at e
    · cases e
    rename_i nl
    cases e
    cases r with
    | lst h1 q1 =>
      refine ⟨_, _, rfl, .inl (g.rl.sub.rd h1), fun q n => ?_⟩
      obtain ⟨g2, r2⟩ := Gr.tup (fa := G.fa) g.rl.sub n q1.rev (by simpa using nl)
      exact post _ _ _ (g.trans (g2.go g.rl)) r2
end
end G

/-! methods of lists and tuples that look for an item: index -/
namespace G
open PySem PySem.Spec L2
theorem indexOf_at {d : D} : ∀ {xs : List D} {j : Nat}, indexOf d xs = some j → ∃ h : j < xs.length, eqv xs[j] d = true ∧ ∀ m (hm : m < xs.length), m < j → eqv xs[m] d = false
  | x :: xs, j, h => by
    unfold indexOf at h
    split at h
    · rename_i e
      cases h
      exact ⟨Nat.succ_pos _, e, fun m _ hm => absurd hm (Nat.not_lt_zero _)⟩
    · rename_i e
      obtain ⟨i, h1, rfl⟩ := Option.map_eq_some_iff.mp h
      obtain ⟨h2, h3, h4⟩ := indexOf_at h1
      refine ⟨Nat.succ_lt_succ h2, h3, fun m hm lt => ?_⟩
      cases m with
      | zero => simpa using e
      | succ m => exact h4 m (Nat.lt_of_succ_lt_succ hm) (Nat.lt_of_succ_lt_succ lt)
section
variable {X : Cx} {pins : List (Addr × Obj)} {σ : L2.St} {H : Hp} {s : Shared} {fa : FA}
/-- the item at j, asked whether it equals d -/
theorem eq_place (I : Inv X pins σ H s) (hu : X.A.units + 200 < cLine) {x : V} {d : D} {v : Value} (rx : RelV x v) (hx : Rep X.K fa H x d) (px : pl d = true) (dx : dep d ≤ 60) {vs : List V} {ds : List D} {us : List Value} (r : Reps X.K fa H vs ds) (q : Vals vs us) (p : plL ds = true)
    {j : Nat} (h1 : j < us.length) (h2 : j < ds.length) : SeqAt.EqAt X.A.in1 s us[j] v (eqv ds[j] d) := by
  have e := mem_eqW I hu rx hx px dx r q p us[j] (List.getElem_mem h1)
  obtain ⟨m1, e1⟩ := r.at j h2
  obtain ⟨_, f1⟩ := Vals.at q j h1
  rwa [eqW_eq I f1 e1 (plL_at p j h2)] at e
theorem call_idxL (I : Inv X pins σ H s) (hu : X.A.units + 200 < cLine) {a : Addr} {us : List Value} {x : V} {v : Value} {d : D} {vs : List V} {ds : List D} {j : Nat} {Q : Value → Shared → Prop} (ht : s.heap.IsList a us.toArray) (hz : us.length ≤ sizeLine) (rx : RelV x v) (hx : Rep X.K fa H x d) (px : pl d = true) (dx : dep d ≤ 60) (r : Reps X.K fa H vs ds) (q : Vals vs us) (p : plL ds = true)
    (hj : indexOf d ds = some j) (h : Q (.int (j : Nat) s.toks) { s with toks := s.toks + 1 }) : wpAny (model X.prog X.w) X.A (call (.builtin "list.index") [.ref a, v]) Q X.xe s := by
  obtain ⟨⟨cls, dd, data, sl⟩, ho, hc, n, hd⟩ := id ht
  simp only at hc hd
  subst hc hd
  obtain ⟨j1, j2, j3⟩ := indexOf_at hj
  have ul : us.length = ds.length := by rw [← r.length, L2.Vals.length q]
  rw [sizeLine_eq] at hz
  refine call_meets PySem.F.slot_list_index ⟨_, ho, rfl⟩ PySem.F.entry_list_index (PySem.F.args_list_index_2 _ _)
    (SeqAt.list_index2_found a us.toArray n dd sl v (fun i => (ds[i]?.map (eqv · d)).getD false) j (by simpa [ul] using j1) (Nat.zero_le _) (by omega) ?_ ?_) ⟨ho, fun i hi => ?_, h⟩
  · simp [j1, j2]
  · intro m hm _ hlt
    have hm' : m < ds.length := by omega
    simp [hm', j3 m hm' hlt]
  · have h1 : i < us.length := by simpa using hi
    have h2 : i < ds.length := by omega
    simpa [h2] using eq_place I hu rx hx px dx r q p h1 h2
/-- the same of a tuple -/
theorem call_idxT (I : Inv X pins σ H s) (hu : X.A.units + 200 < cLine) {a : Addr} {us : List Value} {x : V} {v : Value} {d : D} {vs : List V} {ds : List D} {j : Nat} {Q : Value → Shared → Prop} (ht : PyProof.Rows.IsTup s.heap a us.toArray) (rx : RelV x v) (hx : Rep X.K fa H x d) (px : pl d = true) (dx : dep d ≤ 60) (r : Reps X.K fa H vs ds) (q : Vals vs us) (p : plL ds = true)
    (hj : indexOf d ds = some j) (h : Q (.int (j : Nat) s.toks) { s with toks := s.toks + 1 }) : wpAny (model X.prog X.w) X.A (call (.builtin "tuple.index") [.ref a, v]) Q X.xe s := by
  obtain ⟨⟨cls, dd, data, sl⟩, ho, hc, n, hd⟩ := id ht
  simp only at hc hd
  subst hc hd
  obtain ⟨j1, j2, j3⟩ := indexOf_at hj
  have ul : us.length = ds.length := by rw [← r.length, L2.Vals.length q]
  refine call_meets PySem.F.slot_tuple_index ⟨_, ho, rfl⟩ PySem.F.entry_tuple_index (PySem.F.args_tuple_index_2 _ _)
    (SeqAt.tuple_index2_found a us.toArray n dd sl v (fun i => (ds[i]?.map (eqv · d)).getD false) j (by simpa [ul] using j1) (Nat.zero_le _) (by simpa [ul] using j1) ?_ ?_) ⟨ho, fun i hi => ?_, h⟩
  · simp [j1, j2]
  · intro m hm _ hlt
    have hm' : m < ds.length := by omega
    simp [hm', j3 m hm' hlt]
  · have h1 : i < us.length := by simpa using hi
    have h2 : i < ds.length := by omega
    simpa [h2] using eq_place I hu rx hx px dx r q p h1 h2
theorem reps_erase {K : PySem.W.Frag} {S : Hp} : ∀ {vs : List V} {ds : List D} (j : Nat), Reps K fa S vs ds → Reps K fa S (vs.eraseIdx j) (ds.eraseIdx j)
  | _, _, _, .nil => .nil
  | _, _, 0, .cons _ t => t
  | _, _, j + 1, .cons h t => .cons h (reps_erase j t)
def rRem (K : PySem.W.Frag) (fa : FA) : V → List V → Hp → VK → Prop := fun x vs H Q => ∃ l w xs ds d j, x = .ref l ∧ vs = [w] ∧ H l = some (.lst xs) ∧ Rep K fa H w d ∧ Reps K fa H xs ds ∧ cmpable d (.lst ds) = true ∧ indexOf d ds = some j ∧ Q .non (upd H l (.lst (xs.eraseIdx j)))
theorem mt_remove (hu : X.A.units + 200 < cLine) : MtM X "list.remove" (rRem X.K fa) := by
  intro pins s τ H x vs v us Q J rx rv ⟨l, w, xs, ds, d, j, ex, ey, hH, hw, hr, hc, hj, q⟩
  subst ex ey
  cases rx
  obtain ⟨u, eu, ru⟩ := rv.one
  subst eu
  obtain ⟨hz, jt, n, r, hl, e⟩ := J.lstM hH
  obtain ⟨h1, h2, h3, h4⟩ := cmpable_iff hc
  obtain ⟨j1, j2, j3⟩ := indexOf_at hj
  have ul : jt.length = ds.length := by rw [← hr.length, L2.Vals.length r]
  have pd : plL ds = true := by simpa [pl] using h2
  have at_ : ∀ (i : Nat) (hi : i < jt.toArray.size) (hi2 : i < ds.length), eqW X.K fa H d jt.toArray[i] = eqv ds[i] d := fun i hi hi2 => by
    obtain ⟨m1, e1⟩ := hr.at i hi2
    obtain ⟨_, f1⟩ := Vals.at r i (by simpa using hi)
    have := eqW_eq (d := d) J f1 e1 (plL_at pd i hi2)
    simpa using this
  refine call_meets PySem.F.slot_list_remove ⟨_, e, rfl⟩ PySem.F.entry_list_remove (PySem.F.args_list_remove_2 _ _)
    (SeqAt.list_removeAt l jt.toArray n none #[] u (eqW X.K fa H d) j (by simpa [ul] using j1) (by rw [at_ j (by simpa [ul] using j1) j1]; exact j2) (fun m hm hlt => by
      have hm' : m < ds.length := by omega
      rw [at_ m hm hm']; exact j3 m hm' hlt) (by rw [List.size_toArray, ← hl]; exact hz)) ⟨e, fun y hy => ?_, ?_⟩
  · exact mem_eqW J hu ru hw h1 h3 hr r pd y (by simpa using hy)
  · refine ⟨.non, _, J.lset (its' := jt.eraseIdx j) (t' := s.toks) hH e ?_ (r.eraseIdx j) (Nat.le_trans (List.length_eraseIdx_le _ _) hz), rfl, q⟩
    have hj' : j < jt.toArray.size := by simpa [ul] using j1
    apply Array.ext'
    simp [Array.eraseIdxIfInBounds, hj', ul, j1]
theorem mu_remove {K : PySem.W.Frag} (S H : Hp) (a : Addr) (vs : List V) (w : V) (d : D) (ds : List D) (z : D × D) (sub : Sub S H) (hS : S a = none) (hH : H a = some (.lst vs)) (r : Reps K fa S vs ds) (hw : Rep K fa S w d) (e : muD 2 (.lst ds) [d] = some z) :
    ∃ us es, z = (.non, .lst es) ∧ Reps K fa S us es ∧ ∀ Q : VK, Q .non (upd H a (.lst us)) → rRem K fa (.ref a) [w] H Q := by
  simp only [muD, remD] at e
  split at e
  · rename_i hc
    obtain ⟨j, hj, rfl⟩ := Option.map_eq_some_iff.mp e
    exact ⟨_, _, rfl, reps_erase j r, fun Q q => ⟨a, w, vs, ds, d, j, rfl, rfl, hH, hw.mono sub, r.mono sub, hc, hj, q⟩⟩
  · cases e
end
section
variable {G : Gs} {k : Nat} {X : Cx} {pos p p2 p3 : Pos} {a b : Ex} {xa xb : Expr}
theorem pe_idxE {apos : Pos} (hu : X.A.units + 200 < cLine) (ha : PE X xa (tO G k X.K a)) (hb : PE X xb (tO G k X.K b)) (he : starEach [xb] X.env = [(false, eval xb X.env)]) (hbase : attributeBase xa "index" X.env (eval xa X.env) = eval xa X.env) (hline : (apos.endLine == pos.line) = true) :
    PE X (.Call (.Attribute xa "index" apos) [xb] [] pos) (tE G k X.K (.mt 3 a [b])) := ⟨fun pins s σ H Q I h => by
  obtain ⟨S, ρ, d, fr, ρ', rl, ev, post⟩ := h
  simp only [Gs.ev, evE, evOs] at ev
  obtain ⟨⟨o, ρ1⟩, e1, ev⟩ := R.bind_ok ev
  obtain ⟨p, e4, ev⟩ := opt_ok ev
  obtain ⟨⟨os, ρ2⟩, e2, ev⟩ := R.bind_ok ev
  obtain ⟨⟨o2, ρ3⟩, e3, e2⟩ := R.bind_ok e2
  cases e2
  obtain ⟨ds, e5, ev⟩ := opt_ok ev
  split at ev
  case isFalse => cases ev
  rename_i e7
  obtain ⟨z, e6, ev⟩ := opt_ok ev
  cases ev
  simp only [mtD] at e6
  simp only [ders] at e5
  obtain ⟨d2, e8, e5⟩ := Option.bind_eq_some_iff.mp e5
  cases e5
  refine PySem.Call_method1 hbase he hline (thn (ha.run pins s σ H (fun x H1 => ∃ S1, Go X.K G.fa σ S ρ H S1 ρ1 H1 ∧ OV X.K G.fa S1 σ x o) I ⟨S, ρ, o, ρ1, rl, e1, fun v H1 S1 g ov => ⟨S1, g, ov⟩⟩) fun v s1 ⟨x, H1, I1, r1, S1, g1, ov⟩ => ?_)
  have step : ∀ (Q2 : Value → Shared → Prop), (∀ u s2 y H2 S2, Inv X pins σ H2 s2 → RelV y u → Go X.K G.fa σ S1 ρ1 H1 S2 ρ3 H2 → RepB X.K G.fa S2 H2 x p → RepB X.K G.fa S2 H2 y d2 → Q2 u s2) → wpAny (model X.prog X.w) X.A (eval xb X.env) Q2 X.xe s1 := fun Q2 h2 =>
    thn (hb.run pins s1 σ H1 (fun y H2 => ∃ S2, Go X.K G.fa σ S1 ρ1 H1 S2 ρ3 H2 ∧ OV X.K G.fa S2 σ y o2) I1 ⟨S1, ρ1, o2, ρ3, g1.rl, e3, fun w H2 S2 g ov2 => ⟨S2, g, ov2⟩⟩) fun u s2 ⟨y, H2, I2, r2, S2, g2, ov2⟩ => h2 u s2 y H2 S2 I2 r2 g2 ((ov.mono g2.sub).get g2.rl e7) (ov2.get g2.rl e8)
  obtain ⟨xs, hp⟩ : ∃ xs, p = .lst xs ∨ p = .tup xs := by cases p <;> first | exact ⟨_, .inl rfl⟩ | exact ⟨_, .inr rfl⟩ | cases e6
  rcases hp with rfl | rfl
  case inr =>
    simp only [idxMD] at e6
    split at e6
    case isFalse => cases e6
    rename_i hc
    obtain ⟨j, hj, rfl⟩ := Option.map_eq_some_iff.mp e6
    rw [Bool.and_eq_true] at hc
    obtain ⟨hg, hc⟩ := hc
    obtain ⟨h1, h2, h3, h4⟩ := cmpable_iff hc
    obtain ⟨l, vs, rfl, t1, t2, rr⟩ := (ov.get g1.rl e4).tup g1.rl.sub
    obtain ⟨ob, u0, e9, hd⟩ := t2.2 hg
    have e10 : s1.heap.get? l = some ob := (I1.hok l _ (g1.rl.sub _ _ e9)).1
    obtain ⟨its, rv, pl1, hz⟩ := I1.tuple t1
    have hcl : ob.cls = .type "tuple" := by
      obtain ⟨ob', q1, q2, _⟩ := pl1
      rw [e10] at q1; cases q1
      exact q2
    cases r1
    refine ⟨"tuple", "tuple.index", PySem.F.plainAttrs_tuple, PySem.F.slot_tuple_index, PySem.F.type_tuple_index, ⟨_, e10, hcl⟩, fun a' q => by cases q; exact ⟨_, e10, hd⟩, Calls.callWith_builtin rfl (Calls.evalArgs_plain (Calls.spliced_cons (step _ fun u s2 y H2 S2 I2 ry g2 rb ry2 => Calls.spliced_nil ?_)))⟩
    obtain ⟨l', vs2, el, t3, _, rr2⟩ := rb.tup g2.rl.sub
    cases el
    obtain ⟨its2, rv2, pl2, _⟩ := I2.tuple t3
    refine call_idxT (fa := G.fa) I2 hu pl2 ry (ry2.heap g2.rl.sub) h1 h3 (rr2.mono g2.rl.sub) rv2 (by simpa [pl] using h2) hj ⟨.int (j : Nat), H2, I2.tok _, ⟨_, rfl⟩, ?_⟩
    exact post _ _ S2 (g1.trans g2) (.int _)
  simp only [idxMD] at e6
  split at e6
  case isFalse => cases e6
  rename_i hc
  obtain ⟨j, hj, rfl⟩ := Option.map_eq_some_iff.mp e6
  obtain ⟨h1, h2, h3, h4⟩ := cmpable_iff hc
  obtain ⟨l, vs, rfl, t1, rr⟩ := (ov.get g1.rl e4).lst g1.rl.sub
  obtain ⟨z1, its, n, rv, e9⟩ := I1.lstR t1
  cases r1
  refine ⟨"list", "list.index", PySem.F.plainAttrs_list, PySem.F.slot_list_index, PySem.F.type_list_index, ⟨_, e9, rfl⟩, fun a' q => by cases q; exact ⟨_, e9, rfl⟩, Calls.callWith_builtin rfl (Calls.evalArgs_plain (Calls.spliced_cons (step _ fun u s2 y H2 S2 I2 ry g2 rb ry2 => Calls.spliced_nil ?_)))⟩
  obtain ⟨l', vs2, el, t2, rr2⟩ := rb.lst g2.rl.sub
  cases el
  obtain ⟨z2, its2, n2, rv2, e10⟩ := I2.lstR t2
  refine call_idxL (fa := G.fa) I2 hu ⟨_, e10, rfl, n2, rfl⟩ (by rw [← L2.Vals.length rv2]; exact z2) ry (ry2.heap g2.rl.sub) h1 h3 (rr2.mono g2.rl.sub) rv2 (by simpa [pl] using h2) hj ⟨.int (j : Nat), H2, I2.tok _, ⟨_, rfl⟩, ?_⟩
  exact post _ _ S2 (g1.trans g2) (.int _)⟩
end
end G

/-! sorted(set(x)), len(set(x)) as expressions -/
namespace G
open PySem PySem.Spec L2
section
variable {G : Gs} {k : Nat} {X : Cx} {pos p p2 p3 : Pos} {a : Ex} {xa : Expr}
theorem set_mid {σ : L2.St} {H : Hp} {Q : VK} {b : Bi} (h : tE G k X.K (.bi b [a]) σ H Q) : ∃ S ρ o ρ' d z, Rl X.K G.fa S σ ρ H ∧ od a ρ (G.ev k a ρ) = .ok (o, ρ') ∧ der ρ' o = some d ∧ biD b [d] = some z ∧
    ∀ v H' S', Go X.K G.fa σ S ρ H S' ρ' H' → RV X.K G.fa σ ρ' H S' H' v z.1 z.2 → Q v H' := by
  obtain ⟨S, ρ, d, fr, ρ', rl, ev, post⟩ := h
  simp only [Gs.ev, evE, evOs] at ev
  obtain ⟨⟨os, ρ1⟩, e1, ev⟩ := R.bind_ok ev
  obtain ⟨⟨o, ρ2⟩, e2, e1⟩ := R.bind_ok e1
  cases e1
  obtain ⟨ds, e3, ev⟩ := opt_ok ev
  obtain ⟨z, e4, ev⟩ := opt_ok ev
  cases ev
  simp only [ders] at e3
  obtain ⟨d', e5, e3⟩ := Option.bind_eq_some_iff.mp e3
  cases e3
  exact ⟨S, ρ, o, ρ2, d', z, rl, e2, e5, e4, post⟩
/-- the items of what a set is made of -/
theorem set_items {S H : Hp} {x : V} {d : D} {z : D × Bool} {b : Bi} (hb : b = .sorset ∨ b = .lenset) (sub : Sub S H) (rb : RepB X.K G.fa S H x d) (e : biD b [d] = some z) : ∃ a vs ds, x = .ref a ∧ Reps X.K G.fa S vs ds ∧ setOk ds = true ∧ (Rd H a (.lst vs) ∨ SqT X.K H a vs) ∧
    (b = .sorset → z = (.lst (sortR (dedup ds)), true)) ∧ (b = .lenset → z = (.int (dedup ds).length, false)) := by
  cases d with
  | lst ds =>
    obtain ⟨a, vs, rfl, t, rr⟩ := rb.lst sub
    rcases hb with rfl | rfl
    · simp only [biD, sorsetD] at e
      split at e
      · rename_i ok; cases e; exact ⟨a, vs, ds, rfl, rr, ok, .inl t, fun _ => rfl, fun z => nomatch z⟩
      · cases e
    · simp only [biD, lensetD] at e
      split at e
      · rename_i ok; cases e; exact ⟨a, vs, ds, rfl, rr, ok, .inl t, fun z => (nomatch z), fun _ => rfl⟩
      · cases e
  | tup ds =>
    obtain ⟨a, vs, rfl, t, _, rr⟩ := rb.tup sub
    rcases hb with rfl | rfl
    · simp only [biD, sorsetD] at e
      split at e
      · rename_i ok; cases e; exact ⟨a, vs, ds, rfl, rr, ok, .inr t, fun _ => rfl, fun z => nomatch z⟩
      · cases e
    · simp only [biD, lensetD] at e
      split at e
      · rename_i ok; cases e; exact ⟨a, vs, ds, rfl, rr, ok, .inr t, fun z => (nomatch z), fun _ => rfl⟩
      · cases e
  | _ => rcases hb with rfl | rfl <;> simp [biD, sorsetD, lensetD] at e
/-- the set is made -/
theorem set_made {pins : List (Addr × Obj)} {σ : L2.St} {s : Shared} {S H : Hp} {a : Addr} {vs : List V} {ds : List D} {R : Value → Shared → Prop} (hc : X.calm = true) (hu : X.A.units + 200 < cLine) (I : Inv X pins σ H s) (sub : Sub S H) (rr : Reps X.K G.fa S vs ds) (ok : setOk ds = true) (t : Rd H a (.lst vs) ∨ SqT X.K H a vs)
    (h : ∀ (us : List Value) (m : Bool) (h' : Heap) (tk : Nat) l, Vals vs us → Bo X.prog X.w m h' s.heap.objs.size l → Hs (prs us ds) (prs us ds).length l → Inv X pins σ H { s with heap := h', toks := tk } → R (.ref s.heap.objs.size) { s with heap := h', toks := tk }) :
    wpAny (model X.prog X.w) X.A (call (.type "set") [.ref a]) R X.xe s := by
  rcases t with t | t
  · obtain ⟨us, rv, pl, hz⟩ := I.list (.inl t)
    obtain ⟨m, im, cm⟩ := itm_ok I rv (rr.mono sub) ok
    have ul : us.length = ds.length := by rw [← rr.length, L2.Vals.length rv]
    exact mkset_list (prs us ds) (I.ok.hd hc) pl.isList (by simpa using prs_fst ul) im (few_of ul ok cm) (by omega) fun h' tk l B g kp => h us m h' tk l rv B g (I.kept (t' := tk) kp)
  · obtain ⟨us, rv, pl, hz⟩ := I.tuple t
    obtain ⟨m, im, cm⟩ := itm_ok I rv (rr.mono sub) ok
    have ul : us.length = ds.length := by rw [← rr.length, L2.Vals.length rv]
    exact mkset_tuple (prs us ds) (I.ok.hd hc) pl (by simpa using prs_fst ul) im (few_of ul ok cm) (by omega) fun h' tk l B g kp => h us m h' tk l rv B g (I.kept (t' := tk) kp)
theorem pe_sorset (hc : X.calm = true) (hu : X.A.units + 200 < cLine) (hg : Gl X "sorted") (hm : X.mg "sorted" = none) (hg2 : Gl X "set") (hm2 : X.mg "set" = none) (ha : PE X xa (tO G k X.K a)) (na : starEach [xa] X.env = (false, eval xa X.env) :: starEach [] X.env) :
    PE X (.Call (.Name "sorted" p) [.Call (.Name "set" p2) [xa] [] p3] [] pos) (tE G k X.K (.bi .sorset [a])) := ⟨fun pins s σ H Q I h => by
  obtain ⟨S, ρ, o, ρ', d, z, rl, e1, e2, e3, post⟩ := set_mid h
  refine PyProof.Rows.Call_ (ld_blt I hg hm PyProof.Rows.boot_sorted (PyProof.Rows.callWith_builtin1 (PyProof.Rows.args_cons (PyProof.Rows.Call_ (ld_blt I hg2 hm2 PyProof.Rows.boot_set ?_)) rfl) rfl rfl))
  refine PyProof.Rows.callWith_type1 (PyProof.Rows.args_cons (thn (ha.run pins s σ H (fun x H1 => ∃ S1, Go X.K G.fa σ S ρ H S1 ρ' H1 ∧ RepB X.K G.fa S1 H1 x d) I ⟨S, ρ, o, ρ', rl, e1, fun v H1 S1 g ov => ⟨S1, g, ov.get g.rl e2⟩⟩) fun u s1 ⟨x, H1, I1, r1, S1, g, rb⟩ => PyProof.Rows.args_nil ?_) na) na rfl
  obtain ⟨q, vs, ds, rfl, rr, ok, t, hz, _⟩ := set_items (.inl rfl) g.rl.sub rb e3
  cases r1
  have hz := hz rfl
  subst hz
  refine set_made hc hu I1 g.rl.sub rr ok t fun us m h' tk l rv B gg I2 => PyProof.Rows.args_nil ?_
  exact sort_set hc hu I2 g.rl.sub rv rr B gg ok fun v H' S' gr r0 => post v H' S' (g.trans (gr.go g.rl)) (RV0.lift g r0)⟩
theorem pe_lenset (hc : X.calm = true) (hu : X.A.units + 200 < cLine) (hg : Gl X "len") (hm : X.mg "len" = none) (hg2 : Gl X "set") (hm2 : X.mg "set" = none) (ha : PE X xa (tO G k X.K a)) (na : starEach [xa] X.env = (false, eval xa X.env) :: starEach [] X.env) :
    PE X (.Call (.Name "len" p) [.Call (.Name "set" p2) [xa] [] p3] [] pos) (tE G k X.K (.bi .lenset [a])) := ⟨fun pins s σ H Q I h => by
  obtain ⟨S, ρ, o, ρ', d, z, rl, e1, e2, e3, post⟩ := set_mid h
  refine PyProof.Rows.Call_ (ld_blt I hg hm PySem.boot_len (PyProof.Rows.callWith_builtin1 (PyProof.Rows.args_cons (PyProof.Rows.Call_ (ld_blt I hg2 hm2 PyProof.Rows.boot_set ?_)) rfl) rfl rfl))
  refine PyProof.Rows.callWith_type1 (PyProof.Rows.args_cons (thn (ha.run pins s σ H (fun x H1 => ∃ S1, Go X.K G.fa σ S ρ H S1 ρ' H1 ∧ RepB X.K G.fa S1 H1 x d) I ⟨S, ρ, o, ρ', rl, e1, fun v H1 S1 g ov => ⟨S1, g, ov.get g.rl e2⟩⟩) fun u s1 ⟨x, H1, I1, r1, S1, g, rb⟩ => PyProof.Rows.args_nil ?_) na) na rfl
  obtain ⟨q, vs, ds, rfl, rr, ok, t, _, hz⟩ := set_items (.inr rfl) g.rl.sub rb e3
  cases r1
  have hz := hz rfl
  subst hz
  refine set_made hc hu I1 g.rl.sub rr ok t fun us m h' tk l rv B gg I2 => PyProof.Rows.args_nil ?_
  obtain ⟨es, ep, tb, Z, _⟩ := B.ex
  obtain ⟨ob, z1, z2, z3⟩ := Z.ob
  have el : es.size = (dedup ds).length := by
    rw [rws_len Z.rw_, ← (set_perm I2 rv (rr.mono g.rl.sub) ok gg Z.nd).length_eq, List.length_map]
  have few := Z.few
  have l2 := rws_len Z.rw_
  refine call_len_set z1 z2 z3 Z.fit (by omega) ⟨.int (es.size : Nat), H1, I2.tok _, ⟨_, rfl⟩, ?_⟩
  rw [el]
  exact post _ H1 S1 g (.int _)⟩
end
end G

/-! a[lo::k] -/
namespace G
open PySem PySem.Spec L2
theorem stp_up {n k : Nat} {lo : Option Int} (h : 0 < k) : stp n lo (k : Int) = if bnd n 0 lo < n then (List.range ((n - bnd n 0 lo - 1) / k + 1)).map fun m => bnd n 0 lo + k * m else [] := by
  unfold stp
  rw [if_pos (by omega), Int.toNat_natCast]
theorem stp_dn {n k : Nat} {lo : Option Int} (h : 0 < k) : stp n lo (-(k : Int)) = if 0 < n then (List.range ((n - 1) / k + 1)).map fun m => n - 1 - k * m else [] := by
  unfold stp
  rw [if_neg (by omega), Int.neg_neg, Int.toNat_natCast]
theorem stp_len (n : Nat) (lo : Option Int) (k : Int) (h : k ≠ 0) : (stp n lo k).length ≤ n := by
  unfold stp
  have q : ∀ (a b : Nat), (a / b) ≤ a := fun a b => Nat.div_le_self a b
  split
  · split
    · rw [List.length_map, List.length_range]
      have := q (n - bnd n 0 lo - 1) k.toNat
      omega
    · exact Nat.zero_le _
  · split
    · rw [List.length_map, List.length_range]
      have := q (n - 1) (-k).toNat
      omega
    · exact Nat.zero_le _
theorem pk_len {α : Type} (f : List Nat) (xs : List α) : (pk f xs).length ≤ f.length := List.length_filterMap_le _ _
theorem up_cnt (n s k : Nat) (h : 0 < k) (hs : s < n) : ((n : Int) - s + k - 1) / (k : Int) = (((n - s - 1) / k + 1 : Nat) : Int) := by
  have e : ((n : Int) - s + k - 1) = ((n - s - 1 : Nat) : Int) + 1 * (k : Int) := by omega
  rw [e, Int.add_mul_ediv_right _ _ (by omega)]
  push_cast
  rfl
theorem bnd_clip (n : Nat) (v : Int) : max 0 (min (if v < 0 then v + n else v) (n : Int)) = ((bnd n 0 (some v) : Nat) : Int) := by
  unfold bnd
  simp only
  by_cases h : v < 0
  · simp only [if_pos h]; omega
  · simp only [if_neg h]; omega
/-- a list's places, as the machine reckons them -/
theorem stp_list {lo : Option Int} {k : Int} (h : stOk lo k = true) (n : Nat) : sliceRange (sliceBounds lo none (some k) n).1 (sliceBounds lo none (some k) n).2.1 (sliceBounds lo none (some k) n).2.2 = stp n lo k := by
  unfold stOk at h
  simp only [Bool.or_eq_true, Bool.and_eq_true, decide_eq_true_eq] at h
  rcases h with h | ⟨h, hl⟩
  · obtain ⟨j, rfl⟩ := Int.eq_ofNat_of_zero_le (show 0 ≤ k by omega)
    have hj : 0 < j := by omega
    have hp : (j : Int) > 0 := by omega
    have e1 : (sliceBounds lo none (some (j : Int)) n).1 = ((bnd n 0 lo : Nat) : Int) := by
      cases lo with
      | none => simp only [sliceBounds, Option.getD_some, hp, if_true]; rfl
      | some v =>
        have := bnd_clip n v
        simp only [sliceBounds, Option.getD_some, hp, if_true]
        exact this
    have e2 : (sliceBounds lo none (some (j : Int)) n).2.1 = (n : Int) := by simp only [sliceBounds, Option.getD_some, hp, if_true]
    have e3 : (sliceBounds lo none (some (j : Int)) n).2.2 = (j : Int) := rfl
    rw [e1, e2, e3, stp_up hj]
    generalize bnd n 0 lo = s
    unfold sliceRange
    simp only [hp, if_true]
    by_cases hs : s < n
    · have hs' : (s : Int) < (n : Int) := by omega
      simp only [hs, hs', if_true]
      rw [up_cnt n s j hj hs, Int.toNat_natCast]
      apply List.map_congr_left
      intro m _
      rw [← Int.natCast_mul, ← Int.natCast_add, Int.toNat_natCast]
    · have hs' : ¬ (s : Int) < (n : Int) := by omega
      simp only [hs, hs', if_false]
      rfl
  · obtain rfl : lo = none := by cases lo with
      | none => rfl
      | some v => cases hl
    obtain ⟨j, e⟩ := Int.eq_ofNat_of_zero_le (show 0 ≤ -k by omega)
    obtain rfl : k = -(j : Int) := by omega
    have hj : 0 < j := by omega
    have hp : ¬ (-(j : Int)) > 0 := by omega
    have e1 : (sliceBounds none none (some (-(j : Int))) n).1 = (n : Int) - 1 := by simp only [sliceBounds, Option.getD_some, hp, if_false]
    have e2 : (sliceBounds none none (some (-(j : Int))) n).2.1 = -1 := by simp only [sliceBounds, Option.getD_some, hp, if_false]
    have e3 : (sliceBounds none none (some (-(j : Int))) n).2.2 = -(j : Int) := rfl
    rw [e1, e2, e3, stp_dn hj]
    unfold sliceRange
    simp only [hp, if_false]
    by_cases hs : 0 < n
    · have hs' : (n : Int) - 1 > -1 := by omega
      simp only [hs, hs', if_true]
      have ec : ((n : Int) - 1 - -1 - -(j : Int) - 1) / -(-(j : Int)) = (((n - 1) / j + 1 : Nat) : Int) := by
        have e : ((n : Int) - 1 - -1 - -(j : Int) - 1) = ((n - 1 : Nat) : Int) + 1 * (j : Int) := by omega
        rw [Int.neg_neg, e, Int.add_mul_ediv_right _ _ (by omega)]
        push_cast
        rfl
      rw [ec, Int.toNat_natCast]
      apply List.map_congr_left
      intro m _
      have : (-(j : Int)) * (m : Int) = -(((j * m : Nat)) : Int) := by rw [Int.neg_mul]; push_cast; rfl
      rw [this]
      omega
    · have hs' : ¬ (n : Int) - 1 > -1 := by omega
      simp only [hs, hs', if_false]
      rfl
/-- a tuple's -/
theorem stp_tup {lo : Option Int} {k : Int} (h : stOk lo k = true) (n : Nat) :
    (List.range (Builtin.Slice.slicePlaces (Builtin.Slice.sliceAdjust lo none k (n : Int)).1 (Builtin.Slice.sliceAdjust lo none k (n : Int)).2 k)).map (fun (m : Nat) => ((Builtin.Slice.sliceAdjust lo none k (n : Int)).1 + (m : Int) * k).toNat) = stp n lo k := by
  unfold stOk at h
  simp only [Bool.or_eq_true, Bool.and_eq_true, decide_eq_true_eq] at h
  rcases h with h | ⟨h, hl⟩
  · obtain ⟨j, rfl⟩ := Int.eq_ofNat_of_zero_le (show 0 ≤ k by omega)
    have hj : 0 < j := by omega
    have hp : ¬ (j : Int) < 0 := by omega
    have hg : (j : Int) > 0 := by omega
    have e1 : (Builtin.Slice.sliceAdjust lo none (j : Int) (n : Int)).1 = ((bnd n 0 lo : Nat) : Int) := by
      cases lo with
      | none => simp only [Builtin.Slice.sliceAdjust, hp, if_false]; rfl
      | some v =>
        simp only [Builtin.Slice.sliceAdjust, hp, if_false]
        unfold bnd
        simp only
        by_cases hv : v < 0
        · simp only [if_pos hv]; omega
        · simp only [if_neg hv]; omega
    have e2 : (Builtin.Slice.sliceAdjust lo none (j : Int) (n : Int)).2 = (n : Int) := by simp only [Builtin.Slice.sliceAdjust, hp, if_false]
    rw [e1, e2, stp_up hj]
    generalize bnd n 0 lo = s
    unfold Builtin.Slice.slicePlaces
    simp only [hg, if_true]
    by_cases hs : s < n
    · have hs' : (s : Int) < (n : Int) := by omega
      simp only [hs, hs', if_true]
      have ec : (((n : Int) - (s : Int) - 1) / (j : Int) + 1) = (((n - s - 1) / j + 1 : Nat) : Int) := by
        have e : ((n : Int) - (s : Int) - 1) = ((n - s - 1 : Nat) : Int) := by omega
        rw [e]
        push_cast
        rfl
      rw [ec, Int.toNat_natCast]
      apply List.map_congr_left
      intro m _
      rw [Int.mul_comm, ← Int.natCast_mul, ← Int.natCast_add, Int.toNat_natCast]
    · have hs' : ¬ (s : Int) < (n : Int) := by omega
      simp only [hs, hs', if_false]
      rfl
  · obtain rfl : lo = none := by cases lo with
      | none => rfl
      | some v => cases hl
    obtain ⟨j, e⟩ := Int.eq_ofNat_of_zero_le (show 0 ≤ -k by omega)
    obtain rfl : k = -(j : Int) := by omega
    have hj : 0 < j := by omega
    have hp : (-(j : Int)) < 0 := by omega
    have hg : ¬ (-(j : Int)) > 0 := by omega
    have e1 : (Builtin.Slice.sliceAdjust none none (-(j : Int)) (n : Int)).1 = (n : Int) - 1 := by simp only [Builtin.Slice.sliceAdjust, hp, if_true]
    have e2 : (Builtin.Slice.sliceAdjust none none (-(j : Int)) (n : Int)).2 = -1 := by simp only [Builtin.Slice.sliceAdjust, hp, if_true]
    rw [e1, e2, stp_dn hj]
    unfold Builtin.Slice.slicePlaces
    simp only [hg, if_false]
    by_cases hs : 0 < n
    · have hs' : (n : Int) - 1 > -1 := by omega
      simp only [hs, hs', if_true]
      have ec : ((n : Int) - 1 - -1 - 1) / -(-(j : Int)) + 1 = (((n - 1) / j + 1 : Nat) : Int) := by
        have e : ((n : Int) - 1 - -1 - 1) = ((n - 1 : Nat) : Int) := by omega
        rw [Int.neg_neg, e]
        push_cast
        rfl
      rw [ec, Int.toNat_natCast]
      apply List.map_congr_left
      intro m _
      have : (m : Int) * (-(j : Int)) = -(((j * m : Nat)) : Int) := by rw [Int.mul_neg, Int.mul_comm]; push_cast; rfl
      rw [this]
      omega
    · have hs' : ¬ (n : Int) - 1 > -1 := by omega
      simp only [hs, hs', if_false]
      rfl
theorem vals_pk {xs : List V} {us : List Value} (r : Vals xs us) : ∀ f : List Nat, Vals (pk f xs) (pk f us)
  | [] => .nil
  | m :: f => by
    unfold pk
    rw [List.filterMap_cons, List.filterMap_cons]
    cases e : xs[m]? with
    | none =>
      rw [r.none_of e]
      exact vals_pk r f
    | some x =>
      obtain ⟨u, h1, h2⟩ := r.get e
      rw [h1]
      exact .cons h2 (vals_pk r f)
theorem reps_pk {K : PySem.W.Frag} {fa : FA} {S : Hp} {vs : List V} {ds : List D} (r : Reps K fa S vs ds) : ∀ f : List Nat, Reps K fa S (pk f vs) (pk f ds)
  | [] => .nil
  | m :: f => by
    unfold pk
    rw [List.filterMap_cons, List.filterMap_cons]
    have hl := r.length
    cases e : vs[m]? with
    | none =>
      have : ds[m]? = none := by
        rw [List.getElem?_eq_none_iff] at e ⊢
        omega
      rw [this]
      exact reps_pk r f
    | some x =>
      have hm : m < ds.length := by
        have := (List.getElem?_eq_some_iff.mp e).1
        omega
      have e2 : ds[m]? = some ds[m] := List.getElem?_eq_getElem hm
      obtain ⟨x', h1, h2⟩ := r.get e2
      rw [e] at h1
      cases h1
      rw [e2]
      exact .cons h2 (reps_pk r f)
section
variable {prog : Program} {w : World} {A : Around} {E : Value → Shared → Prop} {s : Shared}
theorem cut_applied {sl : Addr} {vl vk : Value} {lo : Option Int} {k : Int} {n : Nat} {Q : Int × Int × Nat → Shared → Prop} (hs : s.heap.IsSliceOf sl vl .none vk) (pl : IsPart vl lo) (pk : IsPart vk (some k)) (h0 : k ≠ 0)
    (h : Q ((Builtin.Slice.sliceAdjust lo none k (n : Int)).1, k, Builtin.Slice.slicePlaces (Builtin.Slice.sliceAdjust lo none k (n : Int)).1 (Builtin.Slice.sliceAdjust lo none k (n : Int)).2 k) s) : wpAny (model prog w) A (Builtin.Slice.sliceApplied (.ref sl) (pure (n : Int))) Q E s := by
  obtain ⟨ob, ho, _, hf⟩ := id hs
  have hz : ¬ ((k == 0) = true) := fun q => h0 (eq_of_beq q)
  unfold Builtin.Slice.sliceApplied Builtin.Slice.sliceFields
  refine wpAny_bind (wpAny_bind (wpAny_field ho hf (x := vl) rfl (wpAny_bind (wpAny_field ho hf (x := .none) rfl (wpAny_bind (wpAny_field ho hf (x := vk) rfl (wpAny_pure ?_)))))))
  refine wpAny_bind (HT.slicePart_ pk ?_)
  show wpAny _ _ (if (k == 0) = true then _ else _) _ _ s
  rw [if_neg hz]
  refine wpAny_bind (HT.slicePart_ pl (wpAny_bind (HT.slicePart_ .none (wpAny_bind (wpAny_pure ?_)))))
  exact wpAny_pure h
theorem cut_get {t sl : Addr} {us : List Value} {vl vk : Value} {lo : Option Int} {k : Int} {Q : Value → Shared → Prop} (ht : PyProof.Rows.IsTup s.heap t us.toArray) (hs : s.heap.IsSliceOf sl vl .none vk) (pl : IsPart vl lo) (hk : IsPart vk (some k)) (hz : us.length ≤ sizeLine) (ok : stOk lo k = true)
    (h : Q (.ref s.heap.objs.size) { s with heap := s.heap.push { cls := .type "tuple", data := .seq (pk (stp us.length lo k) us).toArray } }) : wpAny (model prog w) A (getItem (.ref t) (.ref sl)) Q E s := by
  have h0 : k ≠ 0 := by
    intro e
    subst e
    simp [stOk] at ok
  have h1 : ¬ k = 1 := by
    intro e
    subst e
    simp [stOk] at ok
  have room : sizeOk (.seq (pk (stp us.length lo k) us).toArray) := by
    show (pk (stp us.length lo k) us).toArray.size ≤ sizeLine
    rw [List.size_toArray]
    exact Nat.le_trans (pk_len _ _) (Nat.le_trans (stp_len _ _ _ h0) hz)
  obtain ⟨ob, ho, hc, _⟩ := id hs
  have isS : s.TypeIs (.ref sl) "slice" := ⟨ob, ho, hc⟩
  have e := stp_tup (lo := lo) ok us.length
  unfold getItem
  try with_reducible refine wpAny_holding ?_
  first | refine wpAny_bind (wpAny_pure ?_) | skip
  refine wpAny_bind (wpAny_sequenceKey ht.typeIs (by decide) ?_)
  refine wpAny_bind (wpAny_callSpecial?_slot (name := Str.ofString "__getitem__") ht.typeIs PyProof.Rows.slot_tuple_getitem
    (wpAny_call_entry PyProof.Rows.slot_tuple_getitem ht.typeIs PyProof.Rows.entry_tuple_getitem ?_ (PyProof.Rows.args_tuple_getitem _ _)))
  show wpAny _ _ (Builtin.Tuple.tupleItemsOf (.ref t) >>= _) _ _ s
  refine wpAny_bind (PyProof.Rows.tupleItemsOf_ ht ?_)
  refine wpAny_bind (wpAny_typeOf isS ?_)
  rw [if_pos (by decide)]
  refine wpAny_bind (cut_applied hs pl hk h0 ?_)
  rw [List.size_toArray]
  generalize (Builtin.Slice.sliceAdjust lo none k (us.length : Int)).1 = a at *
  generalize Builtin.Slice.slicePlaces a (Builtin.Slice.sliceAdjust lo none k (us.length : Int)).2 k = c at *
  have no : ¬ ((a == 0 && k == 1 && c == us.length) = true) := by
    intro q
    rw [Bool.and_eq_true, Bool.and_eq_true] at q
    exact h1 (eq_of_beq q.1.2)
  show wpAny _ _ (if (a == 0 && k == 1 && c == us.length) = true then _ else _) _ _ s
  rw [if_neg no]
  have e2 : ((List.range c).filterMap fun (m : Nat) => us.toArray[(a + (m : Int) * k).toNat]?) = pk (stp us.length lo k) us := by
    rw [← e]
    unfold pk
    rw [List.filterMap_map]
    apply congrFun
    apply congrArg
    funext m
    show us.toArray[_]? = us[_]?
    rw [List.getElem?_toArray]
  rw [e2]
  first
    | exact wpAny_bind (m := Builtin.Tuple.tupleExact _) (wpAny_newObj_type (wpAny_pure ⟨_, rfl, wpAny_pure h⟩) room)
    | exact wpAny_bind (m := Builtin.Tuple.tupleExact _) (wpAny_newObj_type (wpAny_bind (wpAny_pure (wpAny_pure ⟨_, rfl, wpAny_pure h⟩))) room)
    | exact wpAny_bind (wpAny_bind (m := Builtin.Tuple.tupleExact _) (wpAny_newObj_type (wpAny_pure (wpAny_pure ⟨_, rfl, wpAny_pure h⟩)) room))
    | exact wpAny_bind (wpAny_bind (m := Builtin.Tuple.tupleExact _) (wpAny_newObj_type (wpAny_pure ⟨_, rfl, wpAny_pure h⟩) room))
end
def StK (X : Cx) (e : Expr) (j : Int) : Prop := PO X (some e) (fun _ H Q => Q (some j) H)
section
variable {G : Gs} {k : Nat} {X : Cx} {pos p : Pos} {a : Ex} {xa xk : Expr} {fa : FA}
theorem stK_pos {i : Int} {kd p1} : StK X (.Constant (.int i) kd p1) i := ⟨fun pins s σ H Q I h => (po_some pe_int).run pins s σ H Q I ⟨i, rfl, h⟩⟩
theorem stK_neg {i : Int} {kd p1 p2} : StK X (.UnaryOp .USub (.Constant (.int i) kd p1) p2) (-i) := ⟨fun pins s σ H Q I h => (po_some (pe_un un_neg pe_int)).run pins s σ H Q I ⟨i, rfl, -i, rfl, h⟩⟩
theorem pe_stE {lo : Option Ex} {xl : Option Expr} {j : Int} {p2 : Pos} (hk : StK X xk j) (ha : PE X xa (tO G k X.K a)) (hl : PO X xl (tBd G k X.K lo)) : PE X (.Subscript xa (.Slice xl none (some xk) p2) pos) (tE G k X.K (.st a lo j)) := by
  refine ⟨fun pins s σ H Q I ⟨S, ρ, d, fr, ρ', rl, ev, post⟩ => ?_⟩
  simp only [Gs.ev, evE] at ev
  obtain ⟨⟨o, ρ1⟩, e1, ev⟩ := R.bind_ok ev
  obtain ⟨⟨lo', ρ2⟩, e2, ev⟩ := R.bind_ok ev
  obtain ⟨pv, e4, ev⟩ := opt_ok ev
  obtain ⟨z, e5, ev⟩ := opt_ok ev
  cases ev
  refine PyProof.Rows.Subscript_ (thn (ha.run pins s σ H (fun x H1 => ∃ S1, Go X.K G.fa σ S ρ H S1 ρ1 H1 ∧ OV X.K G.fa S1 σ x o) I ⟨S, ρ, o, ρ1, rl, e1, fun x H1 S1 g ov => ⟨S1, g, ov⟩⟩) fun v s1 ⟨x, H1, I1, r1, S1, g1, ov⟩ => ?_)
  refine wpAny_Slice (thn (hl.run pins s1 σ H1 (fun i H2 => i = lo' ∧ ∃ S2, Go X.K G.fa σ S1 ρ1 H1 S2 ρ2 H2) I1 ⟨S1, ρ1, lo', ρ2, g1.rl, e2, fun H2 S2 g2 => ⟨rfl, S2, g2⟩⟩) fun vl s2 ⟨l', H2, I2, pl, el, S2, g2⟩ => ?_)
  subst el
  refine thn (po_none.run pins s2 σ H2 (fun i H3 => i = none ∧ H3 = H2) I2 ⟨rfl, rfl⟩) fun vu s3 ⟨u, H3, I3, pu, eu, e3⟩ => ?_
  subst eu e3
  refine thn (hk.run pins s3 σ H3 (fun i H4 => i = some j ∧ H4 = H3) I3 ⟨rfl, rfl⟩) fun vk s4 ⟨i, H4, I4, pk', ei, e4'⟩ => ?_
  subst ei e4'
  cases pu
  have I5 : Inv X pins σ H4 { s4 with heap := s4.heap.push { cls := .type "slice", data := .fields #[vl, .none, vk] } } := I4.kept (t' := s4.toks) fun b ob q => Heap.get?_push_of_some _ q
  have sO := Heap.IsSliceOf.new s4.heap vl .none vk
  have sub := g2.rl.sub
  have hp := (ov.mono g2.sub).get g2.rl e4
  cases pv with
  | lst ds =>
    simp only [skD] at e5
    split at e5
    · rename_i ok
      cases e5
      obtain ⟨a, vs, rfl, t, r⟩ := hp.lst sub
      cases r1
      obtain ⟨its, rv, hl', hz⟩ := I5.list (.inl t)
      refine PyProof.Rows.tail_any (ops := [.ref a, .ref s4.heap.objs.size]) hl'.isList.typeIs (PySem.slot_list_getitem.lookup) ?_ (by with_unfolding_all rfl)
      refine wpAny_getItem_list_slice hl'.isList sO pl .none pk' (by
        intro e
        cases e
        simp [stOk] at ok) ?_ (by rw [List.size_toArray, ← rv.length]; exact hz)
      have e9 : slicePick its.toArray l' none (some j) = (pk (stp vs.length l' j) its).toArray := by
        unfold slicePick
        rw [stp_list ok, List.size_toArray, ← rv.length]
        unfold pk
        congr 1
        apply congrFun
        apply congrArg
        funext m
        exact List.getElem?_toArray
      rw [e9]
      have hj : j ≠ 0 := by
        intro e
        subst e
        simp [stOk] at ok
      have hn := I5.hok.fresh (Nat.le_refl _)
      refine ⟨.ref _, _, I5.laid (t' := s4.toks) (o := .lst (pk (stp vs.length l' j) vs)) (fun b ob q => Heap.get?_push_of_some _ q) (Nat.le_refl _) ?_, rfl, ?_⟩
      · exact ⟨Nat.le_trans (pk_len _ _) (Nat.le_trans (stp_len _ _ _ hj) hz), _, 0, vals_pk rv _, Heap.get?_push_size _ rfl⟩
      · refine post _ _ S2 (((g1.trans g2)).trans ((Gr.fresh sub hn).go g2.rl)) (RV0.lift (g1.trans g2) (rv0T hn (sub.none hn) ?_))
        rw [r.length]
        exact reps_pk r _
    · cases e5
  | tup ds =>
    simp only [skD] at e5
    split at e5
    · rename_i ok
      cases e5
      obtain ⟨a, vs, rfl, t, t', r⟩ := hp.tup sub
      cases r1
      obtain ⟨its, rv, ht, hz⟩ := I5.tuple t
      refine PyProof.Rows.tail_any (ops := [.ref a, .ref s4.heap.objs.size]) ht.typeIs PyProof.Rows.slot_tuple_getitem.lookup ?_ (by with_unfolding_all rfl)
      refine cut_get ht sO pl pk' (by rw [← rv.length]; exact hz) ok ?_
      rw [← rv.length]
      have hj : j ≠ 0 := by
        intro e
        subst e
        simp [stOk] at ok
      have hn := I5.hok.fresh (Nat.le_refl _)
      refine ⟨.ref _, _, I5.laid (t' := s4.toks) (o := .frz (tuO (pk (stp vs.length l' j) its)) (.tup (pk (stp vs.length l' j) vs))) (fun b ob q => Heap.get?_push_of_some _ q) (Nat.le_refl _) ?_, rfl, ?_⟩
      · exact ⟨Heap.get?_push_size _ rfl, Nat.le_trans (pk_len _ _) (Nat.le_trans (stp_len _ _ _ hj) hz), _, vals_pk rv _, PyProof.Rows.IsTup.new _ _⟩
      · obtain ⟨g, rr⟩ := Gr.tupF (o := tuO (pk (stp vs.length l' j) its)) sub hn rfl (reps_pk r (stp vs.length l' j))
        refine post _ _ _ ((g1.trans g2).trans (g.go g2.rl)) (RV0.lift (g1.trans g2) (rv0F ?_))
        rw [← r.length]
        exact rr
    · cases e5
  | _ => cases e5
end
end G

/-! calls of the program's own defs -/
namespace G
open PySem PySem.Spec L2
section
variable {K : PySem.W.Frag} {fa : FA} {S S' H H' : Hp} {σ : L2.St} {ρ : En}
inductive AR (K : PySem.W.Frag) (fa : FA) (S : Hp) (σ : L2.St) (ρ : En) : List V → List SV → List Nat → List Nat → Prop
  | nil : AR K fa S σ ρ [] [] [] []
  | lent {i : Nat} {d : D} {v : V} {vs : List V} {as : List SV} {l b : List Nat} : ρ[i]? = some (some (SV.own d)) → σ[i]? = some (some v) → AR K fa S σ ρ vs as l b → AR K fa S σ ρ (v :: vs) (.own d :: as) (i :: l) b
  | shown {i : Nat} {d : D} {v : V} {vs : List V} {as : List SV} {l b : List Nat} : ρ[i]? = some (some (SV.own d)) → σ[i]? = some (some v) → AR K fa S σ ρ vs as l b → AR K fa S σ ρ (v :: vs) (.val d :: as) l (i :: b)
  | val {d : D} {v : V} {vs : List V} {as : List SV} {l b : List Nat} : Rep K fa S v d → AR K fa S σ ρ vs as l b → AR K fa S σ ρ (v :: vs) (.val d :: as) l b
theorem AR.of (rl : Rl K fa S σ ρ H) : ∀ {vs : List V} {os : List Od} {ms : List Bool} {as : List SV} {l b : List Nat}, OVs K fa S σ vs os → mkArgs ρ os ms = some (as, l, b) → AR K fa S σ ρ vs as l b
  | _, _, ms, _, _, _, .nil, e => by
    simp only [mkArgs] at e
    cases e
    exact .nil
  | _, _, ms, _, _, _, .cons (o := o) h t, e => by
    cases o with
    | s i =>
      have h : σ[i]? = some (some _) := h
      cases ms with
      | nil => simp [mkArgs] at e
      | cons m ms =>
        simp only [mkArgs] at e
        split at e
        · rename_i q
          obtain ⟨⟨a, l, b⟩, e1, e2⟩ := Option.map_eq_some_iff.mp e
          cases e2
          exact .lent q h (AR.of rl t e1)
        · rename_i q
          obtain ⟨⟨a, l, b⟩, e1, e2⟩ := Option.map_eq_some_iff.mp e
          cases e2
          exact .shown q h (AR.of rl t e1)
        · rename_i q
          obtain ⟨⟨a, l, b⟩, e1, e2⟩ := Option.map_eq_some_iff.mp e
          cases e2
          obtain ⟨v, q1, q2⟩ := rl.val i _ q
          rw [h] at q1; cases q1
          exact .val q2 (AR.of rl t e1)
        · cases e
    | v d =>
      cases ms with
      | nil => simp [mkArgs] at e
      | cons m ms =>
        simp only [mkArgs] at e
        split at e
        · cases e
        · obtain ⟨⟨a, l, b⟩, e1, e2⟩ := Option.map_eq_some_iff.mp e
          cases e2
          exact .val h (AR.of rl t e1)
theorem AR.length {vs : List V} {as : List SV} {l b : List Nat} (h : AR K fa S σ ρ vs as l b) : vs.length = as.length := by
  induction h <;> simp_all
theorem AR.own {vs : List V} {as : List SV} {l b : List Nat} (rl : Rl K fa S σ ρ H) (h : AR K fa S σ ρ vs as l b) : ∀ (j : Nat) (d : D), as[j]? = some (.own d) → ∃ i a, i ∈ l ∧ ρ[i]? = some (some (.own d)) ∧ vs[j]? = some (.ref a) ∧ σ[i]? = some (some (.ref a)) := by
  induction h with
  | nil => intro j d e; simp at e
  | @lent i d v vs as l b h1 h2 _ ih =>
    intro j d' e
    cases j with
    | zero =>
      simp at e
      subst e
      obtain ⟨a, q, _⟩ := rl.own i d h1
      rw [h2] at q
      cases q
      exact ⟨i, a, by simp, h1, rfl, h2⟩
    | succ j =>
      obtain ⟨i', a, q1, q2, q3, q4⟩ := ih j d' (by simpa using e)
      exact ⟨i', a, List.mem_cons_of_mem _ q1, q2, by simpa using q3, q4⟩
  | shown h1 h2 _ ih =>
    intro j d' e
    cases j with
    | zero => simp at e
    | succ j =>
      obtain ⟨i', a, q1, q2, q3, q4⟩ := ih j d' (by simpa using e)
      exact ⟨i', a, q1, q2, by simpa using q3, q4⟩
  | val h1 _ ih =>
    intro j d' e
    cases j with
    | zero => simp at e
    | succ j =>
      obtain ⟨i', a, q1, q2, q3, q4⟩ := ih j d' (by simpa using e)
      exact ⟨i', a, q1, q2, by simpa using q3, q4⟩
/-- the addresses that are shown -/
def Bd (σ : L2.St) (ρ : En) (b : List Nat) (a : Addr) : Prop := ∃ i ∈ b, ∃ d, ρ[i]? = some (some (SV.own d)) ∧ σ[i]? = some (some (.ref a))
theorem AR.val' {vs : List V} {as : List SV} {l b : List Nat} (rl : Rl K fa S σ ρ H) {Sc : Hp} (h : AR K fa S σ ρ vs as l b) (sub : Sub S Sc) : (∀ a, Bd σ ρ b a → Sc a = H a) → ∀ (j : Nat) (d : D), as[j]? = some (.val d) → ∃ v, vs[j]? = some v ∧ Rep K fa Sc v d := by
  induction h with
  | nil => intro _ j d e; simp at e
  | lent h1 h2 _ ih =>
    intro hb j d' e
    cases j with
    | zero => simp at e
    | succ j =>
      obtain ⟨v, q1, q2⟩ := ih hb j d' (by simpa using e)
      exact ⟨v, by simpa using q1, q2⟩
  | @shown i d v vs as l b h1 h2 _ ih =>
    intro hb j d' e
    cases j with
    | zero =>
      simp at e
      subst e
      obtain ⟨a, q, q1, ws, ds, rfl, q2, q3⟩ := rl.own i d h1
      rw [h2] at q
      cases q
      refine ⟨_, rfl, .lst (.inl ?_) (q3.mono sub)⟩
      rw [hb a ⟨i, by simp, _, h1, h2⟩]
      exact q2
    | succ j =>
      obtain ⟨v, q1, q2⟩ := ih (fun a ⟨i, h, z⟩ => hb a ⟨i, List.mem_cons_of_mem _ h, z⟩) j d' (by simpa using e)
      exact ⟨v, by simpa using q1, q2⟩
  | val h1 _ ih =>
    intro hb j d' e
    cases j with
    | zero =>
      simp at e
      subst e
      exact ⟨_, rfl, h1.mono sub⟩
    | succ j =>
      obtain ⟨v, q1, q2⟩ := ih hb j d' (by simpa using e)
      exact ⟨v, by simpa using q1, q2⟩
theorem AR.dis {vs : List V} {as : List SV} {l b : List Nat} (rl : Rl K fa S σ ρ H) (h : AR K fa S σ ρ vs as l b) : l.Nodup → ∀ (j j' : Nat) (d d' : D) (a : Addr), as[j]? = some (.own d) → as[j']? = some (.own d') → vs[j]? = some (.ref a) → vs[j']? = some (.ref a) → j = j' := by
  induction h with
  | nil => intro _ j _ d _ _ e; simp at e
  | @lent i d v vs as l b h1 h2 t ih =>
    intro nd j j' d1 d2 a e1 e2 e3 e4
    have nd := List.nodup_cons.mp nd
    cases j with
    | zero =>
      cases j' with
      | zero => rfl
      | succ j' =>
        simp at e3
        subst e3
        obtain ⟨i', a', q1, q2, q3, q4⟩ := t.own rl j' d2 (by simpa using e2)
        rw [show vs[j']? = some (.ref a) by simpa using e4] at q3
        cases q3
        exact absurd (rl.dis i i' _ _ _ h1 q2 h2 q4 ▸ q1) nd.1
    | succ j =>
      cases j' with
      | zero =>
        simp at e4
        subst e4
        obtain ⟨i', a', q1, q2, q3, q4⟩ := t.own rl j d1 (by simpa using e1)
        rw [show vs[j]? = some (.ref a) by simpa using e3] at q3
        cases q3
        exact absurd (rl.dis i i' _ _ _ h1 q2 h2 q4 ▸ q1) nd.1
      | succ j' => rw [ih nd.2 j j' d1 d2 a (by simpa using e1) (by simpa using e2) (by simpa using e3) (by simpa using e4)]
  | shown h1 h2 _ ih =>
    intro nd j j' d1 d2 a e1 e2 e3 e4
    cases j with
    | zero => simp at e1
    | succ j =>
      cases j' with
      | zero => simp at e2
      | succ j' => rw [ih nd j j' d1 d2 a (by simpa using e1) (by simpa using e2) (by simpa using e3) (by simpa using e4)]
  | val h1 _ ih =>
    intro nd j j' d1 d2 a e1 e2 e3 e4
    cases j with
    | zero => simp at e1
    | succ j =>
      cases j' with
      | zero => simp at e2
      | succ j' => rw [ih nd j j' d1 d2 a (by simpa using e1) (by simpa using e2) (by simpa using e3) (by simpa using e4)]
theorem AR.outs {vs : List V} {as : List SV} {l b : List Nat} (h : AR K fa S σ ρ vs as l b) : ∀ (outs : List D) (m i : Nat) (d : D), l[m]? = some i → outs[m]? = some d → ∃ (j : Nat) (v : V), (reA as outs)[j]? = some (.own d) ∧ vs[j]? = some v ∧ σ[i]? = some (some v) := by
  induction h with
  | nil => intro _ m i d e; simp at e
  | @lent i d v vs as l b h1 h2 t ih =>
    intro outs m i' d' e1 e2
    cases outs with
    | nil => simp at e2
    | cons o outs =>
      cases m with
      | zero =>
        simp at e1 e2
        subst e1 e2
        exact ⟨0, v, by simp [reA], rfl, h2⟩
      | succ m =>
        obtain ⟨j, w, q1, q2, q3⟩ := ih outs m i' d' (by simpa using e1) (by simpa using e2)
        exact ⟨j + 1, w, by simpa [reA] using q1, by simpa using q2, q3⟩
  | shown h1 h2 _ ih =>
    intro outs m i' d' e1 e2
    obtain ⟨j, w, q1, q2, q3⟩ := ih outs m i' d' e1 e2
    exact ⟨j + 1, w, by simpa [reA] using q1, by simpa using q2, q3⟩
  | val h1 _ ih =>
    intro outs m i' d' e1 e2
    obtain ⟨j, w, q1, q2, q3⟩ := ih outs m i' d' e1 e2
    exact ⟨j + 1, w, by simpa [reA] using q1, by simpa using q2, q3⟩
theorem AR.lIsOwn {vs : List V} {as : List SV} {l b : List Nat} (h : AR K fa S σ ρ vs as l b) : ∀ i ∈ l, ∃ d, ρ[i]? = some (some (.own d)) := by
  induction h with
  | nil => intro i h; simp at h
  | lent h1 h2 _ ih =>
    intro j hj
    rcases List.mem_cons.mp hj with rfl | hj
    · exact ⟨_, h1⟩
    · exact ih j hj
  | shown h1 h2 _ ih => exact ih
  | val h1 _ ih => exact ih
theorem apart_iff : ∀ {l b : List Nat}, apart l b = true → l.Nodup ∧ ∀ i ∈ l, i ∉ b
  | [], b, _ => ⟨List.nodup_nil, fun _ h => nomatch h⟩
  | i :: r, b, h => by
    simp only [apart, Bool.and_eq_true, Bool.not_eq_true', List.contains_eq_mem, decide_eq_false_iff_not] at h
    obtain ⟨h1, h2⟩ := apart_iff h.2
    refine ⟨List.nodup_cons.mpr ⟨h.1.1, h1⟩, fun j hj => ?_⟩
    rcases List.mem_cons.mp hj with rfl | hj
    · exact h.1.2
    · exact h2 j hj
theorem putAll_out : ∀ {l : List Nat} {ds : List D} {ρ : En} {i : Nat}, i ∉ l → (putAll ρ l ds)[i]? = ρ[i]?
  | [], _, _, _, _ => by simp [putAll]
  | j :: l, [], _, _, _ => by simp [putAll]
  | j :: l, d :: ds, ρ, i, h => by
    simp only [List.mem_cons, not_or] at h
    rw [putAll, putAll_out h.2, List.getElem?_set_ne (Ne.symm h.1)]
theorem putAll_len : ∀ {l : List Nat} {ds : List D} {ρ : En}, (putAll ρ l ds).length = ρ.length
  | [], _, _ => by simp [putAll]
  | j :: l, [], _ => by simp [putAll]
  | j :: l, d :: ds, ρ => by rw [putAll, putAll_len, List.length_set]
theorem putAll_in : ∀ {l : List Nat} {ds : List D} {ρ : En} {m i : Nat} {d : D}, l.Nodup → l[m]? = some i → ds[m]? = some d → i < ρ.length → (putAll ρ l ds)[i]? = some (some (.own d))
  | [], _, _, m, _, _, _, e, _, _ => by simp at e
  | j :: l, [], _, m, _, _, _, _, e, _ => by simp at e
  | j :: l, d :: ds, ρ, 0, i, d', nd, e1, e2, h => by
    simp at e1 e2
    subst e1 e2
    rw [putAll, putAll_out (List.nodup_cons.mp nd).1, List.getElem?_set_self h]
  | j :: l, d :: ds, ρ, m + 1, i, d', nd, e1, e2, h => by
    rw [putAll]
    exact putAll_in (List.nodup_cons.mp nd).2 (by simpa using e1) (by simpa using e2) (by simpa using h)
theorem frz1_at {ρ : En} {i j : Nat} : (i ≠ j ∧ (frz1 (.s j) ρ)[i]? = ρ[i]?) ∨ (i = j ∧ ((∃ d, ρ[i]? = some (some (.own d)) ∧ (frz1 (.s j) ρ)[i]? = some (some (.val d))) ∨ ((frz1 (.s j) ρ)[i]? = ρ[i]? ∧ ∀ d, ρ[i]? ≠ some (some (.own d))))) := by
  by_cases e : i = j
  · refine .inr ⟨e, ?_⟩
    subst e
    simp only [frz1]
    split
    · rename_i d q
      exact .inl ⟨d, q, List.getElem?_set_self (List.getElem?_eq_some_iff.mp q).1⟩
    · rename_i q
      exact .inr ⟨rfl, fun d h => q d h⟩
  · refine .inl ⟨e, ?_⟩
    simp only [frz1]
    split
    · exact List.getElem?_set_ne (Ne.symm e)
    · rfl
theorem freeze_at : ∀ {b : List Nat} {ρ : En} {i : Nat}, (freeze ρ b)[i]? = ρ[i]? ∨ ∃ d, i ∈ b ∧ ρ[i]? = some (some (.own d)) ∧ (freeze ρ b)[i]? = some (some (.val d))
  | [], _, _ => .inl rfl
  | j :: b, ρ, i => by
    rw [freeze]
    rcases freeze_at (b := b) (ρ := frz1 (.s j) ρ) (i := i) with h | ⟨d', h1, h2, h3⟩ <;> rcases frz1_at (ρ := ρ) (i := i) (j := j) with ⟨e, z⟩ | ⟨e, ⟨d, z, z'⟩ | ⟨z, _⟩⟩
    · exact .inl (h.trans z)
    · exact .inr ⟨d, by simp [e], z, h.trans z'⟩
    · exact .inl (h.trans z)
    · exact .inr ⟨d', List.mem_cons_of_mem _ h1, z ▸ h2, h3⟩
    · rw [z'] at h2; cases h2
    · exact .inr ⟨d', List.mem_cons_of_mem _ h1, z ▸ h2, h3⟩
theorem freeze_no : ∀ {b : List Nat} {ρ : En} {i : Nat} {d : D}, i ∈ b → (freeze ρ b)[i]? ≠ some (some (.own d))
  | j :: b, ρ, i, d, h, e => by
    rw [freeze] at e
    by_cases hb : i ∈ b
    · exact freeze_no hb e
    · have e1 : i = j := (List.mem_cons.mp h).resolve_right hb
      rcases freeze_at (b := b) (ρ := frz1 (.s j) ρ) (i := i) with q | ⟨_, q, _⟩
      · rw [e] at q
        rcases frz1_at (ρ := ρ) (i := i) (j := j) with ⟨z, _⟩ | ⟨_, ⟨d', _, z⟩ | ⟨z, z'⟩⟩
        · exact z e1
        · rw [z] at q; cases q
        · exact z' d (z ▸ q.symm)
      · exact hb q
theorem freeze_len : ∀ {b : List Nat} {ρ : En}, (freeze ρ b).length = ρ.length
  | [], _ => rfl
  | j :: b, ρ => by
    rw [freeze, freeze_len]
    simp only [frz1]
    split
    · rw [List.length_set]
    · rfl
mutual
theorem Rep.erase {p : Addr → Prop} (hp : ∀ a, p a → ∃ xs, S a = some (.lst xs)) (hS : ∀ a o, S a = some o → ¬ p a → S' a = some o) : ∀ {d : D} {v : V}, Rep K fa S v d → flat d = true → Rep K fa S' v d
  | _, _, .non, _ => .non
  | _, _, .bl b, _ => .bl b
  | _, _, .int i, _ => .int i
  | _, _, .str x h, _ => .str x h
  | _, _, .tup (a := a) h t r, f => by
    refine .tup ?_ (fun z => let ⟨o, u, e, q⟩ := t z; ⟨o, u, hS _ _ e fun z => (by
      obtain ⟨xs, e'⟩ := hp _ z
      rw [e] at e'; cases e'; done), q⟩) (Reps.erase hp hS r (by simpa [flat] using f))
    rcases h with (h | ⟨o, h⟩) | h
    · refine .inl (.inl (hS _ _ h fun z => ?_))
      obtain ⟨xs, e⟩ := hp _ z
      rw [h] at e; cases e
    · refine .inl (.inr ⟨o, hS _ _ h fun z => ?_⟩)
      obtain ⟨xs, e⟩ := hp _ z
      rw [h] at e; cases e
    · exact .inr h
  | _, _, .lst h r, f => by simp [flat] at f
  | _, _, .fn l h, _ => .fn l h
  | _, _, .ins h, _ => .ins h
theorem Reps.erase {p : Addr → Prop} (hp : ∀ a, p a → ∃ xs, S a = some (.lst xs)) (hS : ∀ a o, S a = some o → ¬ p a → S' a = some o) : ∀ {ds : List D} {vs : List V}, Reps K fa S vs ds → flatL ds = true → Reps K fa S' vs ds
  | _, _, .nil, _ => .nil
  | _, _, .cons h r, f => by
    simp only [flatL, Bool.and_eq_true] at f
    exact .cons (Rep.erase hp hS h f.1) (Reps.erase hp hS r f.2)
end
end
end G

/-! calls: the state behind -/
namespace G
open PySem PySem.Spec L2
section
variable {K : PySem.W.Frag} {fa : FA} {S S' H H' : Hp} {σ : L2.St} {ρ : En}
noncomputable def shown (S H : Hp) (p : Addr → Prop) : Hp := fun a => @ite _ (p a) (Classical.propDecidable _) (H a) (S a)
noncomputable def hidden (S : Hp) (p : Addr → Prop) : Hp := fun a => @ite _ (p a) (Classical.propDecidable _) none (S a)
theorem shown_in {p : Addr → Prop} {a : Addr} (h : p a) : shown S H p a = H a := by unfold shown; rw [if_pos h]
theorem shown_out {p : Addr → Prop} {a : Addr} (h : ¬ p a) : shown S H p a = S a := by unfold shown; rw [if_neg h]
theorem hidden_in {p : Addr → Prop} {a : Addr} (h : p a) : hidden S p a = none := by unfold hidden; rw [if_pos h]
theorem hidden_out {p : Addr → Prop} {a : Addr} (h : ¬ p a) : hidden S p a = S a := by unfold hidden; rw [if_neg h]
theorem map_some_at {as : List SV} {j : Nat} {x : SV} : (as.map some)[j]? = some (some x) ↔ as[j]? = some x := by
  rw [List.getElem?_map]
  cases as[j]? <;> simp
theorem mapV_some_at {as : List V} {j : Nat} {x : V} : (as.map some)[j]? = some (some x) ↔ as[j]? = some x := by
  rw [List.getElem?_map]
  cases as[j]? <;> simp
theorem reA_len : ∀ (as : List SV) (outs : List D), (reA as outs).length = as.length
  | [], outs => by cases outs <;> simp [reA]
  | .own d :: as, [] => by simp [reA, reA_len as []]
  | .own d :: as, o :: outs => by simp [reA, reA_len as outs]
  | .val d :: as, outs => by simp [reA, reA_len as outs]
theorem call_go (rl : Rl K fa S σ ρ H) {vs : List V} {args : List SV} {l b : List Nat} (ar : AR K fa S σ ρ vs args l b) (nd : l.Nodup) (ap : ∀ i ∈ l, i ∉ b) :
    ∃ Sc, Rl K fa Sc (vs.map some) (args.map some) H ∧ ∀ (d : D) (fr : Bool) (outs : List D) (v : V) (H' S' : Hp), outs.length = l.length → Go K fa (vs.map some) Sc (args.map some) H S' ((reA args outs).map some) H' →
      RV K fa (vs.map some) ((reA args outs).map some) H S' H' v d fr → ∃ S'', Go K fa σ S ρ H S'' (if b.isEmpty || (topFlat d fr && outs.all (topFlat · true)) then putAll ρ l outs else freeze (putAll ρ l outs) b) H' ∧
        RV K fa σ (if b.isEmpty || (topFlat d fr && outs.all (topFlat · true)) then putAll ρ l outs else freeze (putAll ρ l outs) b) H S'' H' v d fr := by
  have bdS : ∀ a, Bd σ ρ b a → S a = none := fun a ⟨i, _, d, h1, h2⟩ => rl.not_S ⟨i, d, h1, h2⟩
  have bdH : ∀ a, Bd σ ρ b a → ∃ xs, H a = some (.lst xs) := fun a ⟨i, _, d, h1, h2⟩ => by
    obtain ⟨a', q, _, ws, ds, _, q2, _⟩ := rl.own i d h1
    rw [h2] at q; cases q
    exact ⟨ws, q2⟩
  have subC : Sub S (shown S H (Bd σ ρ b)) := fun a o e => by
    rw [shown_out]; exact e
    intro z
    rw [bdS a z] at e; cases e
  have subH : Sub (shown S H (Bd σ ρ b)) H := fun a o e => by
    by_cases z : Bd σ ρ b a
    · rw [shown_in z] at e; exact e
    · rw [shown_out z] at e; exact rl.sub _ _ e
  -- a lent slot's address is not shown
  have lentB : ∀ i ∈ l, ∀ d a, ρ[i]? = some (some (SV.own d)) → σ[i]? = some (some (.ref a)) → ¬ Bd σ ρ b a := fun i hi d a h1 h2 ⟨j, hj, d', h3, h4⟩ => ap i hi (rl.dis i j _ _ _ h1 h3 h2 h4 ▸ hj)
  have owA : ∀ {a : Addr}, Ow (vs.map some) (args.map some) a → ∃ i ∈ l, ∃ d, ρ[i]? = some (some (SV.own d)) ∧ σ[i]? = some (some (.ref a)) := fun {a} ⟨j, d, h1, h2⟩ => by
    obtain ⟨i, a', q1, q2, q3, q4⟩ := ar.own rl j d (map_some_at.mp h1)
    rw [mapV_some_at.mp h2] at q3; cases q3
    exact ⟨i, q1, d, q2, q4⟩
  refine ⟨shown S H (Bd σ ρ b), ⟨subH, by rw [List.length_map, List.length_map, ar.length], fun j d e => ?_, fun j d e => ?_, fun j j' d d' a e1 e2 e3 e4 => ?_⟩, fun d fr outs v H' S' hl g rv => ?_⟩
  · obtain ⟨v, q1, q2⟩ := ar.val' rl subC (fun a h => shown_in h) j d (map_some_at.mp e)
    exact ⟨v, mapV_some_at.mpr q1, q2⟩
  · obtain ⟨i, a, q1, q2, q3, q4⟩ := ar.own rl j d (map_some_at.mp e)
    obtain ⟨a', w1, w2, ws, ds, w3, w4, w5⟩ := rl.own i d q2
    rw [q4] at w1; cases w1
    refine ⟨a, mapV_some_at.mpr q3, ?_, ws, ds, w3, w4, w5.mono subC⟩
    rw [shown_out (lentB i q1 d a q2 q4)]
    exact w2
  · exact ar.dis rl nd j j' d d' a (map_some_at.mp e1) (map_some_at.mp e2) (mapV_some_at.mp e3) (mapV_some_at.mp e4)
  -- what the call leaves
  have subS : Sub S S' := subC.trans g.sub
  have keepH : ∀ i d a, i ∉ l → ρ[i]? = some (some (SV.own d)) → σ[i]? = some (some (.ref a)) → H' a = H a := fun i d a hi h1 h2 => by
    obtain ⟨a', w1, w2, ws, ds, w3, w4, w5⟩ := rl.own i d h1
    rw [h2] at w1; cases w1
    rw [w4]
    refine g.fr a _ w4 fun z => ?_
    obtain ⟨j, hj, d', q1, q2⟩ := owA z
    exact hi (rl.dis i j _ _ _ h1 q1 h2 q2 ▸ hj)
  have bdS' : ∀ a, Bd σ ρ b a → S' a = H a := fun a z => by
    obtain ⟨xs, e⟩ := bdH a z
    rw [e]
    exact g.sub a _ (by rw [shown_in z]; exact e)
  have nwS : ∀ a o, S' a = some o → S a = some o ∨ H a = none ∨ Ow σ ρ a := fun a o e => by
    rcases g.nw a o e with h | h | h
    · by_cases z : Bd σ ρ b a
      · obtain ⟨i, _, d, h1, h2⟩ := z
        exact .inr (.inr ⟨i, d, h1, h2⟩)
      · rw [shown_out z] at h; exact .inl h
    · exact .inr (.inl h)
    · obtain ⟨i, _, d, h1, h2⟩ := owA h
      exact .inr (.inr ⟨i, d, h1, h2⟩)
  have frH : ∀ a o, H a = some o → ¬ Ow σ ρ a → H' a = some o := fun a o e n => g.fr a o e fun z => by
    obtain ⟨i, _, d, h1, h2⟩ := owA z
    exact n ⟨i, d, h1, h2⟩
  -- a slot that is neither lent nor shown
  have otherS : ∀ i d a, i ∉ l → i ∉ b → ρ[i]? = some (some (SV.own d)) → σ[i]? = some (some (.ref a)) → S' a = none := fun i d a h1 h2 h3 h4 => by
    obtain ⟨a', w1, w2, ws, ds, w3, w4, w5⟩ := rl.own i d h3
    rw [h4] at w1; cases w1
    have nb : ¬ Bd σ ρ b a := fun ⟨j, hj, d', q1, q2⟩ => h2 (rl.dis i j _ _ _ h3 q1 h4 q2 ▸ hj)
    cases q : S' a with
    | none => rfl
    | some o =>
      rcases g.nw a o q with z | z | z
      · rw [shown_out nb, w2] at z; cases z
      · rw [w4] at z; cases z
      · obtain ⟨j, hj, d', q1, q2⟩ := owA z
        exact absurd (rl.dis i j _ _ _ h3 q1 h4 q2 ▸ hj) h1
  -- the lent slots
  have lentO : ∀ (m i : Nat) (o : D), l[m]? = some i → outs[m]? = some o → ∃ a, σ[i]? = some (some (.ref a)) ∧ OwnC K fa S' H' a o := fun m i o e1 e2 => by
    obtain ⟨j, w, q1, q2, q3⟩ := ar.outs outs m i o e1 e2
    obtain ⟨a, w1, w2⟩ := g.rl.own j o (map_some_at.mpr q1)
    rw [mapV_some_at.mpr q2] at w1; cases w1
    exact ⟨a, q3, w2⟩
  have lookup : ∀ i (x : SV), (putAll ρ l outs)[i]? = some (some x) → (i ∉ l ∧ ρ[i]? = some (some x)) ∨ ∃ (m : Nat) (o : D), l[m]? = some i ∧ outs[m]? = some o ∧ x = .own o ∧ ∃ d, ρ[i]? = some (some (.own d)) := fun i x e => by
    by_cases hi : i ∈ l
    · obtain ⟨m, hm, em⟩ := List.getElem_of_mem hi
      have em' : l[m]? = some i := by rw [List.getElem?_eq_getElem hm, em]
      have hm' : m < outs.length := by omega
      have eo := List.getElem?_eq_getElem hm'
      obtain ⟨d, hd⟩ := ar.lIsOwn i hi
      rw [putAll_in nd em' eo (List.getElem?_eq_some_iff.mp hd).1] at e
      cases e
      exact .inr ⟨m, _, em', eo, rfl, d, hd⟩
    · rw [putAll_out hi] at e
      exact .inl ⟨hi, e⟩
  have rvNo : fr = true → ∀ a, v = .ref a → H a = none → ∀ (ρ' : En), (∀ a, Ow σ ρ' a → Ow σ ρ a) → ¬ Ow σ ρ' a := fun _ a _ h ρ' ho z => rl.not_ow h (ho a z)
  have owPut : ∀ a, Ow σ (putAll ρ l outs) a → Ow σ ρ a := fun a ⟨i, x, h1, h2⟩ => by
    rcases lookup i _ h1 with ⟨_, q⟩ | ⟨m, o, _, _, _, d, q⟩
    · exact ⟨i, x, q, h2⟩
    · exact ⟨i, d, q, h2⟩
  by_cases hc : (b.isEmpty || (topFlat d fr && outs.all (topFlat · true))) = true
  · rw [if_pos hc]
    -- the shown slots stay their own
    have er : ∀ {d' : D} {w : V}, Rep K fa S' w d' → (b = [] ∨ flat d' = true) → Rep K fa (hidden S' (Bd σ ρ b)) w d' := fun {d' w} h hf => by
      rcases hf with hf | hf
      · refine h.mono fun a o e => ?_
        rw [hidden_out]; exact e
        rintro ⟨i, hi, _⟩
        rw [hf] at hi; cases hi
      · exact Rep.erase (p := Bd σ ρ b) (fun a z => let ⟨xs, e⟩ := bdH a z; ⟨xs, by rw [bdS' a z]; exact e⟩) (fun a o e n => by rw [hidden_out n]; exact e) h hf
    have ers : ∀ {ds' : List D} {ws : List V}, Reps K fa S' ws ds' → (b = [] ∨ flatL ds' = true) → Reps K fa (hidden S' (Bd σ ρ b)) ws ds' := fun {d' w} h hf => by
      rcases hf with hf | hf
      · refine h.mono fun a o e => ?_
        rw [hidden_out]; exact e
        rintro ⟨i, hi, _⟩
        rw [hf] at hi; cases hi
      · exact Reps.erase (p := Bd σ ρ b) (fun a z => let ⟨xs, e⟩ := bdH a z; ⟨xs, by rw [bdS' a z]; exact e⟩) (fun a o e n => by rw [hidden_out n]; exact e) h hf
    have hc' : b = [] ∨ (topFlat d fr = true ∧ ∀ o ∈ outs, topFlat o true = true) := by
      rw [Bool.or_eq_true, Bool.and_eq_true, List.all_eq_true] at hc
      rcases hc with h | h
      · exact .inl (List.isEmpty_iff.mp h)
      · exact .inr ⟨h.1, fun o ho => h.2 o ho⟩
    have subS2 : Sub S (hidden S' (Bd σ ρ b)) := fun a o e => by
      rw [hidden_out]; exact subS a o e
      intro z
      rw [bdS a z] at e; cases e
    have hidS : ∀ a o, hidden S' (Bd σ ρ b) a = some o → ¬ Bd σ ρ b a ∧ S' a = some o := fun a o e => by
      by_cases z : Bd σ ρ b a
      · rw [hidden_in z] at e; cases e
      · rw [hidden_out z] at e; exact ⟨z, e⟩
    refine ⟨hidden S' (Bd σ ρ b), ⟨⟨fun a o e => g.rl.sub a o (hidS a o e).2, by rw [putAll_len]; exact rl.len, fun i x e => ?_, fun i x e => ?_, fun i j x y a e1 e2 e3 e4 => ?_⟩, subS2, frH, owPut, fun a o e => nwS a o (hidS a o e).2, g.al⟩, ?_⟩
    · rcases lookup i _ e with ⟨_, q⟩ | ⟨m, o, _, _, z, _⟩
      · obtain ⟨w, q1, q2⟩ := rl.val i x q
        exact ⟨w, q1, q2.mono subS2⟩
      · cases z
    · rcases lookup i _ e with ⟨hi, q⟩ | ⟨m, o, e1, e2, z, _⟩
      · obtain ⟨a, w1, w2, ws, ds, w3, w4, w5⟩ := rl.own i x q
        refine ⟨a, w1, ?_, ws, ds, w3, by rw [keepH i x a hi q w1]; exact w4, w5.mono subS2⟩
        by_cases hb : i ∈ b
        · exact hidden_in ⟨i, hb, x, q, w1⟩
        · by_cases z : Bd σ ρ b a
          · exact hidden_in z
          · rw [hidden_out z]; exact otherS i x a hi hb q w1
      · cases z
        obtain ⟨a, q1, q2, ws, ds, q3, q4, q5⟩ := lentO m i x e1 e2
        subst q3
        refine ⟨a, q1, ?_, ws, ds, rfl, q4, ers q5 ?_⟩
        · by_cases z : Bd σ ρ b a
          · exact hidden_in z
          · rw [hidden_out z]; exact q2
        · rcases hc' with h | h
          · exact .inl h
          · exact .inr (by simpa [topFlat] using h.2 _ (List.mem_of_getElem? e2))
    · rcases lookup i _ e1 with ⟨_, q⟩ | ⟨_, _, _, _, _, x', q⟩ <;> rcases lookup j _ e2 with ⟨_, q'⟩ | ⟨_, _, _, _, _, y', q'⟩ <;> exact rl.dis i j _ _ _ q q' e3 e4
    · unfold RV at rv ⊢
      cases fr with
      | false =>
        simp only [Bool.false_eq_true, if_false] at rv ⊢
        exact er rv (hc'.imp id fun h => by simpa [topFlat] using h.1)
      | true =>
        simp only [if_true] at rv ⊢
        obtain ⟨a, e1, ⟨e2, ws, ds, e3, e4, e5⟩, e6, e7⟩ := rv
        subst e3
        refine ⟨a, e1, ⟨?_, ws, ds, rfl, e4, ers e5 (hc'.imp id fun h => by simpa [topFlat] using h.1)⟩, e6, fun z => rl.not_ow e6 (owPut a z)⟩
        by_cases z : Bd σ ρ b a
        · exact hidden_in z
        · rw [hidden_out z]; exact e2
  · rw [if_neg hc]
    -- the shown slots are laid by
    have lookup2 : ∀ i (x : SV), (freeze (putAll ρ l outs) b)[i]? = some (some x) → (i ∉ b ∧ (putAll ρ l outs)[i]? = some (some x)) ∨ (i ∈ b ∧ i ∉ l ∧ ((ρ[i]? = some (some x) ∧ ∃ d, x = .val d) ∨ ∃ d, ρ[i]? = some (some (.own d)) ∧ x = .val d)) := fun i x e => by
      rcases freeze_at (b := b) (ρ := putAll ρ l outs) (i := i) with h | ⟨d', h1, h2, h3⟩
      · rw [h] at e
        by_cases hb : i ∈ b
        · have hi : i ∉ l := fun z => ap i z hb
          refine .inr ⟨hb, hi, .inl ?_⟩
          rw [putAll_out hi] at e
          refine ⟨e, ?_⟩
          cases x with
          | val d => exact ⟨d, rfl⟩
          | own d => exact absurd (h.trans (by rw [putAll_out hi]; exact e)) (freeze_no hb)
        · exact .inl ⟨hb, e⟩
      · have hi : i ∉ l := fun z => ap i z h1
        rw [h3] at e
        cases e
        rw [putAll_out hi] at h2
        exact .inr ⟨h1, hi, .inr ⟨d', h2, rfl⟩⟩
    have owF : ∀ a, Ow σ (freeze (putAll ρ l outs) b) a → Ow σ ρ a := fun a ⟨i, x, h1, h2⟩ => by
      rcases lookup2 i _ h1 with ⟨_, q⟩ | ⟨_, _, ⟨_, _, q⟩ | ⟨_, _, q⟩⟩
      · exact owPut a ⟨i, x, q, h2⟩
      · cases q
      · cases q
    refine ⟨S', ⟨⟨g.rl.sub, by rw [freeze_len, putAll_len]; exact rl.len, fun i x e => ?_, fun i x e => ?_, fun i j x y a e1 e2 e3 e4 => ?_⟩, subS, frH, owF, nwS, g.al⟩, ?_⟩
    · rcases lookup2 i _ e with ⟨_, q⟩ | ⟨hb, hi, ⟨q, _⟩ | ⟨d', q, q'⟩⟩
      · rcases lookup i _ q with ⟨_, q⟩ | ⟨m, o, _, _, z, _⟩
        · obtain ⟨w, q1, q2⟩ := rl.val i x q
          exact ⟨w, q1, q2.mono subS⟩
        · cases z
      · obtain ⟨w, q1, q2⟩ := rl.val i x q
        exact ⟨w, q1, q2.mono subS⟩
      · cases q'
        obtain ⟨a, w1, w2, ws, ds, w3, w4, w5⟩ := rl.own i x q
        subst w3
        refine ⟨.ref a, w1, .lst (.inl ?_) (w5.mono subS)⟩
        rw [bdS' a ⟨i, hb, _, q, w1⟩]
        exact w4
    · rcases lookup2 i _ e with ⟨hb, q⟩ | ⟨hb, hi, ⟨_, _, q⟩ | ⟨_, _, q⟩⟩
      · rcases lookup i _ q with ⟨hi, q⟩ | ⟨m, o, e1, e2, z, _⟩
        · obtain ⟨a, w1, w2, ws, ds, w3, w4, w5⟩ := rl.own i x q
          exact ⟨a, w1, otherS i x a hi hb q w1, ws, ds, w3, by rw [keepH i x a hi q w1]; exact w4, w5.mono subS⟩
        · cases z
          exact lentO m i x e1 e2
      · cases q
      · cases q
    · have z1 : ∃ x', ρ[i]? = some (some (.own x')) := by
        rcases lookup2 i _ e1 with ⟨hb, q⟩ | ⟨hb, hi, ⟨_, _, q⟩ | ⟨_, _, q⟩⟩
        · rcases lookup i _ q with ⟨hi, q⟩ | ⟨_, _, _, _, _, x', q⟩
          · exact ⟨_, q⟩
          · exact ⟨_, q⟩
        · cases q
        · cases q
      have z2 : ∃ x', ρ[j]? = some (some (.own x')) := by
        rcases lookup2 j _ e2 with ⟨hb, q⟩ | ⟨hb, hi, ⟨_, _, q⟩ | ⟨_, _, q⟩⟩
        · rcases lookup j _ q with ⟨hi, q⟩ | ⟨_, _, _, _, _, x', q⟩
          · exact ⟨_, q⟩
          · exact ⟨_, q⟩
        · cases q
        · cases q
      obtain ⟨x', q⟩ := z1
      obtain ⟨y', q'⟩ := z2
      exact rl.dis i j _ _ _ q q' e3 e4
    · unfold RV at rv ⊢
      cases fr with
      | false => simpa using rv
      | true =>
        simp only [if_true] at rv ⊢
        obtain ⟨a, e1, e2, e6, e7⟩ := rv
        exact ⟨a, e1, e2, e6, fun z => rl.not_ow e6 (owF a z)⟩
end
section
variable {G : Gs} {k : Nat} {X : Cx} {pos p : Pos} {f : Nat} {es : List Ex} {x : Expr} {xs : List Expr}
theorem passN {X : Cx} : Passes (L2.CX X.prog X.w) X E0 := fun _ _ _ _ _ _ _ h => by
  obtain ⟨_, _, _, _, _, _, _, _, _, _, _, _, h⟩ := h
  exact h.elim
/-- where an expression raises -/
def tR (G : Gs) (k : Nat) (W : WX) (K : PySem.W.Frag) (e : Ex) : TE := fun σ H _ => ∃ S ρ c ρ' a, Rl K G.fa S σ ρ H ∧ G.ev k e ρ = .exc c ρ' ∧ G.ec c = some a ∧ ∀ H' S', Go K G.fa σ S ρ H S' ρ' H' → W (.ref a) none σ H'
def tX (G : Gs) (k : Nat) (W : WX) (K : PySem.W.Frag) (e : Ex) : TE := fun σ H Q => tE G k K e σ H Q ∨ tR G k W K e σ H Q
theorem reA_nil : ∀ as : List SV, reA as [] = as
  | [] => rfl
  | .own _ :: as => by show _ :: reA as [] = _; rw [reA_nil as]
  | .val _ :: as => by show _ :: reA as [] = _; rw [reA_nil as]
theorem cf_len {G : Gs} {k f : Nat} {fd : Fd} {args : List SV} (hT : G.T f = some fd) (h : G.cf k f args ≠ .bad) : args.length = fd.ps := by
  unfold Gs.cf at h
  cases k with
  | zero => exact absurd rfl h
  | succ k =>
    unfold callF at h
    rw [hT] at h
    simp only at h
    split at h
    · rename_i hq
      exact hq.1
    · exact absurd rfl h
theorem call_midO {σ : L2.St} {H : Hp} {Q : VK} {fd : Fd} (hT : G.T f = some fd) (h : tE G k X.K (.call f es) σ H Q) : tCallS (spO G X.K k f) (fun _ => E0) (tOs G k X.K es) σ H Q := by
  obtain ⟨S, ρ, d, fr, ρ', rl, ev, post⟩ := h
  simp only [Gs.ev, evE] at ev
  obtain ⟨⟨os, ρ1⟩, e1, ev⟩ := R.bind_ok ev
  obtain ⟨ms, e2, ev⟩ := opt_ok ev
  obtain ⟨⟨args, l, b⟩, e3, ev⟩ := opt_ok ev
  split at ev
  · rename_i hap
    refine ⟨S, ρ, os, ρ1, rl, e1, fun vs H1 S1 g ov => ?_⟩
    have ar := AR.of g.rl ov e3
    obtain ⟨nd, ap⟩ := apart_iff hap
    obtain ⟨Sc, rc, fin⟩ := call_go g.rl ar nd ap
    cases ec : G.cf k f args with
    | ok d' fr' outs =>
      simp only [ec, callR] at ev
      split at ev
      · rename_i hl
        cases ev
        show spO G X.K k f vs H1 Q E0
        have hps : vs.length = fd.ps := by
          rw [ar.length]
          unfold Gs.cf at ec
          cases k with
          | zero => simp [callF] at ec
          | succ k =>
            unfold callF at ec
            rw [hT] at ec
            simp only at ec
            split at ec
            · rename_i hq
              exact hq.1
            · cases ec
        refine ⟨Sc, args, d, fr, outs, rc, ec, ⟨fd, hT, hps⟩, fun v H' S' g2 rv => ?_⟩
        obtain ⟨S'', g3, rv3⟩ := fin d fr outs v H' S' hl g2 rv
        exact post v H' S'' (g.trans g3) (rv3.ahead g)
      · cases ev
    | exc c o =>
      simp only [ec, callR] at ev
      cases ev
    | bad =>
      simp only [ec, callR] at ev
      cases ev
  · cases ev
theorem call_mid {σ : L2.St} {H : Hp} {Q : VK} {fd : Fd} (hT : G.T f = some fd) (h : tE G k X.K (.call f es) σ H Q) : tCall (spF G X.K k f) [] E0 (tOs G k X.K es) σ H Q := by
  obtain ⟨S, ρ, os, ρ', rl, ev, post⟩ := call_midO hT h
  refine ⟨S, ρ, os, ρ', rl, ev, fun vs H' S' g o => ?_⟩
  show spF G X.K k f (vs ++ []) H' Q E0
  rw [List.append_nil]
  exact .inl (post vs H' S' g o)
theorem pe_callKE {n : Str} {fd : Fd} {a : Addr} {fdat : FuncData} {ps : List Str} {cp : Addr × Obj} (hT : G.T f = some fd) (F : FnK X.prog X.w X.K X.mg X.base (L2.CX X.prog X.w) k a fdat ps cp (spO G X.K k f)) (hr : L2H.RoomH k X.A) (hp : cp ∈ X.pn) (hg : Gl X n) (hm : X.mg n = some (.ref a)) (hk : PySem.W.keepIn X.K (.ref a) = true) (hb : Binds X.K fdat ps [])
    (ha : PA X (x :: xs) (tOs G k X.K es)) (hd : (n == ("__debug__" : Str)) = false) (he : starEach (x :: xs) X.env = (false, eval x X.env) :: starEach xs X.env) (hpl : (backTo pos (starEach xs X.env)).any (·.1) = false) :
    PE X (.Call (.Name n p) (x :: xs) [] pos) (tE G k X.K (.call f es)) := (pe_callK (E := fun _ => E0) F hr hp hg hm hk hb (fun σ pins H s e s' I c => passN pins σ H s e s' I c) ha hd he hpl).weak fun _ _ _ h => call_midO hT h
theorem pe_callE {n : Str} {fd : Fd} {a : Addr} {fdat : FuncData} {ps : List Str} (hT : G.T f = some fd) (F : FnOk X.prog X.w X.K X.mg X.base (L2.CX X.prog X.w) k a fdat ps (spF G X.K k f)) (hr : Room k X.A) (hg : Gl X n) (hm : X.mg n = some (.ref a)) (hk : PySem.W.keepIn X.K (.ref a) = true) (hb : Binds X.K fdat ps [])
    (ha : PA X (x :: xs) (tOs G k X.K es)) (hd : (n == ("__debug__" : Str)) = false) (he : starEach (x :: xs) X.env = (false, eval x X.env) :: starEach xs X.env) (hpl : (backTo pos (starEach xs X.env)).any (·.1) = false) :
    PE X (.Call (.Name n p) (x :: xs) [] pos) (tE G k X.K (.call f es)) := (pe_call F hr hg hm hk hb .nil passN ha hd he hpl).weak fun _ _ _ h => call_mid hT h
theorem pe_callE0 {n : Str} {fd : Fd} {a : Addr} {fdat : FuncData} {ps : List Str} (hT : G.T f = some fd) (F : FnOk X.prog X.w X.K X.mg X.base (L2.CX X.prog X.w) k a fdat ps (spF G X.K k f)) (hr : Room k X.A) (hg : Gl X n) (hm : X.mg n = some (.ref a)) (hk : PySem.W.keepIn X.K (.ref a) = true) (hb : Binds X.K fdat ps [])
    (hd : (n == ("__debug__" : Str)) = false) : PE X (.Call (.Name n p) [] [] pos) (tE G k X.K (.call f [])) := (pe_call0 F hr hg hm hk hb .nil passN hd).weak fun σ H Q h => by
  have := call_mid hT h
  obtain ⟨S, ρ, os, ρ', rl, ev, post⟩ := this
  cases ev
  exact post [] H S (.refl rl) .nil
theorem callx_mid {W : WX} {σ : L2.St} {H : Hp} {Q : VK} {fd : Fd} (hT : G.T f = some fd) (hn : noXs es = true) (h : tX G k W X.K (.callx f es) σ H Q) : tCallS (spF G X.K k f) (WE W) (tOs G k X.K es) σ H Q := by
  rcases h with ⟨S, ρ, d, fr, ρ', rl, ev, post⟩ | ⟨S, ρ, c, ρ', a, rl, ev, hec, post⟩
  · simp only [Gs.ev, evE] at ev
    obtain ⟨⟨os, ρ1⟩, e1, ev⟩ := R.bind_ok ev
    obtain ⟨ms, e2, ev⟩ := opt_ok ev
    obtain ⟨⟨args, l, b⟩, e3, ev⟩ := opt_ok ev
    split at ev
    · rename_i hap
      refine ⟨S, ρ, os, ρ1, rl, e1, fun vs H1 S1 g ov => ?_⟩
      have ar := AR.of g.rl ov e3
      obtain ⟨nd, ap⟩ := apart_iff hap
      obtain ⟨Sc, rc, fin⟩ := call_go g.rl ar nd ap
      cases ec : G.cf k f args with
      | ok d' fr' outs =>
        simp only [ec, callX, callR] at ev
        split at ev
        · rename_i hl
          cases ev
          refine .inl ⟨Sc, args, d, fr, outs, rc, ec, ⟨fd, hT, by rw [ar.length]; exact cf_len hT (by rw [ec]; intro z; cases z)⟩, fun v H' S' g2 rv => ?_⟩
          obtain ⟨S'', g3, rv3⟩ := fin d fr outs v H' S' hl g2 rv
          exact post v H' S'' (g.trans g3) (rv3.ahead g)
        · cases ev
      | exc c o =>
        simp only [ec, callX] at ev
        split at ev <;> cases ev
      | bad =>
        simp only [ec, callX, callR] at ev
        cases ev
    · cases ev
  · simp only [Gs.ev, evE] at ev
    rcases R.bind_exc ev with ev | ⟨⟨os, ρ1⟩, e1, ev⟩
    · exact absurd ev (evOs_nx es hn ρ c ρ')
    obtain ⟨ms, e2, ev⟩ := opt_exc ev
    obtain ⟨⟨args, l, b⟩, e3, ev⟩ := opt_exc ev
    split at ev
    · rename_i hap
      refine ⟨S, ρ, os, ρ1, rl, e1, fun vs H1 S1 g ov => ?_⟩
      have ar := AR.of g.rl ov e3
      obtain ⟨nd, ap⟩ := apart_iff hap
      obtain ⟨Sc, rc, fin⟩ := call_go g.rl ar nd ap
      cases ec : G.cf k f args with
      | ok d' fr' outs =>
        simp only [ec, callX, callR] at ev
        split at ev <;> cases ev
      | exc c' o =>
        simp only [ec, callX] at ev
        split at ev
        · rename_i hlo
          cases ev
          simp only [Bool.and_eq_true, List.isEmpty_iff] at hlo
          obtain ⟨rfl, rfl⟩ := hlo
          refine .inr ⟨Sc, args, c, a, rc, ec, hec, ⟨fd, hT, by rw [ar.length]; exact cf_len hT (by rw [ec]; intro z; cases z)⟩, fun H' S' g2 => ?_⟩
          obtain ⟨S'', g3, _⟩ := fin .non false [] .non H' S' rfl (by rw [reA_nil]; exact g2) .non
          have e : (if (b.isEmpty || (topFlat D.non false && ([] : List D).all (topFlat · true))) = true then putAll ρ' [] [] else freeze (putAll ρ' [] []) b) = ρ' := by
            rw [if_pos (by simp [topFlat, flat])]; rfl
          rw [e] at g3
          exact post H' S'' (g.trans g3)
        · cases ev
      | bad =>
        simp only [ec, callX, callR] at ev
        cases ev
    · cases ev
theorem pe_callxE {W : WX} {n : Str} {fd : Fd} {a : Addr} {fdat : FuncData} {ps : List Str} (hT : G.T f = some fd) (hn : noXs es = true) (tk : Takes X W) (F : FnOk X.prog X.w X.K X.mg X.base (L2.CX X.prog X.w) k a fdat ps (spF G X.K k f)) (hr : Room k X.A) (hg : Gl X n) (hm : X.mg n = some (.ref a)) (hk : PySem.W.keepIn X.K (.ref a) = true) (hb : Binds X.K fdat ps [])
    (ha : PA X (x :: xs) (tOs G k X.K es)) (hd : (n == ("__debug__" : Str)) = false) (he : starEach (x :: xs) X.env = (false, eval x X.env) :: starEach xs X.env) (hpl : (backTo pos (starEach xs X.env)).any (·.1) = false) :
    PE X (.Call (.Name n p) (x :: xs) [] pos) (tX G k W X.K (.callx f es)) := (pe_callS F hr hg hm hk hb (fun τ => passAt tk τ) ha hd he hpl).weak fun _ _ _ h => callx_mid hT hn h
/-- a slot's own list is changed -/
theorem own_set {K : PySem.W.Frag} {fa : FA} {σ : L2.St} {S H : Hp} {ρ : En} {i : Nat} {a : Addr} {d : D} {vs : List V} {ds : List D} (r : Rl K fa S σ ρ H) (q : ρ[i]? = some (some (.own d))) (e : σ[i]? = some (some (.ref a))) (h : Reps K fa S vs ds) :
    Go K fa σ S ρ H S (ρ.set i (some (.own (.lst ds)))) (upd H a (.lst vs)) := by
  obtain ⟨a', e1, h0, ws, es, _, h1, _⟩ := r.own i d q
  rw [e] at e1
  cases e1
  have hi := (List.getElem?_eq_some_iff.mp q).1
  refine ⟨⟨fun b o z => ?_, by simp [r.len], fun j d' z => ?_, fun j d' z => ?_, fun j j' d' d'' b e1 e2 e3 e4 => ?_⟩, .refl, fun b o z n => ?_, fun b z => ?_, fun _ _ z => .inl z, fun b z => ?_⟩
  · rw [upd_ne]; exact r.sub b o z
    rintro rfl
    rw [h0] at z; cases z
  · by_cases x : i = j
    · subst x
      rw [List.getElem?_set_self hi] at z
      cases z
    · rw [List.getElem?_set_ne x] at z
      exact r.val j d' z
  · by_cases x : i = j
    · subst x
      rw [List.getElem?_set_self hi] at z
      cases z
      exact ⟨a, e, h0, vs, ds, rfl, upd_same, h⟩
    · rw [List.getElem?_set_ne x] at z
      obtain ⟨b, w1, w2, us, fs, w3, w4, w5⟩ := r.own j d' z
      refine ⟨b, w1, w2, us, fs, w3, ?_, w5⟩
      rw [upd_ne]; exact w4
      rintro rfl
      exact x (r.dis i j _ _ _ q z e w1)
  · have own : ∀ (j : Nat) (d' : D), (ρ.set i (some (SV.own (.lst ds))))[j]? = some (some (.own d')) → ∃ d0, ρ[j]? = some (some (.own d0)) := fun j d' z => by
      by_cases x : i = j
      · subst x; exact ⟨d, q⟩
      · rw [List.getElem?_set_ne x] at z; exact ⟨d', z⟩
    obtain ⟨d1, z1⟩ := own j d' e1
    obtain ⟨d2, z2⟩ := own j' d'' e2
    exact r.dis j j' _ _ _ z1 z2 e3 e4
  · rw [upd_ne]; exact z
    rintro rfl
    exact n ⟨i, d, q, e⟩
  · obtain ⟨j, d', z1, z2⟩ := z
    by_cases x : i = j
    · subst x; exact ⟨i, d, q, z2⟩
    · rw [List.getElem?_set_ne x] at z1; exact ⟨j, d', z1, z2⟩
  · by_cases x : b = a
    · subst x; rw [upd_same] at z; cases z
    · rw [upd_ne x] at z; exact z
theorem isOwn_iff {o : Option (Option SV)} (h : isOwn o = true) : ∃ d, o = some (some (.own d)) := by
  unfold isOwn at h
  split at h
  · exact ⟨_, rfl⟩
  · cases h
theorem mu_mid {m : Nat} {r : V → List V → Hp → VK → Prop} {i : Nat} {σ : L2.St} {H : Hp} {Q : VK} {e : Ex}
    (hr : ∀ S H a vs w d ds z, Sub S H → S a = none → H a = some (.lst vs) → Reps X.K G.fa S vs ds → Rep X.K G.fa S w d → muD m (.lst ds) [d] = some z → ∃ us es, z = (.non, .lst es) ∧ Reps X.K G.fa S us es ∧ ∀ Q : VK, Q .non (upd H a (.lst us)) → r (.ref a) [w] H Q)
    (h : tE G k X.K (.mu m i [e]) σ H Q) : tBM X.K "list" r (tVar i) (tVs G k X.K [e]) σ H Q := by
  obtain ⟨S, ρ, d, fr, ρ', rl, ev, post⟩ := h
  simp only [Gs.ev, evE] at ev
  split at ev
  · rename_i hO
    obtain ⟨d0, q0⟩ := isOwn_iff hO
    obtain ⟨a, e0, s0, vs0, ds0, _, h0, _⟩ := rl.own i d0 q0
    obtain ⟨⟨xs, ρ1⟩, e1, ev⟩ := R.bind_ok ev
    split at ev
    · rename_i dd q1
      obtain ⟨z, e2, ev⟩ := opt_ok ev
      cases ev
      refine ⟨.ref a, e0, .inl ⟨rfl, vs0, .inl (.inl h0)⟩, S, ρ, xs, ρ1, rl, e1, fun ws H1 S1 g rs => ?_⟩
      obtain ⟨a', z1, z2, vs, ds, z3, z4, z5⟩ := g.rl.own i _ q1
      rw [e0] at z1
      cases z1
      subst z3
      cases rs with
      | nil => simp only [evVs] at e1; obtain ⟨y, _, e1⟩ := R.bind_ok e1; cases e1
      | cons hw t =>
        cases t with
        | nil =>
          obtain ⟨us, es, rfl, ru, fin⟩ := hr S1 H1 a vs _ _ ds z g.rl.sub z2 z4 z5 hw e2
          exact fin Q (post _ _ S1 (g.trans (own_set g.rl q1 e0 ru)) .non)
        | cons _ _ => simp only [evVs] at e1; obtain ⟨y, _, e1⟩ := R.bind_ok e1; cases e1
    · cases ev
  · cases ev
theorem mu_append (S H : Hp) (a : Addr) (vs : List V) (w : V) (d : D) (ds : List D) (z : D × D) (sub : Sub S H) (hS : S a = none) (hH : H a = some (.lst vs)) (r : Reps X.K G.fa S vs ds) (hw : Rep X.K G.fa S w d) (e : muD 0 (.lst ds) [d] = some z) :
    ∃ us es, z = (.non, .lst es) ∧ Reps X.K G.fa S us es ∧ ∀ Q : VK, Q .non (upd H a (.lst us)) → rAppend (.ref a) [w] H Q := by
  simp only [muD, appD] at e
  split at e
  · rename_i hl
    cases e
    exact ⟨_, _, rfl, r.app (.cons hw .nil), fun Q q => ⟨a, vs, w, rfl, rfl, hH, by rw [r.length]; exact hl, q⟩⟩
  · cases e
def rExt : V → List V → Hp → VK → Prop := fun x vs H Q => ∃ l b xs zs, x = .ref l ∧ vs = [.ref b] ∧ H l = some (.lst xs) ∧ Rd H b (.lst zs) ∧ xs.length + zs.length ≤ sizeLine ∧ Q .non (upd H l (.lst (xs ++ zs)))
theorem mu_extend (S H : Hp) (a : Addr) (vs : List V) (w : V) (d : D) (ds : List D) (z : D × D) (sub : Sub S H) (hS : S a = none) (hH : H a = some (.lst vs)) (r : Reps X.K G.fa S vs ds) (hw : Rep X.K G.fa S w d) (e : muD 1 (.lst ds) [d] = some z) :
    ∃ us es, z = (.non, .lst es) ∧ Reps X.K G.fa S us es ∧ ∀ Q : VK, Q .non (upd H a (.lst us)) → rExt (.ref a) [w] H Q := by
  simp only [muD] at e
  cases d with
  | lst ys =>
    simp only [extD] at e
    split at e
    · rename_i hl
      cases e
      cases hw with
      | lst h r' => exact ⟨_, _, rfl, r.app r', fun Q q => ⟨a, _, vs, _, rfl, rfl, hH, sub.rd h, by rw [r.length, r'.length]; exact hl, q⟩⟩
    · cases e
  | _ => simp [extD] at e
/-- list.pop(i) -/
theorem sqi (n : Nat) (i : Int) : seqIndex? i n = ixn n i := by
  unfold seqIndex? ixn
  by_cases h : i < 0
  · have h' : ¬ 0 ≤ i := by omega
    simp only [if_pos h, if_neg h']
    by_cases h2 : 0 ≤ i + n
    · rw [if_pos (by simp only [Bool.and_eq_true, decide_eq_true_eq]; omega), if_pos h2]
    · rw [if_neg (by simp only [Bool.and_eq_true, decide_eq_true_eq]; omega), if_neg h2]
  · have h' : 0 ≤ i := by omega
    simp only [if_neg h, if_pos h']
    by_cases h2 : i < n
    · rw [if_pos (by simp only [Bool.and_eq_true, decide_eq_true_eq]; omega), if_pos h2]
    · rw [if_neg (by simp only [Bool.and_eq_true, decide_eq_true_eq]; omega), if_neg h2]
theorem mu_popM {i : Nat} {σ : L2.St} {H : Hp} {Q : VK} {e : Ex} (h : tE G k X.K (.mu 4 i [e]) σ H Q) : tBM X.K "list" rPopAt (tVar i) (tVs G k X.K [e]) σ H Q := by
  obtain ⟨S, ρ, d, fr, ρ', rl, ev, post⟩ := h
  simp only [Gs.ev, evE] at ev
  split at ev
  · rename_i hO
    obtain ⟨d0, q0⟩ := isOwn_iff hO
    obtain ⟨a, e0, s0, vs0, ds0, _, h0, _⟩ := rl.own i d0 q0
    obtain ⟨⟨xs, ρ1⟩, e1, ev⟩ := R.bind_ok ev
    split at ev
    · rename_i dd q1
      obtain ⟨z, e2, ev⟩ := opt_ok ev
      cases ev
      refine ⟨.ref a, e0, .inl ⟨rfl, vs0, .inl (.inl h0)⟩, S, ρ, xs, ρ1, rl, e1, fun ws H1 S1 g rs => ?_⟩
      obtain ⟨a', z1, z2, vs, ds, z3, z4, z5⟩ := g.rl.own i _ q1
      rw [e0] at z1
      cases z1
      subst z3
      cases rs with
      | nil => simp [muD, popD] at e2
      | cons hw t =>
        cases t with
        | cons _ _ => simp [muD, popD] at e2
        | nil =>
          simp only [muD] at e2
          unfold popD at e2
          split at e2
          · rename_i xs2 kk e3 e4
            cases e3
            cases e4
            cases hw
            split at e2
            · rename_i hk
              obtain ⟨j, e5, e2⟩ := Option.bind_eq_some_iff.mp e2
              obtain ⟨x, e6, rfl⟩ := Option.map_eq_some_iff.mp e2
              obtain ⟨y, g1, r1⟩ := z5.get e6
              exact ⟨a, vs, kk, j, y, rfl, rfl, z4, hk.1, hk.2, by rw [sqi, z5.length]; exact e5, g1, post y _ S1 (g.trans (own_set g.rl q1 e0 (reps_erase j z5))) r1⟩
            · cases e2
          · cases e2
    · cases ev
  · cases ev
/-! ### what may raise, appended -/
def tXV (G : Gs) (k : Nat) (W : WX) (K : PySem.W.Frag) (e : Ex) : TE := fun σ H Q => tV G k K e σ H Q ∨ tR G k W K e σ H Q
theorem pe_xv {W : WX} {e : Ex} {x : Expr} (h : PE X x (tX G k W X.K e)) : PE X x (tXV G k W X.K e) := h.weak fun σ H Q q => by
  rcases q with ⟨S, ρ, d, fr, ρ', rl, ev, post⟩ | q
  · exact .inl ⟨S, ρ, d, fr, ρ', rl, ev, fun v H' S' g rv => let ⟨S2, g2, r2⟩ := rv.frz g; post v H' S2 g2 r2⟩
  · exact .inr q
theorem mu_appX {W : WX} {i : Nat} {σ : L2.St} {H : Hp} {Q : VK} {e : Ex} (h : tX G k W X.K (.mu 0 i [e]) σ H Q) : tBM X.K "list" rAppend (tVar i) (tCons (tXV G k W X.K e) tNil) σ H Q := by
  rcases h with ⟨S, ρ, d, fr, ρ', rl, ev, post⟩ | ⟨S, ρ, c, ρ', b, rl, ev, hec, post⟩
  · simp only [Gs.ev, evE] at ev
    split at ev
    · rename_i hO
      obtain ⟨d0, q0⟩ := isOwn_iff hO
      obtain ⟨a, e0, s0, vs0, ds0, _, h0, _⟩ := rl.own i d0 q0
      obtain ⟨⟨xs, ρ1⟩, e1, ev⟩ := R.bind_ok ev
      split at ev
      · rename_i dd q1
        obtain ⟨z, e2, ev⟩ := opt_ok ev
        cases ev
        simp only [evVs] at e1
        obtain ⟨⟨d1, f1, ρ2⟩, e3, e1⟩ := R.bind_ok e1
        cases e1
        refine ⟨.ref a, e0, .inl ⟨rfl, vs0, .inl (.inl h0)⟩, .inl ⟨S, ρ, d1, f1, ρ2, rl, e3, fun w H1 S1 g hw => ?_⟩⟩
        obtain ⟨a', z1, z2, vs, ds, z3, z4, z5⟩ := g.rl.own i _ q1
        rw [e0] at z1
        cases z1
        subst z3
        obtain ⟨us, es, rfl, ru, fin⟩ := mu_append (G := G) S1 H1 a vs w _ ds z g.rl.sub z2 z4 z5 hw e2
        exact fin Q (post _ _ S1 (g.trans (own_set g.rl q1 e0 ru)) .non)
      · cases ev
    · cases ev
  · simp only [Gs.ev, evE] at ev
    split at ev
    · rename_i hO
      obtain ⟨d0, q0⟩ := isOwn_iff hO
      obtain ⟨a, e0, s0, vs0, ds0, _, h0, _⟩ := rl.own i d0 q0
      refine ⟨.ref a, e0, .inl ⟨rfl, vs0, .inl (.inl h0)⟩, .inr ⟨S, ρ, c, ρ', b, rl, ?_, hec, post⟩⟩
      rcases R.bind_exc ev with ev | ⟨⟨xs, ρ1⟩, e1, ev⟩
      · simp only [evVs] at ev
        rcases R.bind_exc ev with ev | ⟨z, _, ev⟩
        · exact ev
        · cases ev
      · simp only at ev
        split at ev
        · obtain ⟨z, _, ev⟩ := opt_exc ev
          cases ev
        · cases ev
    · cases ev
/-! ### a new list lent -/
theorem at_snoc {α : Type} {l : List α} {x y : α} {i : Nat} (h : (l ++ [x])[i]? = some y) : (i < l.length ∧ l[i]? = some y) ∨ (i = l.length ∧ x = y) := by
  rcases Nat.lt_or_ge i l.length with q | q
  · rw [List.getElem?_append_left q] at h
    exact .inl ⟨q, h⟩
  · rw [List.getElem?_append_right q] at h
    by_cases z : i = l.length
    · subst z
      simp at h
      exact .inr ⟨rfl, h⟩
    · rw [List.getElem?_eq_none (by simp; omega)] at h
      cases h
theorem snoc_at {α : Type} {l : List α} {x y : α} {i : Nat} (h : l[i]? = some y) : (l ++ [x])[i]? = some y := by
  rw [List.getElem?_append_left (List.getElem?_eq_some_iff.mp h).1]
  exact h
theorem snoc_last {α : Type} {l : List α} {x : α} {n : Nat} (h : n = l.length) : (l ++ [x])[n]? = some x := by
  subst h
  simp
section
variable {K : PySem.W.Frag} {fa : FA} {S S1 S2 H H1 H2 : Hp} {σ : L2.St} {ρ ρ1 ρ2 : En} {a : Addr} {d z : D}
theorem Ow.snoc {p : Option V} {q : Option SV} {b : Addr} (h : Ow σ ρ b) : Ow (σ ++ [p]) (ρ ++ [q]) b := by
  obtain ⟨i, d, h1, h2⟩ := h
  exact ⟨i, d, snoc_at h1, snoc_at h2⟩
theorem Ow.unsnoc {q : Option SV} {b : Addr} (hl : σ.length = ρ.length) (h : Ow (σ ++ [some (.ref a)]) (ρ ++ [q]) b) : Ow σ ρ b ∨ b = a := by
  obtain ⟨i, d, h1, h2⟩ := h
  rcases at_snoc h1 with ⟨l, h1⟩ | ⟨rfl, h1⟩
  · rcases at_snoc h2 with ⟨_, h2⟩ | ⟨rfl, h2⟩
    · exact .inl ⟨i, d, h1, h2⟩
    · omega
  · rcases at_snoc h2 with ⟨l, h2⟩ | ⟨_, h2⟩
    · omega
    · cases h2; exact .inr rfl
theorem Rl.snoc (rl : Rl K fa S σ ρ H) (o : OwnC K fa S H a d) (no : ¬ Ow σ ρ a) : Rl K fa S (σ ++ [some (.ref a)]) (ρ ++ [some (.own d)]) H where
  sub := rl.sub
  len := by simp [rl.len]
  val := fun i x e => by
    rcases at_snoc e with ⟨_, e⟩ | ⟨_, e⟩
    · obtain ⟨v, h1, h2⟩ := rl.val i x e
      exact ⟨v, snoc_at h1, h2⟩
    · cases e
  own := fun i x e => by
    rcases at_snoc e with ⟨_, e2⟩ | ⟨e1, e2⟩
    · obtain ⟨b, h1, h2⟩ := rl.own i x e2
      exact ⟨b, snoc_at h1, h2⟩
    · cases e2
      exact ⟨a, snoc_last (by rw [e1, rl.len]), o⟩
  dis := fun i j x y b e1 e2 e3 e4 => by
    rcases at_snoc e1 with ⟨l1, e1⟩ | ⟨q1, e1⟩
    · rcases at_snoc e2 with ⟨l2, e2⟩ | ⟨q2, e2⟩
      · rcases at_snoc e3 with ⟨_, e3⟩ | ⟨z, _⟩
        · rcases at_snoc e4 with ⟨_, e4⟩ | ⟨z, _⟩
          · exact rl.dis i j x y b e1 e2 e3 e4
          · have := rl.len; omega
        · have := rl.len; omega
      · exfalso
        rcases at_snoc e4 with ⟨z, _⟩ | ⟨_, e4⟩
        · have := rl.len; omega
        · cases e4
          rcases at_snoc e3 with ⟨_, e3⟩ | ⟨z, _⟩
          · exact no ⟨i, x, e1, e3⟩
          · have := rl.len; omega
    · rcases at_snoc e2 with ⟨l2, e2⟩ | ⟨q2, e2⟩
      · exfalso
        rcases at_snoc e3 with ⟨z, _⟩ | ⟨_, e3⟩
        · have := rl.len; omega
        · cases e3
          rcases at_snoc e4 with ⟨_, e4⟩ | ⟨z, _⟩
          · exact no ⟨j, y, e2, e4⟩
          · have := rl.len; omega
      · omega
theorem Rl.unsnoc {p : Option V} {q : Option SV} (hl : σ.length = ρ.length) (rl : Rl K fa S (σ ++ [p]) (ρ ++ [q]) H) : Rl K fa S σ ρ H where
  sub := rl.sub
  len := hl
  val := fun i x e => by
    obtain ⟨v, h1, h2⟩ := rl.val i x (snoc_at e)
    rcases at_snoc h1 with ⟨_, h1⟩ | ⟨z, _⟩
    · exact ⟨v, h1, h2⟩
    · have := (List.getElem?_eq_some_iff.mp e).1; omega
  own := fun i x e => by
    obtain ⟨v, h1, h2⟩ := rl.own i x (snoc_at e)
    rcases at_snoc h1 with ⟨_, h1⟩ | ⟨z, _⟩
    · exact ⟨v, h1, h2⟩
    · have := (List.getElem?_eq_some_iff.mp e).1; omega
  dis := fun i j x y b e1 e2 e3 e4 => rl.dis i j x y b (snoc_at e1) (snoc_at e2) (snoc_at e3) (snoc_at e4)
theorem AR.more {p : Option V} {q : Option SV} : ∀ {vs : List V} {as : List SV} {l b : List Nat}, AR K fa S σ ρ vs as l b → AR K fa S (σ ++ [p]) (ρ ++ [q]) vs as l b
  | _, _, _, _, .nil => .nil
  | _, _, _, _, .lent h1 h2 t => .lent (snoc_at h1) (snoc_at h2) t.more
  | _, _, _, _, .shown h1 h2 t => .shown (snoc_at h1) (snoc_at h2) t.more
  | _, _, _, _, .val h t => .val h t.more
theorem AR.snoc {n : Nat} {v : V} (h1 : ρ[n]? = some (some (SV.own d))) (h2 : σ[n]? = some (some v)) : ∀ {vs : List V} {as : List SV} {l b : List Nat}, AR K fa S σ ρ vs as l b → AR K fa S σ ρ (vs ++ [v]) (as ++ [.own d]) (l ++ [n]) b
  | _, _, _, _, .nil => .lent h1 h2 .nil
  | _, _, _, _, .lent h3 h4 t => .lent h3 h4 (AR.snoc h1 h2 t)
  | _, _, _, _, .shown h3 h4 t => .shown h3 h4 (AR.snoc h1 h2 t)
  | _, _, _, _, .val h t => .val h (AR.snoc h1 h2 t)
theorem AR.lt : ∀ {vs : List V} {as : List SV} {l b : List Nat}, AR K fa S σ ρ vs as l b → (∀ i ∈ l, i < ρ.length) ∧ ∀ i ∈ b, i < ρ.length
  | _, _, _, _, .nil => ⟨fun _ h => absurd h (by simp), fun _ h => absurd h (by simp)⟩
  | _, _, _, _, .lent h1 _ t => ⟨fun i h => by
      rcases List.mem_cons.mp h with rfl | h
      · exact (List.getElem?_eq_some_iff.mp h1).1
      · exact t.lt.1 i h, t.lt.2⟩
  | _, _, _, _, .shown h1 _ t => ⟨t.lt.1, fun i h => by
      rcases List.mem_cons.mp h with rfl | h
      · exact (List.getElem?_eq_some_iff.mp h1).1
      · exact t.lt.2 i h⟩
  | _, _, _, _, .val _ t => t.lt
theorem putAll_snoc {y : Option SV} {n : Nat} : ∀ {l : List Nat} {os : List D} {ρ : En}, (∀ i ∈ l, i < ρ.length) → n = ρ.length → os.length = l.length + 1 → ∃ z, putAll (ρ ++ [y]) (l ++ [n]) os = putAll ρ l os ++ [some (.own z)]
  | [], [z], ρ, _, hn, _ => ⟨z, by
      subst hn
      show putAll ((ρ ++ [y]).set ρ.length (some (.own z))) [] [] = ρ ++ [some (.own z)]
      simp [putAll]⟩
  | [], [], _, _, _, h => by simp at h
  | [], _ :: _ :: _, _, _, _, h => by simp at h
  | i :: l, [], _, _, _, h => by simp at h
  | i :: l, o :: os, ρ, hl, hn, h => by
    obtain ⟨z, e⟩ := putAll_snoc (y := y) (n := n) (l := l) (os := os) (ρ := ρ.set i (some (.own o))) (fun j hj => by rw [List.length_set]; exact hl j (List.mem_cons_of_mem _ hj)) (by rw [List.length_set]; exact hn) (by simpa using h)
    refine ⟨z, ?_⟩
    show putAll ((ρ ++ [y]).set i (some (.own o))) (l ++ [n]) os = putAll (ρ.set i (some (.own o))) l os ++ _
    rw [List.set_append_left _ _ (hl i List.mem_cons_self)]
    exact e
theorem frz1_snoc {i : Nat} {y : Option SV} (h : i < ρ.length) : frz1 (.s i) (ρ ++ [y]) = frz1 (.s i) ρ ++ [y] ∧ (frz1 (.s i) ρ).length = ρ.length := by
  simp only [frz1]
  rw [List.getElem?_append_left h]
  cases hq : ρ[i]? with
  | none => exact ⟨rfl, rfl⟩
  | some v =>
    cases v with
    | none => exact ⟨rfl, rfl⟩
    | some v =>
      cases v with
      | val d => exact ⟨rfl, rfl⟩
      | own d => exact ⟨by show (ρ ++ [y]).set i _ = ρ.set i _ ++ [y]; rw [List.set_append_left _ _ h], by show (ρ.set i _).length = _; rw [List.length_set]⟩
theorem freeze_snoc {y : Option SV} : ∀ {b : List Nat} {ρ : En}, (∀ i ∈ b, i < ρ.length) → freeze (ρ ++ [y]) b = freeze ρ b ++ [y]
  | [], _, _ => rfl
  | i :: b, ρ, h => by
    obtain ⟨e1, e2⟩ := frz1_snoc (y := y) (h i List.mem_cons_self)
    show freeze (frz1 (.s i) (ρ ++ [y])) b = freeze (frz1 (.s i) ρ) b ++ [y]
    rw [e1]
    exact freeze_snoc fun j hj => by rw [e2]; exact h j (List.mem_cons_of_mem _ hj)
theorem Go.unsnoc (hl : σ.length = ρ2.length) (g : Go K fa σ S ρ H S1 ρ1 H1) (hn : H a = none) (no : ¬ Ow σ ρ1 a) (gx : Go K fa (σ ++ [some (.ref a)]) S1 (ρ1 ++ [some (.own d)]) H1 S2 (ρ2 ++ [some (.own z)]) H2) : Go K fa σ S ρ H S2 ρ2 H2 where
  rl := gx.rl.unsnoc hl
  sub := g.sub.trans gx.sub
  fr := fun b o e n => gx.fr b o (g.fr b o e n) fun q => by
    rcases q.unsnoc g.rl.len with q | rfl
    · exact n (g.ow b q)
    · rw [hn] at e; cases e
  ow := fun b q => by
    rcases (gx.ow b q.snoc).unsnoc g.rl.len with q2 | rfl
    · exact g.ow b q2
    · exfalso
      obtain ⟨i, x, h1, h2⟩ := q
      have h3 : (ρ2 ++ [some (.own z)])[ρ2.length]? = some (some (.own z)) := snoc_last rfl
      have h4 : (σ ++ [some (.ref b)])[ρ2.length]? = some (some (.ref b)) := snoc_last hl.symm
      have := gx.rl.dis i ρ2.length x z b (snoc_at h1) h3 (snoc_at h2) h4
      have := (List.getElem?_eq_some_iff.mp h1).1
      omega
  nw := fun b o e => by
    rcases gx.nw b o e with h | h | h
    · exact g.nw b o h
    · exact .inr (.inl (g.al b h))
    · rcases h.unsnoc g.rl.len with h | rfl
      · exact .inr (.inr (g.ow b h))
      · exact .inr (.inl hn)
  al := fun b h => g.al b (gx.al b h)
theorem RV.unsnoc {v : V} {x : D} {fr : Bool} {p : Option V} {q : Option SV} (g : Go K fa σ S ρ H S1 ρ1 H1) (h : RV K fa (σ ++ [p]) (ρ2 ++ [q]) H1 S2 H2 v x fr) : RV K fa σ ρ2 H S2 H2 v x fr := by
  unfold RV at h ⊢
  cases fr with
  | false => simpa using h
  | true =>
    simp only [if_true] at h ⊢
    obtain ⟨b, h1, h2, h3, h4⟩ := h
    exact ⟨b, h1, h2, g.al b h3, fun z => h4 z.snoc⟩
end
/-- the arguments, and a new list -/
def tOsF (G : Gs) (k : Nat) (K : PySem.W.Frag) (es : List Ex) (e : Ex) : TA := fun σ H Q => ∃ S ρ os ρ1 d ρ2, Rl K G.fa S σ ρ H ∧ evOs G.mf (G.cf k) es ρ = .ok (os, ρ1) ∧ G.ev k e ρ1 = .ok (d, true, ρ2) ∧
  ∀ vs a H' S', Go K G.fa σ S ρ H S' ρ2 H' → OVs K G.fa S' σ vs os → OwnC K G.fa S' H' a d → H a = none → ¬ Ow σ ρ2 a → Q (vs ++ [.ref a]) H'
theorem pa_OsF {x : Expr} {e : Ex} {env : Env} (he : env = X.env) (hx : PE X x (tE G k X.K e)) (sx : ∀ xs, starEach (x :: xs) env = (false, eval x env) :: starEach xs env) : ∀ {es : List Ex} {xs : List Expr}, Paired (fun e x => PE X x (tO G k X.K e) ∧ ∀ xs, starEach (x :: xs) env = (false, eval x env) :: starEach xs env) es xs → PA X (xs ++ [x]) (tOsF G k X.K es e)
  | _, _, .nil => by
    subst he
    refine (pa_cons hx pa_nil (sx [])).weak fun σ H Q ⟨S, ρ, os, ρ1, d, ρ2, rl, e1, e2, post⟩ => ?_
    simp only [evOs] at e1
    cases e1
    refine ⟨S, ρ, d, true, ρ2, rl, e2, fun v H' S' g rv => ?_⟩
    unfold RV at rv
    simp only [if_true] at rv
    obtain ⟨a, rfl, h1, h2, h3⟩ := rv
    exact post [] a H' S' g .nil h1 h2 h3
  | _, _, .cons ⟨h, st⟩ t => by
    have ih := pa_OsF he hx sx t
    subst he
    refine (pa_cons h ih (st _)).weak fun σ H Q ⟨S, ρ, os, ρ1, d, ρ2, rl, e1, e2, post⟩ => ?_
    simp only [evOs] at e1
    obtain ⟨⟨o, ρ0⟩, e3, e1⟩ := R.bind_ok e1
    obtain ⟨⟨os', ρ0'⟩, e4, e1⟩ := R.bind_ok e1
    cases e1
    refine ⟨S, ρ, o, ρ0, rl, e3, fun v H1 S1 g1 ov => ⟨S1, ρ0, os', ρ0', d, ρ2, g1.rl, e4, e2, fun vs a H2 S2 g2 ovs oc hn no => ?_⟩⟩
    exact post (v :: vs) a H2 S2 (g1.trans g2) (.cons (ov.mono g2.sub) ovs) oc (g1.al a hn) no
theorem callf_mid {σ : L2.St} {H : Hp} {Q : VK} {fd : Fd} {e : Ex} (hT : G.T f = some fd) (h : tE G k X.K (.callf f es e) σ H Q) : tCall (spF G X.K k f) [] E0 (tOsF G k X.K es e) σ H Q := by
  obtain ⟨S, ρ, d, fr, ρ', rl, ev, post⟩ := h
  simp only [Gs.ev, evE] at ev
  obtain ⟨⟨os, ρ1⟩, e1, ev⟩ := R.bind_ok ev
  obtain ⟨⟨d1, f1, ρ2⟩, e2, ev⟩ := R.bind_ok ev
  simp only at ev
  split at ev
  · rename_i hf
    have hf : f1 = true := hf
    subst hf
    obtain ⟨ms, e3, ev⟩ := opt_ok ev
    obtain ⟨⟨args, l, b⟩, e4, ev⟩ := opt_ok ev
    split at ev
    · rename_i hap
      refine ⟨S, ρ, os, ρ1, d1, ρ2, rl, e1, e2, fun vs a H1 S1 g ov oc hn no => ?_⟩
      have ar := AR.of g.rl ov e4
      obtain ⟨nd, ap⟩ := apart_iff hap.2
      obtain ⟨lt1, lt2⟩ := ar.lt
      have rlx := g.rl.snoc oc no
      have hlast : (ρ2 ++ [some (SV.own d1)])[ρ2.length]? = some (some (.own d1)) := snoc_last rfl
      have hlast2 : (σ ++ [some (.ref a)])[ρ2.length]? = some (some (.ref a)) := snoc_last g.rl.len.symm
      have arx := AR.snoc hlast hlast2 (ar.more (p := some (.ref a)) (q := some (.own d1)))
      obtain ⟨Sc, rc, fin⟩ := call_go rlx arx (List.nodup_append.mpr ⟨nd, by simp, fun i hi j hj => by
        simp only [List.mem_singleton] at hj
        have := lt1 i hi
        omega⟩) (fun i hi hb => by
        rcases List.mem_append.mp hi with h | h
        · exact ap i h hb
        · simp only [List.mem_singleton] at h
          have := lt2 i hb
          omega)
      cases ec : G.cf k f (args ++ [.own d1]) with
      | ok d' fr' outs =>
        simp only [ec, callRf] at ev
        split at ev
        · rename_i hl
          cases ev
          show spF G X.K k f ((vs ++ [.ref a]) ++ []) H1 Q E0
          rw [List.append_nil]
          left
          refine ⟨Sc, args ++ [.own d1], d, fr, outs, rc, ec, ⟨fd, hT, ?_⟩, fun v H' S' g2 rv => ?_⟩
          · have := cf_len hT (k := k) (args := args ++ [.own d1]) (by rw [ec]; intro z; cases z)
            rw [← this, arx.length]
          · obtain ⟨S'', g3, rv3⟩ := fin d fr outs v H' S' (by rw [hl]; simp) g2 rv
            obtain ⟨z, ez⟩ := putAll_snoc (y := some (.own d1)) (n := ρ2.length) lt1 rfl hl
            have eq : (if (b.isEmpty || (topFlat d fr && outs.all (topFlat · true))) = true then putAll (ρ2 ++ [some (SV.own d1)]) (l ++ [ρ2.length]) outs else freeze (putAll (ρ2 ++ [some (SV.own d1)]) (l ++ [ρ2.length]) outs) b) = (if (b.isEmpty || (topFlat d fr && outs.all (topFlat · true))) = true then putAll ρ2 l outs else freeze (putAll ρ2 l outs) b) ++ [some (.own z)] := by
              rw [ez]
              split
              · rfl
              · exact freeze_snoc fun i hi => by rw [putAll_len]; exact lt2 i hi
            rw [eq] at g3 rv3
            have hl2 := g3.rl.len
            simp only [List.length_append, List.length_singleton] at hl2
            have g4 := Go.unsnoc (by omega) g hn no g3
            exact post v H' S'' g4 (rv3.unsnoc g)
        · cases ev
      | exc c o => simp only [ec, callRf] at ev; cases ev
      | bad => simp only [ec, callRf] at ev; cases ev
    · cases ev
  · cases ev
theorem pe_callfE {n : Str} {fd : Fd} {a : Addr} {fdat : FuncData} {ps : List Str} {e : Ex} {x0 : Expr} {xs : List Expr} {p pos : Pos} (hT : G.T f = some fd) (F : FnOk X.prog X.w X.K X.mg X.base (L2.CX X.prog X.w) k a fdat ps (spF G X.K k f)) (hr : Room k X.A) (hg : Gl X n) (hm : X.mg n = some (.ref a)) (hk : PySem.W.keepIn X.K (.ref a) = true) (hb : Binds X.K fdat ps [])
    (ha : PA X (x0 :: xs) (tOsF G k X.K es e)) (hd : (n == ("__debug__" : Str)) = false) (he : starEach (x0 :: xs) X.env = (false, eval x0 X.env) :: starEach xs X.env) (hpl : (backTo pos (starEach xs X.env)).any (·.1) = false) :
    PE X (.Call (.Name n p) (x0 :: xs) [] pos) (tE G k X.K (.callf f es e)) := (pe_call F hr hg hm hk hb .nil passN ha hd he hpl).weak fun _ _ _ h => callf_mid hT h
end
end G

/-! enumerate(t), t a tuple -/
namespace G
open PySem PySem.Spec L2
open AutoSeq1 (wpAny_loadPart')
theorem tup_iter {prog : Program} {w : World} {A : Around} {E : Value → Shared → Prop} {s : Shared} {l : Addr} {items : Array Value} {Q : Value → Shared → Prop} (hL : s.heap.IsTuple l items)
    (hQ : Q (.ref s.heap.objs.size) { s with heap := s.heap.push { cls := .type "tuple_iterator", data := .fields #[.ref l, .int 0 0] } }) : wpAny (model prog w) A (pyIter (.ref l)) Q E s :=
  wpAny_pyIter_tuple hL hQ
theorem enum_new (l : Addr) (items : Array Value) (n : Nat) (dct : Option Addr) (sl : Array (Option Value)) :
    Meets (Builtin.«enumerate.__new__» ⟨[.type "enumerate", .ref l], []⟩) (fun _ R s => s.heap.get? l = some { cls := .type "tuple", dict := dct, data := .seq items n, slots := sl } ∧
      R (.ok (.ret (.ref (s.heap.push { cls := .type "tuple_iterator", data := .fields #[.ref l, .int 0 0] }).objs.size)))
        { s with heap := (s.heap.push { cls := .type "tuple_iterator", data := .fields #[.ref l, .int 0 0] }).push { cls := .type "enumerate", data := .fields #[.none, .bool false, .ref s.heap.objs.size, rawInt 0, .none, .none] } }) :=
  .of_wp fun prog w A R s h => by
    obtain ⟨hp, g, d, tk, os⟩ := s
    obtain ⟨hl, h⟩ := h
    have q1 := sub_enumerate
    have tt : Heap.IsTuple (Shared.heap ⟨hp, g, d, tk, os⟩) l items := ⟨_, hl, rfl, n, rfl⟩
    wp_walk using wpAny_loadPart' hl
    refine wpAny_stack_any fun st => wpAny_pure ?_
    split
    · rename_i c _ _ _ _ _
      by_cases z : (c == Value.type "enumerate") = true
      · rw [z]
        wp_walk using wpAny_loadPart' hl, tup_iter tt
        exact ⟨_, rfl, h⟩
      · rw [Bool.eq_false_iff.mpr z]
        wp_walk using wpAny_loadPart' hl, tup_iter tt
        exact ⟨_, rfl, h⟩
    · wp_walk using wpAny_loadPart' hl, tup_iter tt
      exact ⟨_, rfl, h⟩
section
variable {prog : Program} {w : World} {A : Around} {E : Value → Shared → Prop} {s : Shared}
theorem call_enumT {l : Addr} {items : Array Value} {Q : Value → Shared → Prop} (hL : s.heap.IsTuple l items)
    (h : ∀ h', IsEnum h' (s.heap.objs.size + 1) s.heap.objs.size 0 .none → h'.IsTupleIter s.heap.objs.size l 0 → h'.objs.size = s.heap.objs.size + 2 →
      (∀ b o, s.heap.get? b = some o → h'.get? b = some o) → Q (.ref (s.heap.objs.size + 1)) { s with heap := h' }) :
    wpAny (model prog w) A (call (.type "enumerate") [.ref l]) Q E s := by
  obtain ⟨⟨c, dct, dt, sl⟩, hl, hc, n, hd⟩ := hL
  simp only at hc hd
  subst hc hd
  refine callType_new F.called_enumerate (by decide) (F.typeCall_enumerate_1 _) (F.newCall_enumerate_1 _) (fun obj => F.args_object_init_2 obj _) F.entry_enumerate_new (enum_new l items n dct sl) ⟨hl, ?_⟩
  have sz := Heap.size_push s.heap { cls := .type "tuple_iterator", data := .fields #[.ref l, .int 0 0] }
  have at2 := Heap.get?_push_size (s.heap.push { cls := .type "tuple_iterator", data := .fields #[.ref l, .int 0 0] }) (o := { cls := .type "enumerate", data := .fields #[.none, .bool false, .ref s.heap.objs.size, rawInt 0, .none, .none] }) rfl
  show _ ∧ _
  rw [sz] at at2 ⊢
  refine ⟨⟨_, at2, rfl⟩, h _ at2 ⟨_, Heap.get?_push_of_some _ (Heap.get?_push_size _ rfl), rfl, rfl⟩ (by rw [Heap.size_push, sz]) fun b o x => Heap.get?_push_of_some _ (Heap.get?_push_of_some _ x)⟩
theorem enumT_end {e it l : Addr} {i : Nat} {items : Array Value} {old : Value} {Q : Option Value → Shared → Prop} (hh : A.handled = none) (he : IsEnum s.heap e it i old) (hit : s.heap.IsTupleIter it l i) (hl : s.heap.IsTuple l items) (hx : items[i]? = none)
    (hQ : ∀ h', Heap.ExtBut it s.heap h' → Q none { s with heap := h' }) : wpAny (model prog w) A (pyNext (.ref e)) Q E s := by
  have ty : s.TypeIs (.ref e) "enumerate" := ⟨_, he, rfl⟩
  unfold pyNext
  refine wpAny_bind (wpAny_attempt (wpAny_callSpecial?_slot (name := Str.ofString "__next__") ty F.slot_enumerate_next (wpAny_call_entry F.slot_enumerate_next ty F.entry_enumerate_next ?_ (F.args_enumerate_next_1 _))))
  show wpAny _ _ (field (.ref e) 2 >>= _) _ _ s
  refine wpAny_bind (wpAny_field (x := .ref it) he rfl rfl (wpAny_bind (wpAny_nextOf_tuple_end hh hit hl hx fun h' x eb ⟨o, ho, hc⟩ => wpAny_bind (wpAny_isInstance (T := "StopIteration") (b := true) ⟨o, ho, hc⟩ isSubtype_stop (wpAny_pure (hQ _ eb))))))
end
/-- the tuple at a as it stands, each item in a new pair -/
def IteT (K : PySem.W.Frag) (a : Addr) : It :=
  ⟨fun i H => ∃ (xs : List V) (x : V), SqT K H a xs ∧ xs[i]? = some x, fun i H v H' => ∃ T x, v = .ref T ∧ H T = none ∧ H' = upd H T (.tup [.int (i : Nat), x]) ∧ ∀ xs, SqT K H a xs → xs[i]? = some x, fun i H => ∃ xs : List V, SqT K H a xs ∧ xs.length ≤ i⟩
theorem apartT {h : Heap} {a it e : Addr} {items : Array Value} {i : Nat} {j : Int} {old : Value} (p : h.IsTuple a items) (q : h.IsTupleIter it a i) (r : IsEnum h e it j old) : a ≠ it ∧ e ≠ it ∧ e ≠ a := by
  obtain ⟨o1, e1, c1, _⟩ := p
  obtain ⟨o2, e2, c2, _⟩ := q
  refine ⟨fun z => ?_, fun z => ?_, fun z => ?_⟩
  · rw [z, e2] at e1; cases e1; rw [c2] at c1; simp at c1
  · have r' : h.get? e = _ := r
    rw [z, e2] at r'; cases r'; simp at c2
  · have r' : h.get? e = _ := r
    rw [z, e1] at r'; cases r'; simp at c1
theorem turn_enumT {P : Program} {w : World} {K : PySem.W.Frag} {elts : List Expr} {kk : Nat} {tpos : Pos} (a e it : Addr) :
    Turn P w K (.Tuple elts kk tpos) (IteT K a) [e, it] e (fun i h => (∃ old, IsEnum h e it ((i : Nat) : Int) old) ∧ h.IsTupleIter it a i) where
  mem := List.mem_cons_self
  obj := fun i h st b hb => by
    obtain ⟨⟨old, he⟩, ⟨o, ho, _, hd⟩⟩ := st
    rcases List.mem_cons.mp hb with z | z
    · exact ⟨_, by rw [z]; exact he, fun v q => by cases q⟩
    · rw [List.mem_singleton.mp z]
      exact ⟨o, ho, fun v q => by rw [hd] at q; cases q⟩
  keep := fun i h h' st k => by
    obtain ⟨⟨old, he⟩, hi⟩ := st
    exact ⟨⟨old, k e (by simp) _ he⟩, hi.at fun o q => k it (by simp) o q⟩
  item := by
    intro X hP hw hK hc i pins s σ H E I hf st hg
    subst hP hw hK
    obtain ⟨⟨old, he⟩, hit⟩ := st
    obtain ⟨xs, x, hq, hx⟩ := hg
    obtain ⟨its, rv, p, hz⟩ := I.tuple hq
    obtain ⟨u, hu, ru⟩ := rv.get hx
    obtain ⟨n1, n2, n3⟩ := apartT p hit he
    have il : i < its.length := (List.getElem?_eq_some_iff.mp hu).1
    have l1 : e < s.heap.objs.size := Heap.lt_size he
    have l2 : it < s.heap.objs.size := by obtain ⟨_, q, _⟩ := hit; exact Heap.lt_size q
    refine wpAny_pyNext_enum_itemD (Draws.tuple (A := X.A.in1) (I.ok.hd hc) it a n1 its.toArray) he ⟨hit, p⟩ (by simpa using il) n2 (by simp [n2, n3]) fun y h' tk hy ho st' hT hsz hk => ?_
    have yu : y = u := by
      have : its.toArray[i]? = some u := by simpa using hu
      rw [this] at hy; cases hy; rfl
    subst yu
    refine ⟨_, rfl, wpAny_letOwnedTupleGo_enum (s := { s with heap := h', toks := tk + 1 }) ho fun h'' he' sb => ?_⟩
    have hT2 : h''.get? s.heap.objs.size = some { cls := .type "tuple", data := .seq #[.int i tk, y] } := (sb.2 _ (Nat.ne_of_gt l1)).trans hT
    have new : ObjOk X.prog X.w (upd H s.heap.objs.size (.tup [.int (i : Nat), x])) h'' s.heap.objs.size (.tup [.int (i : Nat), x]) :=
      ⟨by show 2 ≤ sizeLine; decide, [.int i tk, y], .cons ⟨_, rfl⟩ (.cons ru .nil), ⟨_, hT2, rfl, _, rfl⟩⟩
    have I1 : Inv X pins σ (upd H s.heap.objs.size (.tup [.int (i : Nat), x])) { s with heap := h'', toks := tk + 1 } :=
      I.turnedNew (ch := [e, it]) (fun b ob hb q => (sb.2 b fun z => hb (by simp [z])).trans (hk b ob (fun z => hb (by simp [z])) (fun z => hb (by simp [z])) q)) hf (Nat.le_refl _) new
    refine ⟨.ref s.heap.objs.size, _, I1, rfl, ⟨_, x, rfl, I.hok.fresh (Nat.le_refl _), rfl, fun ys hy => by rw [I.tuple_inj hy hq]; exact hx⟩, ⟨⟨y, ?_⟩, st'.1.at fun o q => (sb.2 it (Ne.symm n2)).trans q⟩, fun b hb => ?_⟩
    · rw [show ((i + 1 : Nat) : Int) = (i : Int) + 1 by omega]; exact he'
    · have hb' : b < s.heap.objs.size := by
        rcases List.mem_cons.mp hb with z | z
        · rw [z]; exact l1
        · rw [List.mem_singleton.mp z]; exact l2
      rw [upd_ne (Nat.ne_of_lt hb')]
      exact (hf b hb).1
  done := by
    intro X hP hw hK hc i pins s σ H E I hf st hg
    subst hP hw hK
    obtain ⟨⟨old, he⟩, hit⟩ := st
    obtain ⟨xs, hq, hx⟩ := hg
    obtain ⟨its, rv, p, hz⟩ := I.tuple hq
    obtain ⟨n1, n2, n3⟩ := apartT p hit he
    obtain ⟨f0, f1, f2, f3, f4, f5⟩ := hf it (by simp)
    have hl := rv.length
    exact enumT_end (I.ok.hd hc) he hit p (by simp; omega) fun h' eb => ⟨rfl, I.turned (t' := s.toks) (fun b o hb q => eb b o hb q) f0 f1 f3 f4 f5⟩
  self := fun A i s Q E st h => by
    obtain ⟨⟨_, he⟩, _⟩ := st
    exact wpAny_pyIter_enum he h
/-- the source of an enumerate: a list or a tuple -/
def iEnumA (K : PySem.W.Frag) (ta : TA) : TI := fun σ H RR => ta σ H fun ws H1 => ∃ a xs, ws = [.ref a] ∧ ((SqL K H1 a xs ∧ RR (Ite K a) H1) ∨ (SqT K H1 a xs ∧ RR (IteT K a) H1))
theorem pi_enumA {X : Cx} {e : Expr} {ta : TA} {p pos tpos : Pos} {elts : List Expr} {kk : Nat} (hg : Gl X "enumerate") (hm : X.mg "enumerate" = none) (ha : PA X [e] ta) (hs : starEach [e] X.env = [(false, eval e X.env)]) :
    PI X (.Tuple elts kk tpos) (.Call (.Name "enumerate" p) [e] [] pos) (iEnumA X.K ta) := ⟨fun pins s σ H RR I h => by
  refine PyProof.Rows.Call_ (ld_blt I hg hm PyProof.Rows.boot_enumerate (PyProof.Rows.callWith_type1 (thn (ha.run pos pins s σ H _ I h) fun us s1 ⟨ws, H1, J, rr, a, xs, ew, q⟩ => ?_) hs rfl))
  subst ew
  obtain ⟨u, eu, ru⟩ := rr.one
  subst eu
  cases ru
  have fresh : ∀ b ∈ [s1.heap.objs.size + 1, s1.heap.objs.size], FpOk X pins H1 b := fun b hb => by
    have le : s1.heap.objs.size ≤ b := by
      rcases List.mem_cons.mp hb with z | z
      · omega
      · rw [List.mem_singleton.mp z]; exact Nat.le_refl _
    exact J.fpOk le (J.hok.fresh le)
  rcases q with ⟨hq, q⟩ | ⟨hq, q⟩
  · obtain ⟨its, rv, pl, hz⟩ := J.list hq
    exact call_enumerate_list pl.isList fun h' e1 e2 e3 kp => wpAny_pyIter_enum e1 ⟨_, [s1.heap.objs.size + 1, s1.heap.objs.size], _, _, H1, rfl, J.kept (t' := s1.toks) kp, turn_enum a (s1.heap.objs.size + 1) s1.heap.objs.size, ⟨⟨.none, e1⟩, e2, Nat.succ_ne_self _⟩, fresh, q⟩
  · obtain ⟨its, rv, pl, hz⟩ := J.tuple hq
    exact call_enumT pl fun h' e1 e2 e3 kp => wpAny_pyIter_enum e1 ⟨_, [s1.heap.objs.size + 1, s1.heap.objs.size], _, _, H1, rfl, J.kept (t' := s1.toks) kp, turn_enumT a (s1.heap.objs.size + 1) s1.heap.objs.size, ⟨⟨.none, e1⟩, e2⟩, fresh, q⟩⟩
end G

/-! targets; what is walked -/
namespace G
open PySem PySem.Spec L2
/-- from one state of a block to another; L: slots that are not assigned -/
structure GoS (K : PySem.W.Frag) (fa : FA) (L : List Nat) (σ : L2.St) (S : Hp) (ρ : En) (H : Hp) (σ' : L2.St) (S' : Hp) (ρ' : En) (H' : Hp) : Prop where
  rl : Rl K fa S' σ' ρ' H'
  sub : Sub S S'
  fr : ∀ a o, H a = some o → ¬ Ow σ ρ a → H' a = some o
  ow : ∀ a, Ow σ' ρ' a → Ow σ ρ a ∨ H a = none
  nw : ∀ a o, S' a = some o → S a = some o ∨ H a = none ∨ Ow σ ρ a
  al : ∀ a, H' a = none → H a = none
  kp : ∀ i ∈ L, σ'[i]? = σ[i]?
section
variable {K : PySem.W.Frag} {fa : FA} {L : List Nat} {S S' S1 S2 H H' H1 H2 : Hp} {σ σ' σ1 σ2 : L2.St} {ρ ρ' ρ1 ρ2 : En}
theorem Go.s (g : Go K fa σ S ρ H S' ρ' H') : GoS K fa L σ S ρ H σ S' ρ' H' := ⟨g.rl, g.sub, g.fr, fun a h => .inl (g.ow a h), g.nw, g.al, fun _ _ => rfl⟩
theorem GoS.refl (r : Rl K fa S σ ρ H) : GoS K fa L σ S ρ H σ S ρ H := (Go.refl r).s
theorem GoS.trans (a : GoS K fa L σ S ρ H σ1 S1 ρ1 H1) (b : GoS K fa L σ1 S1 ρ1 H1 σ2 S2 ρ2 H2) : GoS K fa L σ S ρ H σ2 S2 ρ2 H2 where
  rl := b.rl
  sub := a.sub.trans b.sub
  fr := fun x o e n => b.fr x o (a.fr x o e n) fun z => (a.ow x z).elim n fun q => by rw [e] at q; cases q
  ow := fun x z => by
    rcases b.ow x z with h | h
    · exact a.ow x h
    · exact .inr (a.al x h)
  nw := fun x o e => by
    rcases b.nw x o e with h | h | h
    · exact a.nw x o h
    · exact .inr (.inl (a.al x h))
    · exact (a.ow x h).elim (fun q => .inr (.inr q)) fun q => .inr (.inl q)
  al := fun x h => a.al x (b.al x h)
  kp := fun i hi => (b.kp i hi).trans (a.kp i hi)
theorem GoS.go (g : GoS K fa L σ S ρ H σ S' ρ' H') (h : ∀ a, Ow σ ρ' a → Ow σ ρ a) : Go K fa σ S ρ H S' ρ' H' := ⟨g.rl, g.sub, g.fr, h, g.nw, g.al⟩
theorem RV.aheadS {v : V} {d : D} {fr : Bool} (g : GoS K fa L σ S ρ H σ1 S1 ρ1 H1) (rv : RV K fa σ' ρ' H1 S' H' v d fr) : RV K fa σ' ρ' H S' H' v d fr := by
  unfold RV at rv ⊢
  cases fr with
  | false => simpa using rv
  | true =>
    simp only [if_true] at rv ⊢
    obtain ⟨z, h1, h2, h3, h4⟩ := rv
    exact ⟨z, h1, h2, g.al z h3, h4⟩
/-! ### targets -/
theorem set_at {α : Type} {l : List α} {i j : Nat} {x : α} : (l.set i x)[j]? = if i = j then (if i < l.length then some x else none) else l[j]? := by
  rw [List.getElem?_set]
/-- a slot is stored -/
theorem Rl.store (r : Rl K fa S σ ρ H) {i : Nat} (hi : i < ρ.length) {v : V} {x : SV} (hx : match x with
    | .val d => Rep K fa S v d
    | .own d => ∃ a, v = .ref a ∧ OwnC K fa S H a d ∧ ¬ Ow σ ρ a) : Rl K fa S (σ.set i (some v)) (ρ.set i (some x)) H := by
  have hσ : i < σ.length := by rw [r.len]; exact hi
  refine ⟨r.sub, by simp [r.len], fun j d e => ?_, fun j d e => ?_, fun j j' d d' a e1 e2 e3 e4 => ?_⟩
  · by_cases z : i = j
    · subst z
      rw [List.getElem?_set_self hi] at e
      cases e
      exact ⟨v, by rw [List.getElem?_set_self hσ], hx⟩
    · rw [List.getElem?_set_ne z] at e ⊢
      exact r.val j d e
  · by_cases z : i = j
    · subst z
      rw [List.getElem?_set_self hi] at e
      cases e
      obtain ⟨a, rfl, o, _⟩ := hx
      exact ⟨a, by rw [List.getElem?_set_self hσ], o⟩
    · rw [List.getElem?_set_ne z] at e ⊢
      exact r.own j d e
  · by_cases z : i = j
    · subst z
      by_cases z' : i = j'
      · exact z'
      · rw [List.getElem?_set_self hi] at e1
        cases e1
        rw [List.getElem?_set_self hσ] at e3
        rw [List.getElem?_set_ne z'] at e2 e4
        obtain ⟨a', rfl, _, n⟩ := hx
        cases e3
        exact absurd ⟨j', d', e2, e4⟩ n
    · by_cases z' : i = j'
      · subst z'
        rw [List.getElem?_set_self hi] at e2
        cases e2
        rw [List.getElem?_set_self hσ] at e4
        rw [List.getElem?_set_ne z] at e1 e3
        obtain ⟨a', rfl, _, n⟩ := hx
        cases e4
        exact absurd ⟨j, d, e1, e3⟩ n
      · rw [List.getElem?_set_ne z] at e1 e3
        rw [List.getElem?_set_ne z'] at e2 e4
        exact r.dis j j' d d' a e1 e2 e3 e4
theorem GoS.store (r : Rl K fa S σ ρ H) {i : Nat} (hi : i < ρ.length) {v : V} {x : SV} (hx : match x with
    | .val d => Rep K fa S v d
    | .own d => ∃ a, v = .ref a ∧ OwnC K fa S H a d ∧ ¬ Ow σ ρ a) (hL : i ∉ L) {H0 : Hp} (hn : ∀ d, x = .own d → ∀ a, v = .ref a → H0 a = none) :
    Rl K fa S (σ.set i (some v)) (ρ.set i (some x)) H ∧ (∀ a, Ow (σ.set i (some v)) (ρ.set i (some x)) a → Ow σ ρ a ∨ H0 a = none) ∧ ∀ j ∈ L, (σ.set i (some v))[j]? = σ[j]? := by
  refine ⟨r.store hi hx, ?_, fun j hj => ?_⟩
  · rintro a ⟨j, d, e1, e2⟩
    by_cases z : i = j
    · subst z
      rw [List.getElem?_set_self hi] at e1
      cases e1
      rw [List.getElem?_set_self (by rw [r.len]; exact hi)] at e2
      cases e2
      exact .inr (hn d rfl a rfl)
    · rw [List.getElem?_set_ne z] at e1 e2
      exact .inl ⟨j, d, e1, e2⟩
  · rw [List.getElem?_set_ne]
    rintro rfl
    exact hL hj
mutual
def tgSlots : Tg → List Nat
  | .nm i => [i]
  | .tup ts => tgsSlots ts
def tgsSlots : List Tg → List Nat
  | [] => []
  | t :: ts => tgSlots t ++ tgsSlots ts
end
/-- storing data at a target -/
def tG (K : PySem.W.Frag) (fa : FA) (sl : List Nat) (f : D → En → Option En) : L2.TG := fun v σ H Q => ∃ S ρ d ρ', Rl K fa S σ ρ H ∧ Rep K fa S v d ∧ f d ρ = some ρ' ∧
  ∀ σ', Rl K fa S σ' ρ' H → (∀ a, Ow σ' ρ' a → Ow σ ρ a) → (∀ j, j ∉ sl → σ'[j]? = σ[j]?) → σ'.length = σ.length → Q σ' H
def tGs (K : PySem.W.Frag) (fa : FA) (sl : List Nat) (f : List D → En → Option En) : TGs := fun vs σ H Q => ∃ S ρ ds ρ', Rl K fa S σ ρ H ∧ Reps K fa S vs ds ∧ f ds ρ = some ρ' ∧
  ∀ σ', Rl K fa S σ' ρ' H → (∀ a, Ow σ' ρ' a → Ow σ ρ a) → (∀ j, j ∉ sl → σ'[j]? = σ[j]?) → σ'.length = σ.length → Q σ' H
theorem _root_.L2.PG.weak {X : Cx} {e : Expr} {t t' : L2.TG} (h : PG X e t) (w : ∀ v σ H Q, t' v σ H Q → t v σ H Q) : PG X e t' := ⟨fun pins s σ H v u Q I r q => h.run pins s σ H v u Q I r (w v σ H Q q)⟩
theorem _root_.L2.PGs.weak {X : Cx} {e : List Expr} {t t' : TGs} (h : PGs X e t) (w : ∀ v σ H Q, t' v σ H Q → t v σ H Q) : PGs X e t' := ⟨fun pins s σ H v u Q I r q => h.run pins s σ H v u Q I r (w v σ H Q q)⟩
theorem pg_nmE {X : Cx} {i : Nat} {x : Expr} (h : PG X x (gName i)) : PG X x (tG X.K fa [i] (fun d ρ => asgT (.nm i) (.val d) ρ)) := h.weak fun v σ H Q ⟨S, ρ, d, ρ', rl, r, e, post⟩ => by
  simp only [asgT] at e
  split at e
  · rename_i hi
    cases e
    obtain ⟨h1, h2, h3⟩ := GoS.store (L := []) (H0 := fun _ => none) rl hi (x := .val d) r (by simp) (fun _ e => nomatch e)
    refine post _ h1 (fun a ⟨j, d', e1, e2⟩ => ?_) (fun j hj => List.getElem?_set_ne fun e => hj (by simp [e])) (List.length_set ..)
    by_cases z : i = j
    · subst z
      rw [List.getElem?_set_self hi] at e1
      cases e1
    · rw [List.getElem?_set_ne z] at e1 e2
      exact ⟨j, d', e1, e2⟩
  · cases e
theorem pgs_nilE {X : Cx} : PGs X [] (tGs X.K fa [] (fun ds ρ => asgT.asgTs [] ds ρ)) := pgs_nil.weak fun vs σ H Q ⟨S, ρ, ds, ρ', rl, r, e, post⟩ => by
  cases r with
  | nil =>
    simp only [asgT.asgTs] at e
    cases e
    exact ⟨rfl, post σ rl (fun _ h => h) (fun _ _ => rfl) rfl⟩
  | cons h t => simp only [asgT.asgTs] at e; cases e
theorem pgs_consE {X : Cx} {t : Tg} {ts : List Tg} {sl sl' : List Nat} {x : Expr} {xs : List Expr} (h : PG X x (tG X.K fa sl (fun d ρ => asgT t (.val d) ρ))) (hs : PGs X xs (tGs X.K fa sl' (fun ds ρ => asgT.asgTs ts ds ρ)))
    (he : (assignEach (x :: xs) X.env).map (·.2) = assign x X.env :: (assignEach xs X.env).map (·.2)) : PGs X (x :: xs) (tGs X.K fa (sl ++ sl') (fun ds ρ => asgT.asgTs (t :: ts) ds ρ)) := (pgs_cons h hs he).weak fun vs σ H Q ⟨S, ρ, ds, ρ', rl, r, e, post⟩ => by
  cases r with
  | nil => simp only [asgT.asgTs] at e; cases e
  | cons h t =>
    simp only [asgT.asgTs] at e
    obtain ⟨ρ1, e1, e2⟩ := Option.bind_eq_some_iff.mp e
    refine ⟨_, _, rfl, S, ρ, _, ρ1, rl, h, e1, fun σ1 r1 o1 k1 l1 => ⟨S, ρ1, _, ρ', r1, t, e2, fun σ2 r2 o2 k2 l2 => post σ2 r2 (fun a z => o1 a (o2 a z)) (fun j hj => ?_) (l2.trans l1)⟩⟩
    simp only [List.mem_append, not_or] at hj
    exact (k2 j hj.2).trans (k1 j hj.1)
theorem _root_.L2.PG.or {X : Cx} {y : Expr} {w w' : L2.TG} (h : PG X y w) (h' : PG X y w') : PG X y (fun v σ H R => w v σ H R ∨ w' v σ H R) := ⟨fun pins s σ H v u Q I r q => q.elim (h.run pins s σ H v u Q I r) (h'.run pins s σ H v u Q I r)⟩
theorem asgTs_len : ∀ {ts : List Tg} {ds : List D} {ρ ρ' : En}, asgT.asgTs ts ds ρ = some ρ' → ts.length = ds.length
  | [], [], _, _, _ => rfl
  | [], _ :: _, _, _, e => by simp [asgT.asgTs] at e
  | _ :: _, [], _, _, e => by simp [asgT.asgTs] at e
  | t :: ts, d :: ds, ρ, ρ', e => by
    simp only [asgT.asgTs] at e
    obtain ⟨ρ1, _, e2⟩ := Option.bind_eq_some_iff.mp e
    simp [asgTs_len e2]
theorem pg_tupE {X : Cx} {ts : List Tg} {sl : List Nat} {xs : List Expr} {n : Nat} {pos : Pos} (hc : X.calm = true) (h : PGs X xs (tGs X.K fa sl (fun ds ρ => asgT.asgTs ts ds ρ))) (hn : (assignEach xs X.env).length = ts.length) (hst : (assignEach xs X.env).findIdx? (·.1) = none) :
    PG X (.Tuple xs n pos) (tG X.K fa sl (fun d ρ => asgT (.tup ts) (.val d) ρ)) := ((pg_tup hc h hn hst).or (pg_lst hc h hn hst)).weak fun v σ H Q ⟨S, ρ, d, ρ', rl, r, e, post⟩ => by
  cases d with
  | tup ds =>
    simp only [asgT, SV.d] at e
    obtain ⟨a, vs, rfl, t, _, rr⟩ := RepB.tup rl.sub (Or.inl r)
    exact .inl ⟨a, vs, rfl, t, by rw [rr.length, asgTs_len e], S, ρ, ds, ρ', rl, rr, e, post⟩
  | lst ds =>
    simp only [asgT, SV.d] at e
    obtain ⟨a, vs, rfl, t, rr⟩ := RepB.lst rl.sub (Or.inl r)
    exact .inr ⟨a, vs, rfl, .inl t, by rw [rr.length, asgTs_len e], S, ρ, ds, ρ', rl, rr, e, post⟩
  | _ => simp only [asgT, SV.d] at e; cases e
/-! ### what is walked -/
theorem _root_.L2.PI.or {X : Cx} {tg it : Expr} {w w' : TI} (h : PI X tg it w) (h' : PI X tg it w') : PI X tg it (fun σ H R => w σ H R ∨ w' σ H R) := ⟨fun pins s σ H R I q => q.elim (h.run pins s σ H R I) (h'.run pins s σ H R I)⟩
theorem _root_.L2.PI.weak {X : Cx} {tg it : Expr} {w w' : TI} (h : PI X tg it w) (z : ∀ σ H R, w' σ H R → w σ H R) : PI X tg it w' := ⟨fun pins s σ H R I q => h.run pins s σ H R I (z σ H R q)⟩
/-- the walked list stands as the guard says -/
def Cg (K : PySem.W.Frag) (fa : FA) (σ : L2.St) (g : Option (Nat × List D)) (S H : Hp) : Prop := match g with
  | none => True
  | some (i, ds) => ∃ a vs, σ[i]? = some (some (.ref a)) ∧ Rd H a (.lst vs) ∧ Reps K fa S vs ds
theorem cg_of (r : Rl K fa S σ ρ H) {g : Option (Nat × List D)} (h : guard g ρ = true) : Cg K fa σ g S H := by
  unfold Cg
  split
  · trivial
  · rename_i i ds
    simp only [guard] at h
    split at h
    · rename_i d q
      have := of_decide_eq_true h
      subst this
      obtain ⟨a, e1, _, vs, ds', e2, e3, e4⟩ := r.own i _ q
      cases e2
      exact ⟨a, vs, e1, .inl e3, e4⟩
    · rename_i d q
      have := of_decide_eq_true h
      subst this
      obtain ⟨v, e1, e2⟩ := r.val i _ q
      cases e2 with
      | lst h t => exact ⟨_, _, e1, r.sub.rd h, t⟩
    · cases h
/-- J walks the items ds, as long as σ's slot and the heap stand so -/
structure Wk (K : PySem.W.Frag) (fa : FA) (σ : L2.St) (S0 : Hp) (J : It) (ds : List D) (g : Option (Nat × List D)) : Prop where
  go : ∀ (σ' : L2.St) i S H, (∀ j, (g.map (·.1)) = some j → σ'[j]? = σ[j]?) → Sub S0 S → Sub S H → Cg K fa σ' g S H → i < ds.length → J.go i H
  yld : ∀ (σ' : L2.St) i S H x H' d, (∀ j, (g.map (·.1)) = some j → σ'[j]? = σ[j]?) → Sub S0 S → Sub S H → Cg K fa σ' g S H → ds[i]? = some d → J.yld i H x H' → ∃ S', Gr S H S' H' ∧ Rep K fa S' x d
  stop : ∀ (σ' : L2.St) i S H, (∀ j, (g.map (·.1)) = some j → σ'[j]? = σ[j]?) → Sub S0 S → Sub S H → Cg K fa σ' g S H → ds.length ≤ i → J.stop i H
def tI (G : Gs) (k : Nat) (K : PySem.W.Frag) (e : Ex) : TI := fun σ H R => ∃ S ρ ds g ρ', Rl K G.fa S σ ρ H ∧ srcOf e ρ (G.ev k e ρ) = .ok (ds, g, ρ') ∧
  ∀ J H' S', Go K G.fa σ S ρ H S' ρ' H' → Wk K G.fa σ S' J ds g → R J H'
theorem Rd.fun {H : Hp} {a : Addr} {o u : HO} (h : Rd H a o) (h' : Rd H a u) (n : ∀ x y, o ≠ .frz x y) (n' : ∀ x y, u ≠ .frz x y) : o = u := by
  rcases h with h | ⟨x, h⟩ <;> rcases h' with h' | ⟨y, h'⟩ <;> rw [h] at h' <;> cases h'
  · rfl
  · exact absurd rfl (n _ _)
  · exact absurd rfl (n' _ _)
  · rfl
theorem wk_list {a : Addr} {vs : List V} {ds : List D} (h : Rd S a (.lst vs)) (r : Reps K fa S vs ds) : Wk K fa σ S (Itl K a) ds none where
  go := fun σ' i S1 H1 _ s1 s2 _ hi => by
    obtain ⟨h', _⟩ := r.at i hi
    exact ⟨vs, vs[i], .inl ((s1.trans s2).rd h), List.getElem?_eq_getElem h'⟩
  yld := fun σ' i S1 H1 x H2 d _ s1 s2 _ e y => by
    obtain ⟨rfl, y⟩ := y
    obtain ⟨v, e1, e2⟩ := r.get e
    have := y vs (.inl ((s1.trans s2).rd h))
    rw [e1] at this
    cases this
    exact ⟨S1, .refl s2, e2.mono s1⟩
  stop := fun σ' i S1 H1 _ s1 s2 _ hi => ⟨vs, .inl ((s1.trans s2).rd h), by rw [r.length]; exact hi⟩
theorem wk_tup {a : Addr} {vs : List V} {ds : List D} (h : SqT K S a vs) (r : Reps K fa S vs ds) : Wk K fa σ S (Itt K a) ds none where
  go := fun σ' i S1 H1 _ s1 s2 _ hi => by
    obtain ⟨h', _⟩ := r.at i hi
    exact ⟨vs, vs[i], (s1.trans s2).sqT h, List.getElem?_eq_getElem h'⟩
  yld := fun σ' i S1 H1 x H2 d _ s1 s2 _ e y => by
    obtain ⟨rfl, y⟩ := y
    obtain ⟨v, e1, e2⟩ := r.get e
    have := y vs ((s1.trans s2).sqT h)
    rw [e1] at this
    cases this
    exact ⟨S1, .refl s2, e2.mono s1⟩
  stop := fun σ' i S1 H1 _ s1 s2 _ hi => ⟨vs, (s1.trans s2).sqT h, by rw [r.length]; exact hi⟩
theorem wk_str {x : List Nat} (o : sOk x) : Wk K fa σ S (Its (ss x)) (x.map fun c => .str [c]) none where
  go := fun σ' i S1 H1 _ s1 s2 _ hi => by simpa [Its, ss] using hi
  yld := fun σ' i S1 H1 y H2 d _ s1 s2 _ e y' => by
    obtain ⟨rfl, c, e1, rfl⟩ := y'
    rw [List.getElem?_map] at e
    have e1 : x[i]? = some c := by simpa [ss] using e1
    rw [e1] at e
    cases e
    refine ⟨S1, .refl s2, .str [c] ⟨fun z hz => ?_, by simp [sizeLine]⟩⟩
    have : z = c := by simpa using hz
    rw [this]
    exact o.1 c (List.mem_of_getElem? e1)
  stop := fun σ' i S1 H1 _ s1 s2 _ hi => by simpa [Its, ss] using hi
theorem wk_own {a : Addr} {i : Nat} {ds : List D} (h : σ[i]? = some (some (.ref a))) : Wk K fa σ S (Itl K a) ds (some (i, ds)) where
  go := fun σ' j S1 H1 hk s1 s2 c hi => by
    obtain ⟨a', vs, e1, e2, r⟩ := c
    rw [hk i rfl, h] at e1
    cases e1
    obtain ⟨h', _⟩ := r.at j hi
    exact ⟨vs, vs[j], .inl e2, List.getElem?_eq_getElem h'⟩
  yld := fun σ' j S1 H1 x H2 d hk s1 s2 c e y => by
    obtain ⟨a', vs, e1, e2, r⟩ := c
    rw [hk i rfl, h] at e1
    cases e1
    obtain ⟨rfl, y⟩ := y
    obtain ⟨v, f1, f2⟩ := r.get e
    have := y vs (.inl e2)
    rw [f1] at this
    cases this
    exact ⟨S1, .refl s2, f2⟩
  stop := fun σ' j S1 H1 hk s1 s2 c hi => by
    obtain ⟨a', vs, e1, e2, r⟩ := c
    rw [hk i rfl, h] at e1
    cases e1
    exact ⟨vs, .inl e2, by rw [r.length]; exact hi⟩
theorem rangeL_at : ∀ (n : Nat) (lo : Int) (i : Nat) (d : D), (rangeL lo n)[i]? = some d → d = .int (lo + i)
  | 0, _, _, _, h => by simp [rangeL] at h
  | n + 1, lo, 0, d, h => by simp [rangeL] at h; rw [← h]; simp
  | n + 1, lo, i + 1, d, h => by
    have := rangeL_at n (lo + 1) i d (by simpa [rangeL] using h)
    rw [this]
    congr 1
    omega
theorem rangeL_len : ∀ (n : Nat) (lo : Int), (rangeL lo n).length = n
  | 0, _ => rfl
  | n + 1, lo => by simp [rangeL, rangeL_len n]
theorem wk_range {lo : Int} {n : Nat} : Wk K fa σ S (Itr lo n) (rangeL lo n) none where
  go := fun σ' i S1 H1 _ s1 s2 _ hi => by rw [rangeL_len] at hi; exact hi
  yld := fun σ' i S1 H1 y H2 d _ s1 s2 _ e y' => by
    obtain ⟨rfl, rfl⟩ := y'
    rw [rangeL_at _ _ _ _ e]
    exact ⟨S1, .refl s2, .int _⟩
  stop := fun σ' i S1 H1 _ s1 s2 _ hi => by rw [rangeL_len] at hi; exact hi
end
section
variable {G : Gs} {k : Nat} {X : Cx} {tg : Expr} {pos p : Pos} {e : Ex} {es : List Ex} {x : Expr} {xs : List Expr}
theorem smallI_iff {i : Int} (h : smallI i = true) : -(2 ^ 62) ≤ i ∧ i < 2 ^ 62 := by
  simpa [smallI] using h
theorem pi_E (h : PE X x (tO G k X.K e)) : PI X tg x (tI G k X.K e) := (((pi_list h).or (pi_tup h)).or (pi_str h)).weak fun σ H RR ⟨S, ρ, ds, g, ρ', rl, ev, post⟩ => by
  have key : ∃ o ρ1, od e ρ (G.ev k e ρ) = .ok (o, ρ1) ∧ ρ1 = ρ' ∧ ∃ d, der ρ1 o = some d ∧ ((g = none ∧ itemsD d = some ds ∧ ∀ i, o = .s i → ∃ d', ρ'[i]? = some (some (.val d'))) ∨ ∃ i, o = .s i ∧ g = some (i, ds) ∧ d = .lst ds) := by
    by_cases hn : ∃ i, e = .nm i
    · obtain ⟨i, rfl⟩ := hn
      simp only [srcOf] at ev
      split at ev
      · rename_i ds' q
        cases ev
        exact ⟨.s i, ρ, by simp only [od, q], rfl, .lst ds, by simp [der, q, SV.d], .inr ⟨i, rfl, rfl, rfl⟩⟩
      · rename_i d q
        obtain ⟨ds', e1, e2⟩ := opt_ok ev
        cases e2
        exact ⟨.s i, ρ, by simp only [od, q], rfl, d, by simp [der, q, SV.d], .inl ⟨rfl, e1, fun j hj => by cases hj; exact ⟨_, q⟩⟩⟩
      · cases ev
    · have hn' : ∀ i, e ≠ .nm i := fun i z => hn ⟨i, z⟩
      have e0 : srcOf e ρ (G.ev k e ρ) = (G.ev k e ρ).bind fun x => opt (itemsD x.1) fun ds => .ok (ds, none, x.2.2) := by
        cases e <;> first | rfl | exact absurd rfl (hn' _)
      rw [e0] at ev
      obtain ⟨⟨d, fr, ρ1⟩, e1, ev⟩ := R.bind_ok ev
      obtain ⟨ds', e2, ev⟩ := opt_ok ev
      cases ev
      exact ⟨.v d, ρ1, by rw [od_ne hn', e1]; rfl, rfl, d, rfl, .inl ⟨rfl, e2, fun i h => nomatch h⟩⟩
  obtain ⟨o, ρ1, eo, rfl, d, ed, cs⟩ := key
  rcases cs with ⟨rfl, ei, hv⟩ | ⟨i, rfl, rfl, rfl⟩
  · have rep : ∀ {v : V} {H1 S1 : Hp}, Go X.K G.fa σ S ρ H S1 ρ1 H1 → OV X.K G.fa S1 σ v o → Rep X.K G.fa S1 v d := fun {v H1 S1} g ov => by
      cases o with
      | v d' => cases ed; exact ov
      | s i =>
        obtain ⟨d', q⟩ := hv i rfl
        simp only [der, q, Option.some.injEq] at ed
        subst ed
        obtain ⟨v', e1, e2⟩ := g.rl.val i d' q
        have ov : σ[i]? = some (some v) := ov
        rw [ov] at e1; cases e1
        exact e2
    unfold itemsD at ei
    split at ei
    · cases ei
      refine .inl (.inl ⟨S, ρ, o, ρ1, rl, eo, fun v H1 S1 g ov => ?_⟩)
      cases rep g ov with
      | lst h r => exact ⟨_, rfl, ⟨_, .inl (g.rl.sub.rd h)⟩, post _ H1 S1 g (wk_list h r)⟩
    · cases ei
      refine .inl (.inr ⟨S, ρ, o, ρ1, rl, eo, fun v H1 S1 g ov => ?_⟩)
      cases rep g ov with
      | tup h _ r => exact ⟨_, rfl, ⟨_, g.rl.sub.sqT h⟩, post _ H1 S1 g (wk_tup h r)⟩
    · cases ei
      refine .inr ⟨S, ρ, o, ρ1, rl, eo, fun v H1 S1 g ov => ?_⟩
      cases rep g ov with
      | str _ ok => exact ⟨_, rfl, post _ H1 S1 g (wk_str ok)⟩
    · exact .inl (.inl ⟨S, ρ, o, ρ1, rl, eo, fun v H1 S1 g ov => by cases rep g ov⟩)
    · cases ei
  · refine .inl (.inl ⟨S, ρ, .s i, ρ1, rl, eo, fun v H1 S1 g ov => ?_⟩)
    have ov' : σ[i]? = some (some v) := ov
    obtain ⟨a, vs, rfl, h, r⟩ := RepB.lst g.rl.sub (OV.get g.rl ov ed)
    exact ⟨a, rfl, ⟨vs, .inl h⟩, post _ H1 S1 g (wk_own ov')⟩
theorem pi_rg1 (hg : Gl X "range") (hm : X.mg "range" = none) (ha : PA X [x] (tOs G k X.K [e])) (hs : starEach [x] X.env = [(false, eval x X.env)]) : PI X tg (.Call (.Name "range" p) [x] [] pos) (tI G k X.K (.bi .range [e])) := (pi_range1 hg hm ha hs).weak fun σ H RR ⟨S, ρ, ds, g, ρ', rl, ev, post⟩ => by
  simp only [srcOf, Gs.ev, evE] at ev
  obtain ⟨⟨d, fr, ρ1⟩, e1, ev⟩ := R.bind_ok ev
  obtain ⟨⟨os, ρ2⟩, e2, e1⟩ := R.bind_ok e1
  obtain ⟨vs, e3, e1⟩ := opt_ok e1
  obtain ⟨z, e4, e1⟩ := opt_ok e1
  obtain ⟨ds', e5, ev⟩ := opt_ok ev
  cases e1
  cases ev
  refine ⟨S, ρ, os, ρ2, rl, e2, fun us H1 S1 g ov => ?_⟩
  have hr := OVs.get g.rl ov e3
  simp only [biD] at e4
  unfold rangeD at e4
  split at e4
  · split at e4
    · rename_i hsm
      cases e4
      simp only [itemsD, Option.some.injEq] at e5
      subst e5
      obtain ⟨u, rfl, hu⟩ := hr.one
      obtain ⟨b1, b2⟩ := smallI_iff hsm
      exact ⟨_, by rw [hu.int], b1, b2, post _ H1 S1 g wk_range⟩
    · cases e4
  · have := hr.two
    obtain ⟨a, b, rfl, _⟩ := this
    cases ov with
    | cons h t => cases t with
      | cons h' t => 
        simp only [evOs] at e2
        obtain ⟨y, _, e2⟩ := R.bind_ok e2
        obtain ⟨y', e6, e2⟩ := R.bind_ok e2
        cases e6
        cases e2
  · cases e4
end
theorem zipL_at : ∀ {xs ys : List D} {i : Nat} {d : D}, (zipL xs ys)[i]? = some d → ∃ x y, xs[i]? = some x ∧ ys[i]? = some y ∧ d = .tup [x, y]
  | [], _, i, d, h => by simp [zipL] at h
  | _ :: _, [], i, d, h => by simp [zipL] at h
  | x :: xs, y :: ys, 0, d, h => by simp [zipL] at h; exact ⟨x, y, rfl, rfl, h.symm⟩
  | x :: xs, y :: ys, i + 1, d, h => by
    obtain ⟨x', y', h1, h2, h3⟩ := zipL_at (xs := xs) (ys := ys) (i := i) (d := d) (by simpa [zipL] using h)
    exact ⟨x', y', by simpa using h1, by simpa using h2, h3⟩
theorem zipL_len : ∀ (xs ys : List D), (zipL xs ys).length = min xs.length ys.length
  | [], _ => by simp [zipL]
  | _ :: _, [] => by simp [zipL]
  | x :: xs, y :: ys => by simp [zipL, zipL_len xs ys]
theorem enumL_at : ∀ {xs : List D} {k : Int} {i : Nat} {d : D}, (enumL k xs)[i]? = some d → ∃ x, xs[i]? = some x ∧ d = .tup [.int (k + i), x]
  | [], _, i, d, h => by simp [enumL] at h
  | x :: xs, k, 0, d, h => by simp [enumL] at h; exact ⟨x, rfl, by rw [← h]; simp⟩
  | x :: xs, k, i + 1, d, h => by
    obtain ⟨x', h1, h3⟩ := enumL_at (xs := xs) (k := k + 1) (i := i) (d := d) (by simpa [enumL] using h)
    refine ⟨x', by simpa using h1, ?_⟩
    rw [h3]
    congr 3
    omega
theorem enumL_len : ∀ (xs : List D) (k : Int), (enumL k xs).length = xs.length
  | [], _ => rfl
  | x :: xs, k => by simp [enumL, enumL_len xs]
section
variable {K : PySem.W.Frag} {fa : FA} {σ : L2.St} {S H : Hp}
/-- a pair that is made anew -/
theorem rep_pair {S0 S1 H1 : Hp} (s1 : Sub S0 S1) (s2 : Sub S1 H1) {x y : V} {d e : D} {T : Addr} (n : H1 T = none) (r1 : Rep K fa S0 x d) (r2 : Rep K fa S0 y e) (nl : lets [d, e] = false) : ∃ S', Gr S1 H1 S' (upd H1 T (.tup [x, y])) ∧ Rep K fa S' (.ref T) (.tup [d, e]) := by
  obtain ⟨g, r⟩ := Gr.tup (K := K) (fa := fa) s2 n (.cons (r1.mono s1) (.cons (r2.mono s1) .nil)) nl
  exact ⟨_, g, r⟩
theorem zok_at : ∀ {xs ys : List D} {i : Nat} {d e : D}, zok xs ys = true → xs[i]? = some d → ys[i]? = some e → lets [d, e] = false
  | x :: xs, y :: ys, 0, d, e, h, h1, h2 => by
    simp only [List.getElem?_cons_zero, Option.some.injEq] at h1 h2
    subst h1 h2
    simp only [zok, Bool.and_eq_true] at h
    have := h.1
    simp only [lets, List.all_cons, List.all_nil, Bool.and_true]
    cases q : (lett x && lett y) with
    | false => rfl
    | true => rw [q] at this; cases this
  | x :: xs, y :: ys, i + 1, d, e, h, h1, h2 => by
    simp only [zok, Bool.and_eq_true] at h
    exact zok_at h.2 (by simpa using h1) (by simpa using h2)
  | [], _, _, _, _, _, h1, _ => by simp at h1
  | _ :: _, [], _, _, _, _, _, h2 => by simp at h2
theorem wk_zipL {a b : Addr} {xs ys : List V} {ds es : List D} (ha : Rd S a (.lst xs)) (hb : Rd S b (.lst ys)) (ra : Reps K fa S xs ds) (rb : Reps K fa S ys es) (zk : zok ds es = true) : Wk K fa σ S (Itz K a b) (zipL ds es) none where
  go := fun σ' i S1 H1 _ s1 s2 _ hi => by
    rw [zipL_len] at hi
    obtain ⟨h1, _⟩ := ra.at i (by omega)
    obtain ⟨h2, _⟩ := rb.at i (by omega)
    exact ⟨xs, ys, xs[i], ys[i], .inl ((s1.trans s2).rd ha), .inl ((s1.trans s2).rd hb), List.getElem?_eq_getElem h1, List.getElem?_eq_getElem h2⟩
  yld := fun σ' i S1 H1 v H2 d _ s1 s2 _ e y => by
    obtain ⟨d1, d2, e1, e2, rfl⟩ := zipL_at e
    obtain ⟨T, x, y', rfl, n, rfl, f1, f2⟩ := y
    obtain ⟨v1, g1, r1⟩ := ra.get e1
    obtain ⟨v2, g2, r2⟩ := rb.get e2
    have h1 := f1 xs (.inl ((s1.trans s2).rd ha))
    have h2 := f2 ys (.inl ((s1.trans s2).rd hb))
    rw [g1] at h1
    rw [g2] at h2
    cases h1
    cases h2
    exact rep_pair s1 s2 n r1 r2 (zok_at zk e1 e2)
  stop := fun σ' i S1 H1 _ s1 s2 _ hi => by
    rw [zipL_len, ← ra.length, ← rb.length] at hi
    exact ⟨xs, ys, .inl ((s1.trans s2).rd ha), .inl ((s1.trans s2).rd hb), by omega⟩
theorem wk_zipT {a b : Addr} {xs ys : List V} {ds es : List D} (ha : SqT K S a xs) (hb : SqT K S b ys) (ra : Reps K fa S xs ds) (rb : Reps K fa S ys es) (zk : zok ds es = true) : Wk K fa σ S (RZ.ItzT K a b) (zipL ds es) none where
  go := fun σ' i S1 H1 _ s1 s2 _ hi => by
    rw [zipL_len] at hi
    obtain ⟨h1, _⟩ := ra.at i (by omega)
    obtain ⟨h2, _⟩ := rb.at i (by omega)
    exact ⟨xs, ys, xs[i], ys[i], (s1.trans s2).sqT ha, (s1.trans s2).sqT hb, List.getElem?_eq_getElem h1, List.getElem?_eq_getElem h2⟩
  yld := fun σ' i S1 H1 v H2 d _ s1 s2 _ e y => by
    obtain ⟨d1, d2, e1, e2, rfl⟩ := zipL_at e
    obtain ⟨T, x, y', rfl, n, rfl, f1, f2⟩ := y
    obtain ⟨v1, g1, r1⟩ := ra.get e1
    obtain ⟨v2, g2, r2⟩ := rb.get e2
    have h1 := f1 xs ((s1.trans s2).sqT ha)
    have h2 := f2 ys ((s1.trans s2).sqT hb)
    rw [g1] at h1
    rw [g2] at h2
    cases h1
    cases h2
    exact rep_pair s1 s2 n r1 r2 (zok_at zk e1 e2)
  stop := fun σ' i S1 H1 _ s1 s2 _ hi => by
    rw [zipL_len, ← ra.length, ← rb.length] at hi
    exact ⟨xs, ys, (s1.trans s2).sqT ha, (s1.trans s2).sqT hb, by omega⟩
theorem wk_enum {a : Addr} {xs : List V} {ds : List D} (ha : Rd S a (.lst xs)) (ra : Reps K fa S xs ds) : Wk K fa σ S (Ite K a) (enumL 0 ds) none where
  go := fun σ' i S1 H1 _ s1 s2 _ hi => by
    rw [enumL_len] at hi
    obtain ⟨h1, _⟩ := ra.at i hi
    exact ⟨xs, xs[i], .inl ((s1.trans s2).rd ha), List.getElem?_eq_getElem h1⟩
  yld := fun σ' i S1 H1 v H2 d _ s1 s2 _ e y => by
    obtain ⟨d1, e1, rfl⟩ := enumL_at e
    obtain ⟨T, x, rfl, n, rfl, f1⟩ := y
    obtain ⟨v1, g1, r1⟩ := ra.get e1
    have h1 := f1 xs (.inl ((s1.trans s2).rd ha))
    rw [g1] at h1
    cases h1
    rw [Int.zero_add]
    exact rep_pair s1 s2 n (.int _) r1 rfl
  stop := fun σ' i S1 H1 _ s1 s2 _ hi => by
    rw [enumL_len, ← ra.length] at hi
    exact ⟨xs, .inl ((s1.trans s2).rd ha), hi⟩
theorem wk_enumT {a : Addr} {xs : List V} {ds : List D} (ha : SqT K S a xs) (ra : Reps K fa S xs ds) : Wk K fa σ S (IteT K a) (enumL 0 ds) none where
  go := fun σ' i S1 H1 _ s1 s2 _ hi => by
    rw [enumL_len] at hi
    obtain ⟨h1, _⟩ := ra.at i hi
    exact ⟨xs, xs[i], (s1.trans s2).sqT ha, List.getElem?_eq_getElem h1⟩
  yld := fun σ' i S1 H1 v H2 d _ s1 s2 _ e y => by
    obtain ⟨d1, e1, rfl⟩ := enumL_at e
    obtain ⟨T, x, rfl, n, rfl, f1⟩ := y
    obtain ⟨v1, g1, r1⟩ := ra.get e1
    have h1 := f1 xs ((s1.trans s2).sqT ha)
    rw [g1] at h1
    cases h1
    rw [Int.zero_add]
    exact rep_pair s1 s2 n (.int _) r1 rfl
  stop := fun σ' i S1 H1 _ s1 s2 _ hi => by
    rw [enumL_len, ← ra.length] at hi
    exact ⟨xs, (s1.trans s2).sqT ha, hi⟩
theorem rev_at {α : Type} {ds : List α} {i : Nat} {d : α} (e : ds.reverse[i]? = some d) : i < ds.length ∧ ds[ds.length - 1 - i]? = some d := by
  have h := (List.getElem?_eq_some_iff.mp e).1
  rw [List.length_reverse] at h
  rw [List.getElem?_reverse h] at e
  exact ⟨h, e⟩
theorem wk_revL {a : Addr} {xs : List V} {ds : List D} (ha : Rd S a (.lst xs)) (ra : Reps K fa S xs ds) : Wk K fa σ S (Itv K a xs.length) ds.reverse none where
  go := fun σ' i S1 H1 _ s1 s2 _ hi => by
    rw [List.length_reverse, ← ra.length] at hi
    have h : xs.length - 1 - i < xs.length := by omega
    exact ⟨hi, xs, xs[xs.length - 1 - i], .inl ((s1.trans s2).rd ha), List.getElem?_eq_getElem h⟩
  yld := fun σ' i S1 H1 v H2 d _ s1 s2 _ e y => by
    obtain ⟨rfl, y⟩ := y
    obtain ⟨h, e1⟩ := rev_at e
    obtain ⟨v1, g1, r1⟩ := ra.get e1
    have h1 := y xs (.inl ((s1.trans s2).rd ha))
    rw [ra.length, g1] at h1
    cases h1
    exact ⟨S1, .refl s2, r1.mono s1⟩
  stop := fun σ' i S1 H1 _ s1 s2 _ hi => by
    rw [List.length_reverse, ← ra.length] at hi
    exact hi
theorem wk_revT {a : Addr} {xs : List V} {ds : List D} (ha : SqT K S a xs) (ra : Reps K fa S xs ds) : Wk K fa σ S (RT.ItvT K a xs.length) ds.reverse none where
  go := fun σ' i S1 H1 _ s1 s2 _ hi => by
    rw [List.length_reverse, ← ra.length] at hi
    have h : xs.length - 1 - i < xs.length := by omega
    exact ⟨hi, xs, xs[xs.length - 1 - i], (s1.trans s2).sqT ha, List.getElem?_eq_getElem h⟩
  yld := fun σ' i S1 H1 v H2 d _ s1 s2 _ e y => by
    obtain ⟨rfl, y⟩ := y
    obtain ⟨h, e1⟩ := rev_at e
    obtain ⟨v1, g1, r1⟩ := ra.get e1
    have h1 := y xs ((s1.trans s2).sqT ha)
    rw [ra.length, g1] at h1
    cases h1
    exact ⟨S1, .refl s2, r1.mono s1⟩
  stop := fun σ' i S1 H1 _ s1 s2 _ hi => by
    rw [List.length_reverse, ← ra.length] at hi
    exact hi
end
section
variable {G : Gs} {k : Nat} {X : Cx} {tg : Expr} {pos p tpos : Pos} {a b e : Ex} {es : List Ex} {x xa xb : Expr} {xs elts : List Expr} {kk : Nat}
theorem itr_mid {σ : L2.St} {H : Hp} {RR : It → Hp → Prop} {bi : Bi} (h : tI G k X.K (.itr bi es) σ H RR) : ∃ S ρ ds zs ρ', Rl X.K G.fa S σ ρ H ∧ evVs G.mf (G.cf k) es ρ = .ok (ds, ρ') ∧ itD bi ds = some zs ∧
    ∀ J H' S', Go X.K G.fa σ S ρ H S' ρ' H' → Wk X.K G.fa σ S' J zs none → RR J H' := by
  obtain ⟨S, ρ, ds, g, ρ', rl, ev, post⟩ := h
  simp only [srcOf, Gs.ev, evE] at ev
  obtain ⟨⟨d, fr, ρ1⟩, e1, ev⟩ := R.bind_ok ev
  obtain ⟨⟨vs, ρ2⟩, e2, e1⟩ := R.bind_ok e1
  obtain ⟨z, e4, e1⟩ := opt_ok e1
  obtain ⟨ds', e5, ev⟩ := opt_ok ev
  cases e1
  cases ev
  simp only [itemsD, Option.some.injEq] at e5
  subst e5
  exact ⟨S, ρ, vs, z, ρ2, rl, e2, e4, post⟩
theorem len_two {l : List D} (h : l.length = 2) : ∃ d d2, l = [d, d2] := by
  match l, h with
  | [a, b], _ => exact ⟨a, b, rfl⟩
theorem len_one {l : List D} (h : l.length = 1) : ∃ d, l = [d] := by
  match l, h with
  | [a], _ => exact ⟨a, rfl⟩
theorem pi_rg2 (hg : Gl X "range") (hm : X.mg "range" = none) (ha : PA X [xa, xb] (tVs G k X.K [a, b])) (hs : starEach [xa, xb] X.env = [(false, eval xa X.env), (false, eval xb X.env)]) (hs2 : starEach [xb] X.env = [(false, eval xb X.env)]) :
    PI X tg (.Call (.Name "range" p) [xa, xb] [] pos) (tI G k X.K (.itr .range [a, b])) := (pi_range2 hg hm ha hs hs2).weak fun σ H RR h => by
  obtain ⟨S, ρ, ds, zs, ρ', rl, ev, e, post⟩ := itr_mid h
  refine ⟨S, ρ, ds, ρ', rl, ev, fun vs H1 S1 g r => ?_⟩
  obtain ⟨d, d2, rfl⟩ : ∃ d d2, ds = [d, d2] := len_two (evVs_len ev)
  cases d <;> cases d2 <;> try (simp [itD] at e; done)
  · simp only [itD] at e
    split at e
    · rename_i hsm
      cases e
      simp only [Bool.and_eq_true] at hsm
      obtain ⟨b1, b2⟩ := smallI_iff hsm.1
      obtain ⟨b3, b4⟩ := smallI_iff hsm.2
      cases r with
      | cons r1 r => cases r with
        | cons r2 r =>
          cases r
          cases r1
          cases r2
          exact ⟨_, _, rfl, ⟨b1, b2, b3, b4⟩, post _ H1 S1 g wk_range⟩
    · cases e
theorem len_three {l : List D} (h : l.length = 3) : ∃ d d2 d3, l = [d, d2, d3] := by
  match l, h with
  | [a, b, c], _ => exact ⟨a, b, c, rfl⟩
theorem rgC_pos {i j c : Int} (ha : -(2 ^ 62) ≤ i) (ha' : i < 2 ^ 62) (hb : -(2 ^ 62) ≤ j) (hb' : j < 2 ^ 62) (h0 : 0 < c) (h1 : c < 1000000) : RgC i j c (if i < j then ((j - i - 1) / c + 1).toNat else 0) := by
  have hs : Builtin.Range.rangeSize i j c = ((if i < j then ((j - i - 1) / c + 1).toNat else 0 : Nat) : Int) := by
    unfold Builtin.Range.rangeSize
    rw [if_pos h0]
    split
    · have : 0 ≤ (j - i - 1) / c := Int.ediv_nonneg (by omega) (by omega)
      omega
    · rfl
  refine ⟨by omega, by omega, ?_, hs⟩
  unfold Builtin.Range.small
  rw [hs]
  have hq : (j - i - 1) / c ≤ j - i - 1 ∨ j - i - 1 < 0 := by
    rcases Int.lt_or_le (j - i - 1) 0 with h | h
    · exact .inr h
    · exact .inl (Int.ediv_le_self c h)
  simp only [Builtin.Range.rangeFitsLong, Bool.and_eq_true, Bool.or_eq_true, decide_eq_true_eq, beq_iff_eq, if_pos (show c > 0 from h0)]
  split <;> omega
theorem wk_rangeS {σ : L2.St} {S : Hp} {lo c : Int} : ∀ {n : Nat}, Wk X.K G.fa σ S (Itc lo c n) (rangeS lo c n) none := by
  intro n
  have len : ∀ (n : Nat) (lo : Int), (rangeS lo c n).length = n := fun n => by
    induction n with
    | zero => intro _; rfl
    | succ n ih => intro lo; simp [rangeS, ih]
  have at_ : ∀ (n : Nat) (lo : Int) (i : Nat) (d : D), (rangeS lo c n)[i]? = some d → d = .int (lo + (i : Nat) * c) := fun n => by
    induction n with
    | zero => intro lo i d h; simp [rangeS] at h
    | succ n ih =>
      intro lo i d h
      cases i with
      | zero => simp [rangeS] at h; rw [← h]; simp
      | succ i =>
        have := ih (lo + c) i d (by simpa [rangeS] using h)
        rw [this]
        congr 1
        rw [Int.natCast_add, Int.add_mul]
        omega
  exact {
    go := fun σ' i S1 H1 _ s1 s2 _ hi => by rw [len] at hi; exact hi
    yld := fun σ' i S1 H1 y H2 d _ s1 s2 _ e y' => by
      obtain ⟨rfl, rfl⟩ := y'
      rw [at_ _ _ _ _ e]
      exact ⟨S1, .refl s2, .int _⟩
    stop := fun σ' i S1 H1 _ s1 s2 _ hi => by rw [len] at hi; exact hi }
theorem pi_rg3 {c : Ex} {xc : Expr} (hg : Gl X "range") (hm : X.mg "range" = none) (ha : PA X [xa, xb, xc] (tVs G k X.K [a, b, c])) (hs : starEach [xa, xb, xc] X.env = (false, eval xa X.env) :: starEach [xb, xc] X.env) (hpl : (backTo pos (starEach [xb, xc] X.env)).any (·.1) = false) :
    PI X tg (.Call (.Name "range" p) [xa, xb, xc] [] pos) (tI G k X.K (.itr .range [a, b, c])) := (pi_range3 hg hm ha hs hpl).weak fun σ H RR h => by
  obtain ⟨S, ρ, ds, zs, ρ', rl, ev, e, post⟩ := itr_mid h
  refine ⟨S, ρ, ds, ρ', rl, ev, fun vs H1 S1 g r => ?_⟩
  obtain ⟨d, d2, d3, rfl⟩ : ∃ d d2 d3, ds = [d, d2, d3] := len_three (evVs_len ev)
  cases d <;> cases d2 <;> cases d3 <;> try (simp [itD] at e; done)
  simp only [itD] at e
  split at e
  · rename_i hsm
    cases e
    simp only [Bool.and_eq_true, decide_eq_true_eq] at hsm
    obtain ⟨b1, b2⟩ := smallI_iff hsm.1.1.1
    obtain ⟨b3, b4⟩ := smallI_iff hsm.1.1.2
    cases r with
    | cons r1 r => cases r with
      | cons r2 r => cases r with
        | cons r3 r =>
          cases r
          cases r1
          cases r2
          cases r3
          exact ⟨_, _, _, _, rfl, rgC_pos b1 b2 b3 b4 hsm.1.2 hsm.2, post _ H1 S1 g wk_rangeS⟩
  · cases e
theorem pi_zipE (hg : Gl X "zip") (hm : X.mg "zip" = none) (ha : PA X [xa, xb] (tVs G k X.K [a, b])) (hs : starEach [xa, xb] X.env = (false, eval xa X.env) :: starEach [xb] X.env) (hpl : (backTo pos (starEach [xb] X.env)).any (·.1) = false) :
    PI X (.Tuple elts kk tpos) (.Call (.Name "zip" p) [xa, xb] [] pos) (tI G k X.K (.itr .zip [a, b])) := (RZ.pi_zipA hg hm ha hs hpl).weak fun σ H RR h => by
  obtain ⟨S, ρ, ds, zs, ρ', rl, ev, e, post⟩ := itr_mid h
  refine ⟨S, ρ, ds, ρ', rl, ev, fun vs H1 S1 g r => ?_⟩
  obtain ⟨d, d2, rfl⟩ : ∃ d d2, ds = [d, d2] := len_two (evVs_len ev)
  cases d <;> cases d2 <;> try (simp [itD] at e; done)
  · simp only [itD] at e
    split at e
    case isFalse => cases e
    rename_i zk
    cases e
    cases r with
    | cons r1 r => cases r with
      | cons r2 r =>
        cases r
        cases r1 with
        | tup h1 _ q1 => cases r2 with
          | tup h2 _ q2 => exact ⟨_, _, _, _, rfl, .inr ⟨g.rl.sub.sqT h1, g.rl.sub.sqT h2, post _ H1 S1 g (wk_zipT h1 h2 q1 q2 zk)⟩⟩
  · simp only [itD] at e
    split at e
    case isFalse => cases e
    rename_i zk
    cases e
    cases r with
    | cons r1 r => cases r with
      | cons r2 r =>
        cases r
        cases r1 with
        | lst h1 q1 => cases r2 with
          | lst h2 q2 => exact ⟨_, _, _, _, rfl, .inl ⟨.inl (g.rl.sub.rd h1), .inl (g.rl.sub.rd h2), post _ H1 S1 g (wk_zipL h1 h2 q1 q2 zk)⟩⟩
theorem pi_enumE (hg : Gl X "enumerate") (hm : X.mg "enumerate" = none) (ha : PA X [xa] (tVs G k X.K [a])) (hs : starEach [xa] X.env = [(false, eval xa X.env)]) :
    PI X (.Tuple elts kk tpos) (.Call (.Name "enumerate" p) [xa] [] pos) (tI G k X.K (.itr .enum [a])) := (pi_enumA hg hm ha hs).weak fun σ H RR h => by
  obtain ⟨S, ρ, ds, zs, ρ', rl, ev, e, post⟩ := itr_mid h
  refine ⟨S, ρ, ds, ρ', rl, ev, fun vs H1 S1 g r => ?_⟩
  obtain ⟨d, rfl⟩ : ∃ d, ds = [d] := len_one (evVs_len ev)
  cases d <;> try (simp [itD] at e; done)
  · simp only [itD] at e
    cases e
    cases r with
    | cons r1 r =>
      cases r
      cases r1 with
      | tup h1 _ q1 => exact ⟨_, _, rfl, .inr ⟨g.rl.sub.sqT h1, post _ H1 S1 g (wk_enumT h1 q1)⟩⟩
  · simp only [itD] at e
    cases e
    cases r with
    | cons r1 r =>
      cases r
      cases r1 with
      | lst h1 q1 => exact ⟨_, _, rfl, .inl ⟨.inl (g.rl.sub.rd h1), post _ H1 S1 g (wk_enum h1 q1)⟩⟩
theorem pi_revE (hg : Gl X "reversed") (hm : X.mg "reversed" = none) (ha : PE X xa (tE G k X.K a)) (hs : starEach [xa] X.env = (false, eval xa X.env) :: starEach [] X.env) :
    PI X tg (.Call (.Name "reversed" p) [xa] [] pos) (tI G k X.K (.itr .rev [a])) := (RT.pi_revA hg hm (pe_v ha) hs).weak fun σ H RR h => by
  obtain ⟨S, ρ, ds, zs, ρ', rl, ev, e, post⟩ := itr_mid h
  simp only [evVs] at ev
  obtain ⟨⟨d, fr, ρ1⟩, e1, ev⟩ := R.bind_ok ev
  cases ev
  refine ⟨S, ρ, d, fr, ρ1, rl, e1, fun v H1 S1 g r => ?_⟩
  cases d <;> try (simp [itD] at e; done)
  · simp only [itD] at e
    cases e
    cases r with
    | tup h1 _ q1 => exact ⟨_, _, rfl, .inr ⟨g.rl.sub.sqT h1, post _ H1 S1 g (wk_revT h1 q1)⟩⟩
  · simp only [itD] at e
    cases e
    cases r with
    | lst h1 q1 => exact ⟨_, _, rfl, .inl ⟨.inl (g.rl.sub.rd h1), post _ H1 S1 g (wk_revL h1 q1)⟩⟩
end
end G

/-! list comprehensions -/
namespace G
open PySem PySem.Spec L2
section
variable {K : PySem.W.Frag} {fa : FA} {S S' S1 H H' H1 : Hp} {σ σ' : L2.St} {ρ ρ' ρ1 : En}
theorem wip_len (ρ : En) : ∀ vs : List Nat, (wip ρ vs).length = ρ.length
  | [] => rfl
  | v :: vs => by rw [wip, List.length_set, wip_len ρ vs]
theorem wip_out {i : Nat} : ∀ {vs : List Nat}, i ∉ vs → (wip ρ vs)[i]? = ρ[i]?
  | [], _ => rfl
  | v :: vs, h => by
    simp only [List.mem_cons, not_or] at h
    rw [wip, List.getElem?_set_ne (Ne.symm h.1), wip_out h.2]
theorem wip_in {i : Nat} : ∀ {vs : List Nat}, i ∈ vs → (wip ρ vs)[i]? = none ∨ (wip ρ vs)[i]? = some none
  | v :: vs, h => by
    rw [wip]
    by_cases e : v = i
    · subst e
      rw [List.getElem?_set]
      simp only [if_true]
      split <;> simp
    · rw [List.getElem?_set_ne e]
      exact wip_in ((List.mem_cons.mp h).resolve_left fun z => e z.symm)
theorem wip_some {i : Nat} {vs : List Nat} {x : SV} (h : (wip ρ vs)[i]? = some (some x)) : i ∉ vs ∧ ρ[i]? = some (some x) := by
  by_cases hi : i ∈ vs
  · rcases wip_in (ρ := ρ) hi with e | e <;> rw [e] at h <;> cases h
  · exact ⟨hi, by rw [← wip_out hi]; exact h⟩
theorem wipe_out {i : Nat} : ∀ {vs : List Nat}, i ∉ vs → (wipe σ vs)[i]? = σ[i]?
  | [], _ => rfl
  | v :: vs, h => by
    simp only [List.mem_cons, not_or] at h
    rw [wipe, List.getElem?_set_ne (Ne.symm h.1), wipe_out h.2]
theorem wipe_ext : ∀ {vs : List Nat} {σ σ' : L2.St}, σ'.length = σ.length → (∀ j, j ∉ vs → σ'[j]? = σ[j]?) → wipe σ' vs = wipe σ vs := by
  intro vs σ σ' hl h
  refine List.ext_getElem? fun i => ?_
  by_cases hi : i ∈ vs
  · have : ∀ (vs : List Nat) (τ : L2.St), i ∈ vs → (wipe τ vs)[i]? = if i < τ.length then some none else none := by
      intro vs
      induction vs with
      | nil => intro τ h; cases h
      | cons v vs ih =>
        intro τ h
        rw [wipe]
        by_cases e : v = i
        · subst e
          rw [List.getElem?_set]
          simp [wipe_length]
        · rw [List.getElem?_set_ne e]
          exact ih τ ((List.mem_cons.mp h).resolve_left fun z => e z.symm)
    rw [this vs _ hi, this vs _ hi, hl]
  · rw [wipe_out hi, wipe_out hi, h i hi]
/-- within a block: the block's own slots forgotten -/
theorem Rl.wipe (r : Rl K fa S σ ρ H) (vs : List Nat) : Rl K fa S (L2.wipe σ vs) (wip ρ vs) H where
  sub := r.sub
  len := by rw [wipe_length, wip_len]; exact r.len
  val := fun i d e => by
    obtain ⟨h1, h2⟩ := wip_some e
    rw [wipe_out h1]
    exact r.val i d h2
  own := fun i d e => by
    obtain ⟨h1, h2⟩ := wip_some e
    rw [wipe_out h1]
    exact r.own i d h2
  dis := fun i j d d' a e1 e2 e3 e4 => by
    obtain ⟨h1, h2⟩ := wip_some e1
    obtain ⟨h3, h4⟩ := wip_some e2
    rw [wipe_out h1] at e3
    rw [wipe_out h3] at e4
    exact r.dis i j d d' a h2 h4 e3 e4
theorem Ow.wipe {vs : List Nat} {a : Addr} (h : Ow (L2.wipe σ vs) (wip ρ vs) a) : Ow σ ρ a := by
  obtain ⟨i, d, e1, e2⟩ := h
  obtain ⟨h1, h2⟩ := wip_some e1
  rw [wipe_out h1] at e2
  exact ⟨i, d, h2, e2⟩
theorem back_len : ∀ {vs : List Nat}, (back ρ ρ' vs).length = ρ'.length
  | [] => rfl
  | v :: vs => by
    rw [back]
    split
    · rw [List.length_set, back_len]
    · exact back_len
theorem back_out {i : Nat} : ∀ {vs : List Nat}, i ∉ vs → (back ρ ρ' vs)[i]? = ρ'[i]?
  | [], _ => rfl
  | v :: vs, h => by
    simp only [List.mem_cons, not_or] at h
    rw [back]
    split
    · rw [List.getElem?_set_ne (Ne.symm h.1), back_out h.2]
    · exact back_out h.2
theorem back_in {i : Nat} (hl : ρ'.length = ρ.length) : ∀ {vs : List Nat}, i ∈ vs → (back ρ ρ' vs)[i]? = ρ[i]?
  | v :: vs, h => by
    rw [back]
    by_cases e : v = i
    · subst e
      split
      · rename_i x q
        rw [List.getElem?_set_self (by rw [back_len, hl]; exact (List.getElem?_eq_some_iff.mp q).1), q]
      · rename_i q
        rw [q]
        have := List.getElem?_eq_none_iff.mp q
        exact List.getElem?_eq_none_iff.mpr (by rw [back_len, hl]; exact this)
    · have hi := (List.mem_cons.mp h).resolve_left fun z => e z.symm
      split
      · rw [List.getElem?_set_ne e, back_in hl hi]
      · exact back_in hl hi
/-- out of the block again -/
theorem Rl.back (r0 : Rl K fa S σ ρ H) {vs : List Nat} (no : ∀ i ∈ vs, isOwn (ρ[i]?) = false) (sub : Sub S S') (r : Rl K fa S' (L2.wipe σ vs) ρ' H') : Rl K fa S' σ (back ρ ρ' vs) H' ∧ ∀ a, Ow σ (G.back ρ ρ' vs) a → Ow (L2.wipe σ vs) ρ' a := by
  have hl : ρ'.length = ρ.length := by rw [← r.len, wipe_length, r0.len]
  have ow : ∀ (i : Nat) (d : D), (G.back ρ ρ' vs)[i]? = some (some (.own d)) → i ∉ vs ∧ ρ'[i]? = some (some (.own d)) := fun i d e => by
    by_cases hi : i ∈ vs
    · rw [back_in hl hi] at e
      have := no i hi
      rw [e] at this
      cases this
    · rw [back_out hi] at e
      exact ⟨hi, e⟩
  refine ⟨⟨r.sub, by rw [back_len, hl]; exact r0.len, fun i d e => ?_, fun i d e => ?_, fun i j d d' a e1 e2 e3 e4 => ?_⟩, ?_⟩
  · by_cases hi : i ∈ vs
    · rw [back_in hl hi] at e
      obtain ⟨v, q1, q2⟩ := r0.val i d e
      exact ⟨v, q1, q2.mono sub⟩
    · rw [back_out hi] at e
      obtain ⟨v, q1, q2⟩ := r.val i d e
      rw [wipe_out hi] at q1
      exact ⟨v, q1, q2⟩
  · obtain ⟨hi, q⟩ := ow i d e
    have := r.own i d q
    rwa [wipe_out hi] at this
  · obtain ⟨hi, q⟩ := ow i d e1
    obtain ⟨hj, q'⟩ := ow j d' e2
    exact r.dis i j d d' a q q' (by rw [wipe_out hi]; exact e3) (by rw [wipe_out hj]; exact e4)
  · rintro a ⟨i, d, e1, e2⟩
    obtain ⟨hi, q⟩ := ow i d e1
    exact ⟨i, d, q, by rw [wipe_out hi]; exact e2⟩
/-- a tracked list that is no slot's changes: the state stands -/
theorem Rl.side {D : Addr} {o : HO} (r : Rl K fa S σ ρ H) (hS : S D = none) (hO : ¬ Ow σ ρ D) : Rl K fa S σ ρ (upd H D o) where
  sub := fun a u e => by
    rw [upd_ne]; exact r.sub _ _ e
    rintro rfl
    rw [hS] at e; cases e
  len := r.len
  val := r.val
  own := fun i d e => by
    obtain ⟨a, h1, h2, vs, ds, h3, h4, h5⟩ := r.own i d e
    refine ⟨a, h1, h2, vs, ds, h3, ?_, h5⟩
    rw [upd_ne]; exact h4
    rintro rfl
    exact hO ⟨i, d, e, h1⟩
  dis := r.dis
theorem Go.side {A : Addr} {o : HO} (g : Go K fa σ S ρ H S' ρ' H') (hA : H A = none) (hS : S' A = none) (hO : ¬ Ow σ ρ' A) : Go K fa σ S ρ H S' ρ' (upd H' A o) where
  rl := g.rl.side hS hO
  sub := g.sub
  fr := fun a u e n => by
    rw [upd_ne]; exact g.fr a u e n
    rintro rfl
    rw [hA] at e; cases e
  ow := g.ow
  nw := g.nw
  al := fun a e => by
    by_cases z : a = A
    · subst z; exact hA
    · rw [upd_ne z] at e; exact g.al a e
theorem GoS.keep {L : List Nat} {A : Addr} {o : HO} (g : GoS K fa L σ S ρ H σ' S' ρ' H') (hA : H A = some o) (hS : S A = none) (hO : ¬ Ow σ ρ A) : H' A = some o ∧ S' A = none ∧ ¬ Ow σ' ρ' A := by
  refine ⟨g.fr A o hA hO, ?_, fun z => ?_⟩
  · cases q : S' A with
    | none => rfl
    | some u =>
      rcases g.nw A u q with h | h | h
      · rw [hS] at h; cases h
      · rw [hA] at h; cases h
      · exact absurd h hO
  · rcases g.ow A z with h | h
    · exact hO h
    · rw [hA] at h; cases h
theorem GoS.tgt (r : Rl K fa S σ' ρ' H) (o : ∀ a, Ow σ' ρ' a → Ow σ ρ a) : GoS K fa [] σ S ρ H σ' S ρ' H := ⟨r, .refl, fun _ _ e _ => e, fun a h => .inl (o a h), fun _ _ e => .inl e, fun _ h => h, fun _ h => nomatch h⟩
end
section
variable {G : Gs} {k : Nat} {X : Cx} {pos p : Pos} {e : Ex} {tg : Tg} {it elt : Ex} {c : Option Ex} {own : List Nat}
/-- a clause's test -/
def tC? (G : Gs) (k : Nat) (K : PySem.W.Frag) : Option Ex → TT
  | none => tYes
  | some c => tT G k K c
def turnF (G : Gs) (k : Nat) (elt : Ex) (tg : Tg) (c : Option Ex) (d : D) (ρ1 : En) : R (Option D × En) :=
  opt (asgT tg (.val d) ρ1) fun ρ2 => (match c with
          | none => R.ok (true, ρ2)
          | some c => (od c ρ2 (evE G.mf (G.cf k) c ρ2)).bind fun x => opt ((der x.2 x.1).bind truD) fun t => .ok (t, x.2)).bind fun t =>
          if t.1 then (evE G.mf (G.cf k) elt t.2).bind fun z => .ok (some z.1, z.2.2) else .ok (none, t.2)
theorem lcL_len {g : Option (Nat × List D)} {own : List Nat} {turn : D → En → R (Option D × En)} : ∀ {ds : List D} {ρ : En} {r : List D × En}, lcL g own turn ds ρ = .ok r → r.1.length ≤ ds.length
  | [], ρ, r, h => by
    simp only [lcL] at h
    split at h
    · cases h; simp
    · cases h
  | d :: ds, ρ, r, h => by
    simp only [lcL] at h
    split at h
    · obtain ⟨x, _, h⟩ := R.bind_ok h
      obtain ⟨y, h1, h⟩ := R.bind_ok h
      cases h
      have := lcL_len h1
      cases x.1 <;> simp <;> omega
    · cases h
theorem lc_mid {σ : L2.St} {H : Hp} {Q : VK} (hsl : ∀ i ∈ tgSlots tg, i ∈ own) (hgs : ∀ i, it = .nm i → i ∉ own) (h : tE G k X.K (.lc own elt tg it c) σ H Q) :
    tLc (tI G k X.K it) (tG X.K G.fa (tgSlots tg) fun d ρ => asgT tg (.val d) ρ) (tC? G k X.K c) (tV G k X.K elt) own σ H Q := by
  obtain ⟨S, ρ, d, fr, ρ', rl, ev, post⟩ := h
  simp only [Gs.ev, evE] at ev
  obtain ⟨⟨ds, g, ρ1⟩, e1, ev⟩ := R.bind_ok ev
  split at ev
  · cases ev
  rename_i hno
  obtain ⟨⟨rs, ρe⟩, e2, ev⟩ := R.bind_ok ev
  cases ev
  simp only [Bool.or_eq_true, not_or, List.any_eq_true, not_exists, not_and, Bool.not_eq_true, decide_eq_false_iff_not, decide_eq_true_eq] at hno
  obtain ⟨hno, hln⟩ := hno
  have hgn : ∀ j, g.map (·.1) = some j → j ∉ own := fun j hj => by
    have : ∃ i ds', it = .nm i ∧ g = some (i, ds') := by
      cases it <;> first
        | (simp only [srcOf] at e1
           split at e1
           · cases e1; exact ⟨_, _, rfl, rfl⟩
           · obtain ⟨_, _, e1⟩ := opt_ok e1
             cases e1; cases hj
           · cases e1)
        | (simp only [srcOf] at e1
           obtain ⟨_, _, e1⟩ := R.bind_ok e1
           obtain ⟨_, _, e1⟩ := opt_ok e1
           cases e1; cases hj)
    obtain ⟨i, ds', h1, h2⟩ := this
    subst h2
    cases hj
    exact hgs _ h1
  refine ⟨S, ρ, ds, g, ρ1, rl, e1, fun J H1 S1 g1 wk A nA => ?_⟩
  have nS1 : S1 A = none := g1.rl.sub.none nA
  have nO1 : ¬ Ow σ ρ1 A := g1.rl.not_ow nA
  have hσw : ∀ j, g.map (·.1) = some j → (L2.wipe σ own)[j]? = σ[j]? := fun j hj => wipe_out (hgn j hj)
  -- what holds ahead of turn i
  refine ⟨fun i m H2 => m = ds.length - i ∧ i ≤ ds.length ∧ ∃ S2 ρ2 accD accV, Go X.K G.fa (L2.wipe σ own) S1 (wip ρ1 own) H1 S2 ρ2 H2 ∧ H2 A = some (.lst accV) ∧ S2 A = none ∧ ¬ Ow (L2.wipe σ own) ρ2 A ∧ Reps X.K G.fa S2 accV accD ∧
      ∃ rest, lcL g own (turnF G k elt tg c) (ds.drop i) ρ2 = .ok (rest, ρe) ∧ rs = accD ++ rest ∧ accD.length ≤ i, ⟨ds.length, by simp, Nat.zero_le _, S1, wip ρ1 own, [], [], ?_⟩, ?_⟩
  · have r0 := (g1.rl.wipe own)
    have nO : ¬ Ow (L2.wipe σ own) (wip ρ1 own) A := fun z => nO1 z.wipe
    exact ⟨(Gr.fresh g1.rl.sub nA).go r0, upd_same, nS1, nO, .nil, rs, e2, rfl, Nat.le_refl _⟩
  rintro i m H2 ⟨hm, hi, S2, ρ2, accD, accV, g2, hA, sA, oA, rA, rest, hl, hr, hlen⟩
  by_cases hlt : i < ds.length
  · right
    rw [List.drop_eq_getElem_cons hlt] at hl
    simp only [lcL] at hl
    split at hl
    · rename_i hg
      obtain ⟨⟨z, ρ3⟩, t1, hl⟩ := R.bind_ok hl
      obtain ⟨⟨ys, ρ4⟩, t2, hl⟩ := R.bind_ok hl
      cases hl
      have cg := cg_of g2.rl hg
      refine ⟨wk.go _ i S2 H2 hσw g2.sub g2.rl.sub cg hlt, fun H' => ∃ S5 ρ5 accD' accV', Go X.K G.fa (L2.wipe σ own) S1 (wip ρ1 own) H1 S5 ρ5 H' ∧ H' A = some (.lst accV') ∧ S5 A = none ∧ ¬ Ow (L2.wipe σ own) ρ5 A ∧ Reps X.K G.fa S5 accV' accD' ∧
          ∃ rest, lcL g own (turnF G k elt tg c) (ds.drop (i + 1)) ρ5 = .ok (rest, ρ4) ∧ rs = accD' ++ rest ∧ accD'.length ≤ i + 1, fun H' h => ⟨ds.length - (i + 1), by omega, rfl, hlt, h⟩, fun x H' y => ?_⟩
      obtain ⟨S3, gr, rx⟩ := wk.yld _ i S2 H2 x H' _ hσw g2.sub g2.rl.sub cg (List.getElem?_eq_getElem hlt) y
      unfold turnF at t1
      obtain ⟨ρt, t3, t1⟩ := opt_ok t1
      obtain ⟨⟨b, ρu⟩, t4, t1⟩ := R.bind_ok t1
      refine ⟨S3, ρ2, _, ρt, g2.rl.grow gr, rx, t3, fun σ2 r2 o2 k2 l2 => ⟨?_, ?_⟩⟩
      · refine (wipe_ext (by rw [l2, wipe_length]) fun j hj => ?_)
        rw [k2 j (fun z => hj (hsl j z)), wipe_out hj]
      · have hw : L2.wipe σ2 own = L2.wipe σ own := wipe_ext (by rw [l2, wipe_length]) fun j hj => by rw [k2 j (fun z => hj (hsl j z)), wipe_out hj]
        have gA : GoS X.K G.fa [] (L2.wipe σ own) S2 ρ2 H2 σ2 S3 ρt H' := (gr.go g2.rl).s.trans (GoS.tgt r2 o2)
        -- behind the test
        have fin : ∀ {H3 S4 : Hp}, Go X.K G.fa σ2 S3 ρt H' S4 ρu H3 → (if b = true then tV G k X.K elt σ2 H3 (fun y H4 => ∃ acc, H4 A = some (.lst acc) ∧ acc.length < sizeLine ∧ (∃ S5 ρ5 accD' accV', Go X.K G.fa (L2.wipe σ own) S1 (wip ρ1 own) H1 S5 ρ5 (upd H4 A (.lst (acc ++ [y]))) ∧ (upd H4 A (.lst (acc ++ [y]))) A = some (.lst accV') ∧ S5 A = none ∧ ¬ Ow (L2.wipe σ own) ρ5 A ∧ Reps X.K G.fa S5 accV' accD' ∧
          ∃ rest, lcL g own (turnF G k elt tg c) (ds.drop (i + 1)) ρ5 = .ok (rest, ρ4) ∧ rs = accD' ++ rest ∧ accD'.length ≤ i + 1)) else ∃ S5 ρ5 accD' accV', Go X.K G.fa (L2.wipe σ own) S1 (wip ρ1 own) H1 S5 ρ5 H3 ∧ H3 A = some (.lst accV') ∧ S5 A = none ∧ ¬ Ow (L2.wipe σ own) ρ5 A ∧ Reps X.K G.fa S5 accV' accD' ∧
          ∃ rest, lcL g own (turnF G k elt tg c) (ds.drop (i + 1)) ρ5 = .ok (rest, ρ4) ∧ rs = accD' ++ rest ∧ accD'.length ≤ i + 1) := fun {H3 S4} g4 => by
          have gB := gA.trans g4.s
          have wipes : ∀ {S6 : Hp} {ρ6 : En} {H6 : Hp}, Go X.K G.fa σ2 S3 ρt H' S6 ρ6 H6 → Go X.K G.fa (L2.wipe σ own) S1 (wip ρ1 own) H1 S6 (wip ρ6 own) H6 := fun {S6 ρ6 H6} g6 => by
            have r6 := g6.rl.wipe own
            rw [hw] at r6
            have g7 : GoS X.K G.fa [] σ2 S6 ρ6 H6 (L2.wipe σ own) S6 (wip ρ6 own) H6 := GoS.tgt r6 fun a z => by rw [← hw] at z; exact z.wipe
            refine (g2.s.trans ((gA.trans g6.s).trans g7)).go fun a z => ?_
            rw [← hw] at z
            exact g2.ow a (o2 a (g6.ow a z.wipe))
          cases b with
          | false =>
            simp only [Bool.false_eq_true, if_false] at t1 ⊢
            cases t1
            obtain ⟨k1, k2', k3⟩ := gB.keep hA sA oA
            refine ⟨S4, wip ρ3 own, accD, accV, wipes g4, k1, k2', fun z => k3 (by rw [← hw] at z; exact z.wipe), rA.mono gB.sub, ys, t2, hr, by omega⟩
          | true =>
            simp only [if_true] at t1 ⊢
            obtain ⟨⟨zd, zf, ρz⟩, t5, t1⟩ := R.bind_ok t1
            cases t1
            refine ⟨S4, ρu, zd, zf, ρz, g4.rl, t5, fun w H4 S5 g5 rw' => ?_⟩
            have gC := gB.trans g5.s
            obtain ⟨k1, k2', k3⟩ := gC.keep hA sA oA
            have k3' : ¬ Ow (L2.wipe σ own) (wip ρz own) A := fun z => k3 (by rw [← hw] at z; exact z.wipe)
            have hlen2 : accD.length < sizeLine := by
              have : sizeLine = line := rfl
              omega
            refine ⟨accV, k1, by rw [rA.length]; exact hlen2, S5, wip ρz own, accD ++ [zd], accV ++ [w], (wipes (g4.trans g5)).side nA k2' k3', upd_same, k2', k3', (rA.mono gC.sub).app (.cons rw' .nil), ys, t2, ?_, by simp; omega⟩
            simp only at hr
            rw [hr, List.append_assoc]
            rfl
        cases c with
        | none =>
          cases t4
          exact fin (.refl r2)
        | some c =>
          obtain ⟨⟨o, ρ5⟩, t6, t4⟩ := R.bind_ok t4
          obtain ⟨t, t7, t4⟩ := opt_ok t4
          cases t4
          exact ⟨S3, ρt, (o, ρ5), b, r2, t6, t7, fun H3 S4 g4 => fin g4⟩
    · cases hl
  · left
    have hi' : i = ds.length := by omega
    subst hi'
    rw [List.drop_length] at hl
    simp only [lcL] at hl
    split at hl
    · rename_i hg
      cases hl
      rw [List.append_nil] at hr
      subst hr
      refine ⟨wk.stop _ _ S2 H2 hσw g2.sub g2.rl.sub (cg_of g2.rl hg) (Nat.le_refl _), ?_⟩
      obtain ⟨rb, ob⟩ := g1.rl.back (fun i hi => hno i hi) g2.sub g2.rl
      have ob' : ∀ a, Ow σ (back ρ1 ρe own) a → Ow σ ρ1 a := fun a z => (g2.ow a (ob a z)).wipe
      have g3 : Go X.K G.fa σ S1 ρ1 H1 S2 (back ρ1 ρe own) H2 := ⟨rb, g2.sub, fun a o e n => g2.fr a o e fun z => n z.wipe, ob', fun a o e => (g2.nw a o e).imp id (Or.imp id fun z => z.wipe), g2.al⟩
      exact post _ H2 S2 (g1.trans g3) ⟨A, rfl, ⟨sA, accV, _, rfl, hA, rA⟩, g1.al A nA, fun z => g1.rl.not_ow nA (ob' A z)⟩
    · cases hl
end
end G

/-! statements -/
namespace G
open PySem PySem.Spec L2
def RVs (K : PySem.W.Frag) (fa : FA) (σ : L2.St) (ρ : En) (H : Hp) (σ' : L2.St) (ρ' : En) (S' H' : Hp) (v : V) (d : D) (fr : Bool) : Prop :=
  if fr then ∃ a, v = .ref a ∧ OwnC K fa S' H' a d ∧ ¬ Ow σ' ρ' a ∧ (H a = none ∨ Ow σ ρ a) else Rep K fa S' v d
/-- what is wanted behind a statement -/
def Po (K : PySem.W.Frag) (fa : FA) (L : List Nat) (D : Ends) (σ : L2.St) (S : Hp) (ρ : En) (H : Hp) (r : Fl × En) : Prop :=
  match r.1 with
  | .nx => ∀ σ' H' S', GoS K fa L σ S ρ H σ' S' r.2 H' → D.nx σ' H'
  | .rt d fr => ∀ v σ' H' S', GoS K fa L σ S ρ H σ' S' r.2 H' → RVs K fa σ ρ H σ' r.2 S' H' v d fr → D.rt v H'
section
variable {K : PySem.W.Frag} {fa : FA} {L : List Nat} {S S' S1 H H' H1 : Hp} {σ σ' σ1 : L2.St} {ρ ρ' ρ1 : En}
theorem RVs.ahead {v : V} {d : D} {fr : Bool} {S1 : Hp} (g : GoS K fa L σ S ρ H σ1 S1 ρ1 H1) (h : RVs K fa σ1 ρ1 H1 σ' ρ' S' H' v d fr) : RVs K fa σ ρ H σ' ρ' S' H' v d fr := by
  unfold RVs at h ⊢
  cases fr with
  | false => simpa using h
  | true =>
    simp only [if_true] at h ⊢
    obtain ⟨a, h1, h2, h3, h4⟩ := h
    refine ⟨a, h1, h2, h3, ?_⟩
    rcases h4 with h | h
    · exact .inl (g.al a h)
    · exact (g.ow a h).symm
theorem Po.ahead {D : Ends} {r : Fl × En} (g : GoS K fa L σ S ρ H σ1 S1 ρ1 H1) (h : Po K fa L D σ S ρ H r) : Po K fa L D σ1 S1 ρ1 H1 r := by
  unfold Po at h ⊢
  split
  · rename_i e
    rw [e] at h
    exact fun σ' H' S' g' => h σ' H' S' (g.trans g')
  · rename_i d fr e
    rw [e] at h
    exact fun v σ' H' S' g' rv => h v σ' H' S' (g.trans g') (rv.ahead g)
theorem RV.s {v : V} {d : D} {fr : Bool} (h : RV K fa σ ρ' H S' H' v d fr) : RVs K fa σ ρ H σ ρ' S' H' v d fr := by
  unfold RV at h
  unfold RVs
  cases fr with
  | false => simpa using h
  | true =>
    simp only [if_true] at h ⊢
    obtain ⟨a, h1, h2, h3, h4⟩ := h
    exact ⟨a, h1, h2, h4, .inl h3⟩
/-- a slot forgotten -/
theorem Rl.drop (r : Rl K fa S σ ρ H) (i : Nat) : Rl K fa S σ (ρ.set i none) H where
  sub := r.sub
  len := by simp [r.len]
  val := fun j d e => by
    by_cases z : i = j
    · subst z
      rw [List.getElem?_set] at e
      simp only [if_true] at e
      split at e <;> cases e
    · rw [List.getElem?_set_ne z] at e
      exact r.val j d e
  own := fun j d e => by
    by_cases z : i = j
    · subst z
      rw [List.getElem?_set] at e
      simp only [if_true] at e
      split at e <;> cases e
    · rw [List.getElem?_set_ne z] at e
      exact r.own j d e
  dis := fun j j' d d' a e1 e2 e3 e4 => by
    by_cases z : i = j
    · subst z
      rw [List.getElem?_set] at e1
      simp only [if_true] at e1
      split at e1 <;> cases e1
    · by_cases z' : i = j'
      · subst z'
        rw [List.getElem?_set] at e2
        simp only [if_true] at e2
        split at e2 <;> cases e2
      · rw [List.getElem?_set_ne z] at e1
        rw [List.getElem?_set_ne z'] at e2
        exact r.dis j j' d d' a e1 e2 e3 e4
theorem Ow.drop {i : Nat} {a : Addr} (h : Ow σ (ρ.set i none) a) : Ow σ ρ a ∧ ∀ d, ρ[i]? = some (some (.own d)) → Rl K fa S σ ρ H → σ[i]? ≠ some (some (.ref a)) := by
  obtain ⟨j, d, e1, e2⟩ := h
  by_cases z : i = j
  · subst z
    rw [List.getElem?_set] at e1
    simp only [if_true] at e1
    split at e1 <;> cases e1
  · rw [List.getElem?_set_ne z] at e1
    exact ⟨⟨j, d, e1, e2⟩, fun d' h r e => z (r.dis i j _ _ _ h e1 e e2)⟩
end
section
variable (G : Gs) (k : Nat) (L : List Nat) (K : PySem.W.Frag)
abbrev Gs.xs (s : Sm) (ρ : En) : R (Fl × En) := exS G.mf (G.cf k) G.W s ρ
abbrev Gs.xss (s : List Sm) (ρ : En) : R (Fl × En) := exSs G.mf (G.cf k) G.W s ρ
def tS (s : Sm) : TS := fun D σ H => ∃ S ρ r, Rl K G.fa S σ ρ H ∧ G.xs k s ρ = .ok r ∧ Po K G.fa L D σ S ρ H r
def tSs (s : List Sm) : TS := fun D σ H => ∃ S ρ r, Rl K G.fa S σ ρ H ∧ G.xss k s ρ = .ok r ∧ Po K G.fa L D σ S ρ H r
end
theorem _root_.L2.PS.weak {X : Cx} {e : Stmt} {t t' : TS} (h : PS X e t) (w : ∀ D σ H, t' D σ H → t D σ H) : PS X e t' := ⟨fun pins s σ H D I q => h.run pins s σ H D I (w D σ H q)⟩
theorem _root_.L2.PSs.weak {X : Cx} {e : List Stmt} {t t' : TS} (h : PSs X e t) (w : ∀ D σ H, t' D σ H → t D σ H) : PSs X e t' := ⟨fun pins s σ H D I q => h.run pins s σ H D I (w D σ H q)⟩
section
variable {G : Gs} {k : Nat} {L : List Nat} {X : Cx} {pos p : Pos} {e c it : Ex} {tg : Tg} {a b : List Sm} {s : Sm} {ss : List Sm} {x y xc : Expr} {z : Stmt} {zs za zb : List Stmt}
theorem pss_nilE : PSs X [] (tSs G k L X.K []) := pss_nil.weak fun D σ H ⟨S, ρ, r, rl, ev, post⟩ => by
  simp only [Gs.xss, exSs] at ev
  cases ev
  exact post σ H S (.refl rl)
theorem pss_consE (h : PS X z (tS G k L X.K s)) (hs : PSs X zs (tSs G k L X.K ss)) : PSs X (z :: zs) (tSs G k L X.K (s :: ss)) := (pss_cons h hs).weak fun D σ H ⟨S, ρ, r, rl, ev, post⟩ => by
  simp only [Gs.xss, exSs] at ev
  obtain ⟨⟨f, ρ1⟩, e1, ev⟩ := R.bind_ok ev
  refine ⟨S, ρ, (f, ρ1), rl, e1, ?_⟩
  cases f with
  | nx =>
    simp only at ev
    exact fun σ' H' S' g => ⟨S', ρ1, r, g.rl, ev, post.ahead g⟩
  | rt d fr =>
    simp only at ev
    cases ev
    exact post
theorem ps_exE (h : PE X x (tE G k X.K e)) (hs : swapsWith x none pos.line X.env = pure false) : PS X (.Expr x pos) (tS G k L X.K (.ex e)) := (ps_expr h hs).weak fun D σ H ⟨S, ρ, r, rl, ev, post⟩ => by
  simp only [Gs.xs, exS] at ev
  obtain ⟨⟨d, fr, ρ1⟩, e1, ev⟩ := R.bind_ok ev
  cases ev
  exact ⟨S, ρ, d, fr, ρ1, rl, e1, fun v H' S' g rv => post σ H' S' g.s⟩
theorem ps_pasE : PS X (.Pass pos) (tS G k L X.K .pas) := ps_pass.weak fun D σ H ⟨S, ρ, r, rl, ev, post⟩ => by
  simp only [Gs.xs, exS] at ev
  cases ev
  exact post σ H S (.refl rl)
theorem ps_badE : PS X z (tS G k L X.K .bad) := ps_never.weak fun D σ H ⟨S, ρ, r, rl, ev, post⟩ => by
  simp only [Gs.xs, exS] at ev
  cases ev
theorem ps_retE (h : PE X x (tE G k X.K e)) (ne : ∀ i, e ≠ .nm i) : PS X (.Return (some x) pos) (tS G k L X.K (.ret e)) := (ps_ret h).weak fun D σ H ⟨S, ρ, r, rl, ev, post⟩ => by
  have e0 : G.xs k (.ret e) ρ = (G.ev k e ρ).bind fun x => .ok (.rt x.1 x.2.1, x.2.2) := by
    cases e <;> first | rfl | exact absurd rfl (ne _)
  rw [e0] at ev
  obtain ⟨⟨d, fr, ρ1⟩, e1, ev⟩ := R.bind_ok ev
  cases ev
  exact ⟨S, ρ, d, fr, ρ1, rl, e1, fun v H' S' g rv => post v σ H' S' g.s rv.s⟩
theorem ps_retN {i : Nat} {n : Str} (hv : PE X (.Name n p) (tVar i)) : PS X (.Return (some (.Name n p)) pos) (tS G k L X.K (.ret (.nm i))) := (ps_ret hv).weak fun D σ H ⟨S, ρ, r, rl, ev, post⟩ => by
  simp only [Gs.xs, exS] at ev
  split at ev
  · rename_i d q
    cases ev
    obtain ⟨a, e1, o⟩ := rl.own i d q
    refine ⟨_, e1, post _ σ H S ⟨rl.drop i, .refl, fun _ _ e _ => e, fun a z => .inl (Ow.drop (K := X.K) (fa := G.fa) (S := S) (H := H) z).1, fun _ _ e => .inl e, fun _ h => h, fun _ _ => rfl⟩ ⟨a, rfl, o, fun z => ?_, .inr ⟨i, d, q, e1⟩⟩⟩
    exact (Ow.drop (K := X.K) (fa := G.fa) (S := S) (H := H) z).2 d q rl e1
  · rename_i d q
    cases ev
    obtain ⟨v, e1, e2⟩ := rl.val i d q
    exact ⟨v, e1, post v σ H S (.refl rl) e2⟩
  · cases ev
theorem ps_ifE (hc : PT X xc (tT G k X.K c)) (ha : PSs X za (tSs G k L X.K a)) (hb : PSs X zb (tSs G k L X.K b)) : PS X (.If xc za zb pos) (tS G k L X.K (.ife c a b)) := (ps_if hc ha hb).weak fun D σ H ⟨S, ρ, r, rl, ev, post⟩ => by
  simp only [Gs.xs, exS] at ev
  obtain ⟨w, e1, ev⟩ := R.bind_ok ev
  obtain ⟨t, e2, ev⟩ := opt_ok ev
  refine ⟨S, ρ, w, t, rl, e1, e2, fun H1 S1 g => ?_⟩
  cases t with
  | true =>
    simp only [if_true] at ev ⊢
    exact ⟨S1, w.2, r, g.rl, ev, post.ahead g.s⟩
  | false =>
    simp only [Bool.false_eq_true, if_false] at ev ⊢
    exact ⟨S1, w.2, r, g.rl, ev, post.ahead g.s⟩
/-- storing what an expression gave -/
theorem asg_mid {σ : L2.St} {S S1 H H1 : Hp} {ρ ρ1 ρ2 : En} {i : Nat} {v : V} {d : D} {fr ow : Bool} {E : Ends} (hL : i ∉ L) (g : Go X.K G.fa σ S ρ H S1 ρ1 H1) (rv : RV X.K G.fa σ ρ1 H S1 H1 v d fr) (ea : asgT (.nm i) (if (ow && fr) = true then .own d else .val d) ρ1 = some ρ2)
    (post : Po X.K G.fa L E σ S ρ H (.nx, ρ2)) : E.nx (σ.set i (some v)) H1 := by
  simp only [asgT] at ea
  split at ea
  · rename_i hi
    cases ea
    by_cases hc : (ow && fr) = true
    · simp only [hc, if_true] at post
      have hfr : fr = true := by cases fr <;> simp_all
      subst hfr
      unfold RV at rv
      simp only [if_true] at rv
      obtain ⟨a, rfl, o, hn, no⟩ := rv
      obtain ⟨h1, h2, h3⟩ := GoS.store (L := L) (H0 := H) g.rl hi (x := .own d) ⟨a, rfl, o, no⟩ hL (fun d' _ a' e => by cases e; exact hn)
      exact post _ H1 S1 ⟨h1, g.sub, g.fr, fun b z => (h2 b z).imp (g.ow b) id, g.nw, g.al, h3⟩
    · simp only [if_neg hc] at post
      obtain ⟨S2, g2, r2⟩ := rv.frz g
      obtain ⟨h1, h2, h3⟩ := GoS.store (L := L) (H0 := H) g2.rl hi (x := .val d) r2 hL (fun _ e => nomatch e)
      exact post _ H1 S2 ⟨h1, g2.sub, g2.fr, fun b z => (h2 b z).imp (g2.ow b) id, g2.nw, g2.al, h3⟩
  · cases ea
theorem ps_asgN {i : Nat} {ow : Bool} (h : PE X x (tE G k X.K e)) (hg : PG X y (gName i)) (hL : i ∉ L) (hs : swapsWithSole [y] x pos.line X.env = pure false) (hw : swappedStores [y] x X.env = pure none) (h1 : (assignEach [y] X.env).map (·.2) = [assign y X.env]) :
    PS X (.Assign [y] x pos) (tS G k L X.K (.asg (.nm i) ow e)) := (ps_asg h hg hs hw h1).weak fun D σ H ⟨S, ρ, r, rl, ev, post⟩ => by
  simp only [Gs.xs, exS] at ev
  obtain ⟨⟨d, fr, ρ1⟩, e1, ev⟩ := R.bind_ok ev
  obtain ⟨ρ2, e2, ev⟩ := opt_ok ev
  cases ev
  exact ⟨S, ρ, d, fr, ρ1, rl, e1, fun v H' S' g rv => asg_mid hL g rv e2 post⟩
theorem ps_asgT {ow : Bool} {ts : List Tg} {sl : List Nat} (h : PE X x (tE G k X.K e)) (hg : PG X y (tG X.K G.fa sl fun d ρ => asgT (.tup ts) (.val d) ρ)) (hL : ∀ i ∈ sl, i ∉ L) (hs : swapsWithSole [y] x pos.line X.env = pure false) (hw : swappedStores [y] x X.env = pure none) (h1 : (assignEach [y] X.env).map (·.2) = [assign y X.env]) :
    PS X (.Assign [y] x pos) (tS G k L X.K (.asg (.tup ts) ow e)) := (ps_asg (pe_v h) hg hs hw h1).weak fun D σ H ⟨S, ρ, r, rl, ev, post⟩ => by
  simp only [Gs.xs, exS] at ev
  obtain ⟨⟨d, fr, ρ1⟩, e1, ev⟩ := R.bind_ok ev
  obtain ⟨ρ2, e2, ev⟩ := opt_ok ev
  cases ev
  refine ⟨S, ρ, d, fr, ρ1, rl, e1, fun v H' S' g rv => ⟨S', ρ1, d, ρ2, g.rl, rv, ?_, fun σ' r' o' k' l' => post σ' H' S' (g.s.trans ⟨r', .refl, fun _ _ e _ => e, fun a h => .inl (o' a h), fun _ _ e => .inl e, fun _ h => h, fun i hi => k' i fun z => hL i z hi⟩)⟩⟩
  rw [← e2]
  by_cases hc : (ow && fr) = true
  · simp only [if_pos hc]
    cases d <;> rfl
  · simp only [if_neg hc]
/-- name = [..] on one line -/
theorem ps_asgLc {i : Nat} {ow : Bool} {own : List Nat} {elt : Ex} {cc : Option Ex} (h : PS X z (tAsg (tLc (tI G k X.K it) (tG X.K G.fa (tgSlots tg) fun d ρ => asgT tg (.val d) ρ) (tC? G k X.K cc) (tV G k X.K elt) own) (gName i))) (hsl : ∀ i ∈ tgSlots tg, i ∈ own) (hgs : ∀ i, it = .nm i → i ∉ own) (hL : i ∉ L) :
    PS X z (tS G k L X.K (.asg (.nm i) ow (.lc own elt tg it cc))) := h.weak fun D σ H ⟨S, ρ, r, rl, ev, post⟩ => by
  simp only [Gs.xs, exS] at ev
  obtain ⟨⟨d, fr, ρ1⟩, e1, ev⟩ := R.bind_ok ev
  obtain ⟨ρ2, e2, ev⟩ := opt_ok ev
  cases ev
  exact lc_mid hsl hgs ⟨S, ρ, d, fr, ρ1, rl, e1, fun v H' S' g rv => asg_mid hL g rv e2 post⟩
/-- a list's item is stored -/
theorem ps_setiE {i : Nat} {j : Ex} {n : Str} {pp : Pos} (h : PE X x (tE G k X.K e)) (hn : PE X (.Name n p) (tVar i)) (hj : PE X y (tO G k X.K j)) (hg : PG X (.Subscript (.Name n p) y pp) (gSub (tVar i) (tO G k X.K j) rSetL)) (hs : swapsWithSole [.Subscript (.Name n p) y pp] x pos.line X.env = pure false) (hw : swappedStores [.Subscript (.Name n p) y pp] x X.env = pure none)
    (h1 : (assignEach [.Subscript (.Name n p) y pp] X.env).map (·.2) = [assign (.Subscript (.Name n p) y pp) X.env]) :
    PS X (.Assign [.Subscript (.Name n p) y pp] x pos) (tS G k L X.K (.seti i j e)) := (ps_asg (pe_v h) hg hs hw h1).weak fun D σ H ⟨S, ρ, r, rl, ev, post⟩ => by
  simp only [Gs.xs, exS] at ev
  obtain ⟨⟨d, fr, ρ1⟩, e1, ev⟩ := R.bind_ok ev
  split at ev
  · rename_i hO
    obtain ⟨⟨o, ρ2⟩, e2, ev⟩ := R.bind_ok ev
    split at ev
    · rename_i xs kk q1 q2
      obtain ⟨m, e3, ev⟩ := opt_ok ev
      cases ev
      refine ⟨S, ρ, d, fr, ρ1, rl, e1, fun v H1 S1 g1 rv => ?_⟩
      have hv : ∃ v, σ[i]? = some (some v) := by
        simp only [isOwn] at hO
        split at hO
        · rename_i d' q
          obtain ⟨a, z, _⟩ := g1.rl.own i d' q
          exact ⟨_, z⟩
        · cases hO
      obtain ⟨w, hw'⟩ := hv
      refine ⟨w, hw', S1, ρ1, o, ρ2, g1.rl, e2, fun u H2 S2 g2 ov => ?_⟩
      obtain ⟨a, z1, z2, vs, ds, z3, z4, z5⟩ := g2.rl.own i _ q1
      cases z3
      rw [hw'] at z1
      cases z1
      refine ⟨a, vs, kk, m, rfl, (ov.get g2.rl q2).int, z4, by rw [ixn_eq, z5.length]; exact e3, ?_⟩
      exact post σ _ S2 ((g1.trans g2).s.trans (own_set g2.rl q1 hw' ((rv.mono g2.sub) |> fun r => Reps.set r m z5)).s)
    · cases ev
  · cases ev
theorem ps_whlE (hp : PassesOwn (model X.prog X.w) X.A X.env X.xe) (hc : PT X xc (tT G k X.K c)) (hb : PSs X zb (tSs G k L X.K b)) : PS X (.While xc zb [] pos) (tS G k L X.K (.whl c b)) := (ps_while hp hc hb).weak fun D σ H ⟨S, ρ, r, rl, ev, post⟩ => by
  simp only [Gs.xs, exS] at ev
  refine ⟨fun m σ1 H1 => ∃ S1 ρ1, GoS X.K G.fa L σ S ρ H σ1 S1 ρ1 H1 ∧ whileL (fun ρ => (od c ρ (evE G.mf (G.cf k) c ρ)).bind fun x => opt ((der x.2 x.1).bind truD) fun t => .ok (t, x.2)) (fun ρ => exSs G.mf (G.cf k) G.W b ρ) m ρ1 = .ok r, ⟨G.W, S, ρ, .refl rl, ev⟩, ?_⟩
  rintro m σ1 H1 ⟨S1, ρ1, g1, ew⟩
  cases m with
  | zero => simp only [whileL] at ew; cases ew
  | succ m =>
    simp only [whileL] at ew
    obtain ⟨⟨t, ρ2⟩, e1, ew⟩ := R.bind_ok ew
    obtain ⟨w, e2, e1⟩ := R.bind_ok e1
    obtain ⟨t', e3, e1⟩ := opt_ok e1
    cases e1
    refine ⟨S1, ρ1, w, t, g1.rl, e2, e3, fun H2 S2 g2 => ?_⟩
    cases t with
    | false =>
      simp only [Bool.false_eq_true, if_false] at ew ⊢
      cases ew
      exact post σ1 H2 S2 (g1.trans g2.s)
    | true =>
      simp only [if_true] at ew ⊢
      obtain ⟨⟨f, ρ3⟩, e4, ew⟩ := R.bind_ok ew
      refine ⟨fun σ' H' => ∃ S' ρ', GoS X.K G.fa L σ S ρ H σ' S' ρ' H' ∧ whileL (fun ρ => (od c ρ (evE G.mf (G.cf k) c ρ)).bind fun x => opt ((der x.2 x.1).bind truD) fun t => .ok (t, x.2)) (fun ρ => exSs G.mf (G.cf k) G.W b ρ) m ρ' = .ok r, fun σ' H' h => ⟨m, Nat.lt_succ_self m, h⟩, ?_⟩
      refine ⟨S2, w.2, (f, ρ3), g2.rl, e4, ?_⟩
      cases f with
      | nx =>
        simp only at ew
        exact fun σ' H' S' g3 => ⟨S', ρ3, (g1.trans g2.s).trans g3, ew⟩
      | rt d fr =>
        simp only at ew
        cases ew
        exact fun v σ' H' S' g3 rv => post v σ' H' S' ((g1.trans g2.s).trans g3) (rv.ahead (g1.trans g2.s))
theorem ps_forE (hp : PassesOwn (model X.prog X.w) X.A X.env X.xe) (hc : X.calm = true) (hi : PI X x y (tI G k X.K it)) (hg : PG X x (tG X.K G.fa (tgSlots tg) fun d ρ => asgT tg (.val d) ρ)) {Lb : List Nat} (hb : PSs X zb (tSs G k Lb X.K b)) (hLb : ∀ i ∈ L, i ∈ Lb) (hLi : ∀ i, it = .nm i → i ∈ Lb) (hLt : ∀ i ∈ tgSlots tg, i ∉ Lb)
    (hs : ∀ w, foldedSetIterable y X.env w = pure w) : PS X (.For x y zb [] pos) (tS G k L X.K (.for tg it b)) := (ps_for hp hc hi hg hb hs).weak fun D σ H ⟨S, ρ, r, rl, ev, post⟩ => by
  simp only [Gs.xs, exS] at ev
  obtain ⟨⟨ds, g, ρ1⟩, e1, ev⟩ := R.bind_ok ev
  have hgn : ∀ j, g.map (·.1) = some j → j ∈ Lb := fun j hj => by
    have : ∃ i ds', it = .nm i ∧ g = some (i, ds') := by
      cases it <;> first
        | (simp only [srcOf] at e1
           split at e1
           · cases e1; exact ⟨_, _, rfl, rfl⟩
           · obtain ⟨_, _, e1⟩ := opt_ok e1
             cases e1; cases hj
           · cases e1)
        | (simp only [srcOf] at e1
           obtain ⟨_, _, e1⟩ := R.bind_ok e1
           obtain ⟨_, _, e1⟩ := opt_ok e1
           cases e1; cases hj)
    obtain ⟨i, ds', h1, h2⟩ := this
    subst h2
    cases hj
    exact hLi _ h1
  refine ⟨S, ρ, ds, g, ρ1, rl, e1, fun J H1 S1 g1 wk => ?_⟩
  have toL : ∀ {σ1 σ2 : L2.St} {S2 S3 H2 H3 : Hp} {ρ2 ρ3 : En}, GoS X.K G.fa Lb σ1 S2 ρ2 H2 σ2 S3 ρ3 H3 → GoS X.K G.fa L σ1 S2 ρ2 H2 σ2 S3 ρ3 H3 := fun h => ⟨h.rl, h.sub, h.fr, h.ow, h.nw, h.al, fun i hi => h.kp i (hLb i hi)⟩
  refine ⟨fun i m σ2 H2 => m = ds.length - i ∧ i ≤ ds.length ∧ ∃ S2 ρ2, GoS X.K G.fa Lb σ S1 ρ1 H1 σ2 S2 ρ2 H2 ∧ forL g tg (fun ρ => exSs G.mf (G.cf k) G.W b ρ) (ds.drop i) ρ2 = .ok r, ⟨ds.length, by simp, Nat.zero_le _, S1, ρ1, .refl g1.rl, by rw [List.drop_zero]; exact ev⟩, ?_⟩
  rintro i m σ2 H2 ⟨hm, hi', S2, ρ2, g2, ef⟩
  have hσ : ∀ j, g.map (·.1) = some j → σ2[j]? = σ[j]? := fun j hj => g2.kp j (hgn j hj)
  by_cases hlt : i < ds.length
  · right
    rw [List.drop_eq_getElem_cons hlt] at ef
    simp only [forL] at ef
    split at ef
    · rename_i hg'
      obtain ⟨ρ3, e2, ef⟩ := opt_ok ef
      obtain ⟨⟨f, ρ4⟩, e3, ef⟩ := R.bind_ok ef
      have cg := cg_of g2.rl hg'
      refine ⟨wk.go _ i S2 H2 hσ g2.sub g2.rl.sub cg hlt, fun σ' H' => ∃ S' ρ', GoS X.K G.fa Lb σ S1 ρ1 H1 σ' S' ρ' H' ∧ forL g tg (fun ρ => exSs G.mf (G.cf k) G.W b ρ) (ds.drop (i + 1)) ρ' = .ok r, fun σ' H' h => ⟨ds.length - (i + 1), by omega, rfl, hlt, h⟩, fun w H' y => ?_⟩
      obtain ⟨S3, gr, rx⟩ := wk.yld _ i S2 H2 w H' _ hσ g2.sub g2.rl.sub cg (List.getElem?_eq_getElem hlt) y
      refine ⟨S3, ρ2, _, ρ3, g2.rl.grow gr, rx, e2, fun σ3 r3 o3 k3 l3 => ⟨S3, ρ3, (f, ρ4), r3, e3, ?_⟩⟩
      have g3 : GoS X.K G.fa Lb σ2 S2 ρ2 H2 σ3 S3 ρ3 H' := (gr.go g2.rl).s.trans ⟨r3, .refl, fun _ _ e _ => e, fun a h => .inl (o3 a h), fun _ _ e => .inl e, fun _ h => h, fun j hj => k3 j fun z => hLt j z hj⟩
      cases f with
      | nx =>
        simp only at ef
        exact fun σ' H4 S' g4 => ⟨S', ρ4, (g2.trans g3).trans g4, ef⟩
      | rt d fr =>
        simp only at ef
        cases ef
        have gg := g1.s.trans (toL (g2.trans g3))
        exact fun v σ' H4 S' g4 rv => post v σ' H4 S' (gg.trans (toL g4)) (rv.ahead gg)
    · cases ef
  · left
    have hi'' : i = ds.length := by omega
    subst hi''
    rw [List.drop_length] at ef
    simp only [forL] at ef
    split at ef
    · rename_i hg'
      cases ef
      exact ⟨wk.stop _ _ S2 H2 hσ g2.sub g2.rl.sub (cg_of g2.rl hg') (Nat.le_refl _), post σ2 H2 S2 (g1.s.trans (toL g2))⟩
    · cases ef
end
end G

/-! statements that may raise -/
namespace G
open PySem PySem.Spec L2
/-- what is wanted behind a statement that may raise -/
def PoR (G : Gs) (W : WX) (K : PySem.W.Frag) (L : List Nat) (D : Ends) (σ : L2.St) (S : Hp) (ρ : En) (H : Hp) (r : R (Fl × En)) : Prop :=
  match r with
  | .ok r => Po K G.fa L D σ S ρ H r
  | .exc c ρ' => ∃ a, G.ec c = some a ∧ ∀ σ' H' S', GoS K G.fa L σ S ρ H σ' S' ρ' H' → W (.ref a) none σ' H'
  | .bad => False
section
variable (G : Gs) (k : Nat) (W : WX) (L : List Nat) (K : PySem.W.Frag)
def tW (s : Sm) : TS := fun D σ H => ∃ S ρ, Rl K G.fa S σ ρ H ∧ PoR G W K L D σ S ρ H (G.xs k s ρ)
def tWs (s : List Sm) : TS := fun D σ H => ∃ S ρ, Rl K G.fa S σ ρ H ∧ PoR G W K L D σ S ρ H (G.xss k s ρ)
end
section
variable {G : Gs} {k : Nat} {W : WX} {L : List Nat} {X : Cx} {pos p : Pos} {e c it : Ex} {tg : Tg} {a b : List Sm} {s : Sm} {ss : List Sm} {x y xc : Expr} {z : Stmt} {zs za zb : List Stmt}
theorem PoR.ahead {K : PySem.W.Frag} {S S1 H H1 : Hp} {σ σ1 : L2.St} {ρ ρ1 : En} {D : Ends} {r : R (Fl × En)} (g : GoS K G.fa L σ S ρ H σ1 S1 ρ1 H1) (h : PoR G W K L D σ S ρ H r) : PoR G W K L D σ1 S1 ρ1 H1 r := by
  unfold PoR at h ⊢
  split
  · exact Po.ahead g h
  · obtain ⟨a, h1, h2⟩ := h
    exact ⟨a, h1, fun σ' H' S' g' => h2 σ' H' S' (g.trans g')⟩
  · exact h
/-- fewer slots are kept -/
theorem PoR.less {K : PySem.W.Frag} {Lb : List Nat} (hL : ∀ i ∈ L, i ∈ Lb) {S H : Hp} {σ : L2.St} {ρ : En} {D : Ends} {r : R (Fl × En)} (h : PoR G W K L D σ S ρ H r) : PoR G W K Lb D σ S ρ H r := by
  have toL : ∀ {σ' : L2.St} {S' H' : Hp} {ρ' : En}, GoS K G.fa Lb σ S ρ H σ' S' ρ' H' → GoS K G.fa L σ S ρ H σ' S' ρ' H' := fun h => ⟨h.rl, h.sub, h.fr, h.ow, h.nw, h.al, fun i hi => h.kp i (hL i hi)⟩
  unfold PoR at h ⊢
  split
  · rename_i r
    obtain ⟨f, ρ'⟩ := r
    cases f with
    | nx => exact fun σ' H' S' g => h σ' H' S' (toL g)
    | rt d fr => exact fun v σ' H' S' g rv => h v σ' H' S' (toL g) rv
  · obtain ⟨a, h1, h2⟩ := h
    exact ⟨a, h1, fun σ' H' S' g => h2 σ' H' S' (toL g)⟩
  · exact h
/-- a statement that raises nothing -/
theorem ps_leaf (h : PS X z (tS G k L X.K s)) (nx : ∀ ρ, (G.xs k s ρ).nx) : PS X z (tW G k W L X.K s) := h.weak fun D σ H ⟨S, ρ, rl, post⟩ => by
  cases e : G.xs k s ρ with
  | ok r => rw [e] at post; exact ⟨S, ρ, r, rl, e, post⟩
  | exc c ρ' => exact absurd e (nx ρ c ρ')
  | bad => rw [e] at post; exact post.elim
theorem pss_nilW : PSs X [] (tWs G k W L X.K []) := pss_nil.weak fun D σ H ⟨S, ρ, rl, post⟩ => by
  simp only [Gs.xss, exSs] at post
  exact post σ H S (.refl rl)
theorem pss_consW (h : PS X z (tW G k W L X.K s)) (hs : PSs X zs (tWs G k W L X.K ss)) : PSs X (z :: zs) (tWs G k W L X.K (s :: ss)) := (pss_cons h hs).weak fun D σ H ⟨S, ρ, rl, post⟩ => by
  simp only [Gs.xss, exSs] at post
  refine ⟨S, ρ, rl, ?_⟩
  cases e : G.xs k s ρ with
  | ok r =>
    obtain ⟨f, ρ1⟩ := r
    simp only [Gs.xs] at e
    rw [e] at post
    cases f with
    | nx => exact fun σ' H' S' g => ⟨S', ρ1, g.rl, PoR.ahead g post⟩
    | rt d fr => exact post
  | exc c ρ1 =>
    simp only [Gs.xs] at e
    rw [e] at post
    exact post
  | bad =>
    simp only [Gs.xs] at e
    rw [e] at post
    exact post
theorem ps_ifW (hn : noX c = true) (hc : PT X xc (tT G k X.K c)) (ha : PSs X za (tWs G k W L X.K a)) (hb : PSs X zb (tWs G k W L X.K b)) : PS X (.If xc za zb pos) (tW G k W L X.K (.ife c a b)) := (ps_if hc ha hb).weak fun D σ H ⟨S, ρ, rl, post⟩ => by
  simp only [Gs.xs, exS] at post
  have nx : (od c ρ (evE G.mf (G.cf k) c ρ)).nx := od_nx (evE_nx c hn ρ)
  cases e1 : od c ρ (evE G.mf (G.cf k) c ρ) with
  | exc x ρ1 => exact absurd e1 (nx x ρ1)
  | bad => rw [e1] at post; exact post.elim
  | ok w =>
    rw [e1] at post
    cases e2 : (der w.2 w.1).bind truD with
    | none => simp only [R.bind, e2] at post; exact post.elim
    | some t =>
      simp only [R.bind, e2] at post
      refine ⟨S, ρ, w, t, rl, e1, e2, fun H1 S1 g => ?_⟩
      cases t with
      | true => exact ⟨S1, w.2, g.rl, PoR.ahead g.s post⟩
      | false => exact ⟨S1, w.2, g.rl, PoR.ahead g.s post⟩
theorem ps_whlW (hn : noX c = true) (hp : PassesOwn (model X.prog X.w) X.A X.env X.xe) (hc : PT X xc (tT G k X.K c)) (hb : PSs X zb (tWs G k W L X.K b)) : PS X (.While xc zb [] pos) (tW G k W L X.K (.whl c b)) := (ps_while hp hc hb).weak fun D σ H ⟨S, ρ, rl, post⟩ => by
  simp only [Gs.xs, exS] at post
  refine ⟨fun m σ1 H1 => ∃ S1 ρ1, Rl X.K G.fa S1 σ1 ρ1 H1 ∧ PoR G W X.K L D σ1 S1 ρ1 H1 (whileL (fun ρ => (od c ρ (evE G.mf (G.cf k) c ρ)).bind fun x => opt ((der x.2 x.1).bind truD) fun t => .ok (t, x.2)) (fun ρ => exSs G.mf (G.cf k) G.W b ρ) m ρ1), ⟨G.W, S, ρ, rl, post⟩, ?_⟩
  rintro m σ1 H1 ⟨S1, ρ1, rl1, post⟩
  cases m with
  | zero => simp only [whileL] at post; exact post.elim
  | succ m =>
    simp only [whileL] at post
    have nx : (od c ρ1 (evE G.mf (G.cf k) c ρ1)).nx := od_nx (evE_nx c hn ρ1)
    cases e1 : od c ρ1 (evE G.mf (G.cf k) c ρ1) with
    | exc x ρ2 => exact absurd e1 (nx x ρ2)
    | bad => rw [e1] at post; exact post.elim
    | ok w =>
      rw [e1] at post
      cases e2 : (der w.2 w.1).bind truD with
      | none => simp only [R.bind, e2] at post; exact post.elim
      | some t =>
        simp only [R.bind, e2, opt] at post
        refine ⟨S1, ρ1, w, t, rl1, e1, e2, fun H2 S2 g2 => ?_⟩
        cases t with
        | false =>
          simp only [Bool.false_eq_true, if_false] at post ⊢
          exact post σ1 H2 S2 g2.s
        | true =>
          simp only [if_true] at post ⊢
          refine ⟨fun σ' H' => ∃ S' ρ', Rl X.K G.fa S' σ' ρ' H' ∧ PoR G W X.K L D σ' S' ρ' H' (whileL (fun ρ => (od c ρ (evE G.mf (G.cf k) c ρ)).bind fun x => opt ((der x.2 x.1).bind truD) fun t => .ok (t, x.2)) (fun ρ => exSs G.mf (G.cf k) G.W b ρ) m ρ'), fun σ' H' h => ⟨m, Nat.lt_succ_self m, h⟩, ?_⟩
          refine ⟨S2, w.2, g2.rl, ?_⟩
          cases e4 : exSs G.mf (G.cf k) G.W b w.2 with
          | ok r =>
            obtain ⟨f, ρ3⟩ := r
            rw [e4] at post
            show PoR G W X.K L _ σ1 S2 w.2 H2 (exSs G.mf (G.cf k) G.W b w.2)
            rw [e4]
            cases f with
            | nx => exact fun σ' H' S' g3 => ⟨S', ρ3, g3.rl, PoR.ahead (g2.s.trans g3) post⟩
            | rt d fr => exact fun v σ' H' S' g3 rv => post v σ' H' S' (g2.s.trans g3) (rv.ahead (L := L) g2.s)
          | exc x ρ3 =>
            rw [e4] at post
            show PoR G W X.K L _ σ1 S2 w.2 H2 (exSs G.mf (G.cf k) G.W b w.2)
            rw [e4]
            exact PoR.ahead (r := .exc x ρ3) (D := D) g2.s post
          | bad => rw [e4] at post; exact post.elim
theorem ps_forW (hn : noX it = true) (hp : PassesOwn (model X.prog X.w) X.A X.env X.xe) (hc : X.calm = true) (hi : PI X x y (tI G k X.K it)) (hg : PG X x (tG X.K G.fa (tgSlots tg) fun d ρ => asgT tg (.val d) ρ)) {Lb : List Nat} (hb : PSs X zb (tWs G k W Lb X.K b)) (hLb : ∀ i ∈ L, i ∈ Lb) (hLi : ∀ i, it = .nm i → i ∈ Lb) (hLt : ∀ i ∈ tgSlots tg, i ∉ Lb)
    (hs : ∀ w, foldedSetIterable y X.env w = pure w) : PS X (.For x y zb [] pos) (tW G k W L X.K (.for tg it b)) := (ps_for hp hc hi hg hb hs).weak fun D σ H ⟨S, ρ, rl, post⟩ => by
  simp only [Gs.xs, exS] at post
  have nx : (srcOf it ρ (evE G.mf (G.cf k) it ρ)).nx := src_nx (evE_nx it hn ρ)
  cases e1 : srcOf it ρ (evE G.mf (G.cf k) it ρ) with
  | exc z ρ1 => exact absurd e1 (nx z ρ1)
  | bad => rw [e1] at post; exact post.elim
  | ok s0 =>
    obtain ⟨ds, g, ρ1⟩ := s0
    rw [e1] at post
    simp only [R.bind] at post
    have hgn : ∀ j, g.map (·.1) = some j → j ∈ Lb := fun j hj => by
      have : ∃ i ds', it = .nm i ∧ g = some (i, ds') := by
        cases it <;> first
          | (simp only [srcOf] at e1
             split at e1
             · cases e1; exact ⟨_, _, rfl, rfl⟩
             · obtain ⟨_, _, e1⟩ := opt_ok e1
               cases e1; cases hj
             · cases e1)
          | (simp only [srcOf] at e1
             obtain ⟨_, _, e1⟩ := R.bind_ok e1
             obtain ⟨_, _, e1⟩ := opt_ok e1
             cases e1; cases hj)
      obtain ⟨i, ds', h1, h2⟩ := this
      subst h2
      cases hj
      exact hLi _ h1
    refine ⟨S, ρ, ds, g, ρ1, rl, e1, fun J H1 S1 g1 wk => ?_⟩
    refine ⟨fun i m σ2 H2 => m = ds.length - i ∧ i ≤ ds.length ∧ ∃ S2 ρ2, GoS X.K G.fa Lb σ S1 ρ1 H1 σ2 S2 ρ2 H2 ∧ PoR G W X.K Lb D σ2 S2 ρ2 H2 (forL g tg (fun ρ => exSs G.mf (G.cf k) G.W b ρ) (ds.drop i) ρ2), ⟨ds.length, by simp, Nat.zero_le _, S1, ρ1, .refl g1.rl, by rw [List.drop_zero]; exact PoR.less hLb (PoR.ahead g1.s post)⟩, ?_⟩
    rintro i m σ2 H2 ⟨hm, hi', S2, ρ2, g2, pf⟩
    have hσ : ∀ j, g.map (·.1) = some j → σ2[j]? = σ[j]? := fun j hj => g2.kp j (hgn j hj)
    by_cases hlt : i < ds.length
    · right
      rw [List.drop_eq_getElem_cons hlt] at pf
      simp only [forL] at pf
      split at pf
      · rename_i hg'
        cases e2 : asgT tg (.val ds[i]) ρ2 with
        | none => simp only [e2, opt] at pf; exact pf.elim
        | some ρ3 =>
          simp only [e2, opt] at pf
          have cg := cg_of g2.rl hg'
          refine ⟨wk.go _ i S2 H2 hσ g2.sub g2.rl.sub cg hlt, fun σ' H' => ∃ S' ρ', GoS X.K G.fa Lb σ S1 ρ1 H1 σ' S' ρ' H' ∧ PoR G W X.K Lb D σ' S' ρ' H' (forL g tg (fun ρ => exSs G.mf (G.cf k) G.W b ρ) (ds.drop (i + 1)) ρ'), fun σ' H' h => ⟨ds.length - (i + 1), by omega, rfl, hlt, h⟩, fun w H' y => ?_⟩
          obtain ⟨S3, gr, rx⟩ := wk.yld _ i S2 H2 w H' _ hσ g2.sub g2.rl.sub cg (List.getElem?_eq_getElem hlt) y
          refine ⟨S3, ρ2, _, ρ3, g2.rl.grow gr, rx, e2, fun σ3 r3 o3 k3 l3 => ⟨S3, ρ3, r3, ?_⟩⟩
          have g3 : GoS X.K G.fa Lb σ2 S2 ρ2 H2 σ3 S3 ρ3 H' := (gr.go g2.rl).s.trans ⟨r3, .refl, fun _ _ e _ => e, fun a h => .inl (o3 a h), fun _ _ e => .inl e, fun _ h => h, fun j hj => k3 j fun z => hLt j z hj⟩
          show PoR G W X.K Lb _ σ3 S3 ρ3 H' (exSs G.mf (G.cf k) G.W b ρ3)
          cases e3 : exSs G.mf (G.cf k) G.W b ρ3 with
          | ok r =>
            obtain ⟨f, ρ4⟩ := r
            rw [e3] at pf
            cases f with
            | nx => exact fun σ' H4 S' g4 => ⟨S', ρ4, (g2.trans g3).trans g4, PoR.ahead (g3.trans g4) pf⟩
            | rt d fr => exact fun v σ' H4 S' g4 rv => pf v σ' H4 S' (g3.trans g4) (rv.ahead g3)
          | exc z ρ4 =>
            rw [e3] at pf
            exact PoR.ahead (r := .exc z ρ4) (D := D) g3 pf
          | bad => rw [e3] at pf; exact pf.elim
      · exact pf.elim
    · left
      have hi'' : i = ds.length := by omega
      subst hi''
      rw [List.drop_length] at pf
      simp only [forL] at pf
      split at pf
      · rename_i hg'
        exact ⟨wk.stop _ _ S2 H2 hσ g2.sub g2.rl.sub (cg_of g2.rl hg') (Nat.le_refl _), pf σ2 H2 S2 (.refl g2.rl)⟩
      · exact pf.elim
/-! ### statements whose expression raises -/
theorem ps_exX (h : PE X x (tX G k W X.K e)) (hs : swapsWith x none pos.line X.env = pure false) : PS X (.Expr x pos) (tW G k W L X.K (.ex e)) := (ps_expr h hs).weak fun D σ H ⟨S, ρ, rl, post⟩ => by
  simp only [Gs.xs, exS] at post
  cases e1 : evE G.mf (G.cf k) e ρ with
  | ok r =>
    obtain ⟨d, fr, ρ1⟩ := r
    rw [e1] at post
    exact .inl ⟨S, ρ, d, fr, ρ1, rl, e1, fun v H' S' g rv => post σ H' S' g.s⟩
  | exc z ρ1 =>
    rw [e1] at post
    obtain ⟨a, h1, h2⟩ := post
    exact .inr ⟨S, ρ, z, ρ1, a, rl, e1, h1, fun H' S' g => h2 σ H' S' g.s⟩
  | bad => rw [e1] at post; exact post.elim
theorem ps_retX (h : PE X x (tX G k W X.K e)) (ne : ∀ i, e ≠ .nm i) : PS X (.Return (some x) pos) (tW G k W L X.K (.ret e)) := (ps_ret h).weak fun D σ H ⟨S, ρ, rl, post⟩ => by
  have e0 : G.xs k (.ret e) ρ = (G.ev k e ρ).bind fun x => .ok (.rt x.1 x.2.1, x.2.2) := by
    cases e <;> first | rfl | exact absurd rfl (ne _)
  rw [e0] at post
  cases e1 : G.ev k e ρ with
  | ok r =>
    obtain ⟨d, fr, ρ1⟩ := r
    rw [e1] at post
    exact .inl ⟨S, ρ, d, fr, ρ1, rl, e1, fun v H' S' g rv => post v σ H' S' g.s rv.s⟩
  | exc z ρ1 =>
    rw [e1] at post
    obtain ⟨a, h1, h2⟩ := post
    exact .inr ⟨S, ρ, z, ρ1, a, rl, e1, h1, fun H' S' g => h2 σ H' S' g.s⟩
  | bad => rw [e1] at post; exact post.elim
theorem ps_asgX {i : Nat} {ow : Bool} (h : PE X x (tX G k W X.K e)) (hg : PG X y (gName i)) (hL : i ∉ L) (hs : swapsWithSole [y] x pos.line X.env = pure false) (hw : swappedStores [y] x X.env = pure none) (h1 : (assignEach [y] X.env).map (·.2) = [assign y X.env]) :
    PS X (.Assign [y] x pos) (tW G k W L X.K (.asg (.nm i) ow e)) := (ps_asg h hg hs hw h1).weak fun D σ H ⟨S, ρ, rl, post⟩ => by
  simp only [Gs.xs, exS] at post
  cases e1 : evE G.mf (G.cf k) e ρ with
  | ok r =>
    obtain ⟨d, fr, ρ1⟩ := r
    rw [e1] at post
    simp only [R.bind] at post
    cases e2 : asgT (.nm i) (if (ow && fr) = true then .own d else .val d) ρ1 with
    | none => simp only [e2, opt] at post; exact post.elim
    | some ρ2 =>
      simp only [e2, opt] at post
      exact .inl ⟨S, ρ, d, fr, ρ1, rl, e1, fun v H' S' g rv => asg_mid hL g rv e2 post⟩
  | exc z ρ1 =>
    rw [e1] at post
    obtain ⟨a, h1, h2⟩ := post
    exact .inr ⟨S, ρ, z, ρ1, a, rl, e1, h1, fun H' S' g => h2 σ H' S' g.s⟩
  | bad => rw [e1] at post; exact post.elim
/-- raise C('..') -/
theorem ps_raiW {n m : Str} {cl j : Nat} {C : Addr} {p2 p3 : Pos} (hc : X.calm = true) (tk : Takes X W) (he : G.ec cl = some C) (q : PySem.W.excIn X.K C He.veBase "ValueError.__new__" = true) (gC : X.mg n = some (.ref C)) (kC : PySem.W.keepIn X.K (.ref C) = true) (h1 : PySem.W.subIn X.K (.ref C) (.type "BaseException") = some true) (h2 : PySem.W.typeIn X.K (.ref C) = some (.type "type")) (hg : Gl X n) (hd : (n == ("__debug__" : Str)) = false) :
    PS X (.Raise (some (.Call (.Name n p) [.Constant (.str m) j p2] [] p3)) none pos) (tW G k W L X.K (.rai cl)) := (ps_raise hc tk (pmk_own PySem.F.excBase_ValueError q gC kC (raises_own h1 h2) hg hd)).weak fun D σ H ⟨S, ρ, rl, post⟩ => by
  simp only [Gs.xs, exS] at post
  obtain ⟨a, z1, z2⟩ := post
  rw [he] at z1
  cases z1
  exact z2 σ H S (.refl rl)
/-- raise C(e) -/
theorem ps_raivW {n : Str} {cl : Nat} {C : Addr} {x : Expr} {p3 : Pos} (hx : PE X x (tE G k X.K e)) (hne : noX e = true) (sx : starEach [x] X.env = (false, eval x X.env) :: starEach [] X.env) (hc : X.calm = true) (tk : Takes X W) (he : G.ec cl = some C) (q : PySem.W.excIn X.K C He.veBase "ValueError.__new__" = true) (gC : X.mg n = some (.ref C)) (kC : PySem.W.keepIn X.K (.ref C) = true) (h1 : PySem.W.subIn X.K (.ref C) (.type "BaseException") = some true) (h2 : PySem.W.typeIn X.K (.ref C) = some (.type "type")) (hg : Gl X n) (hd : (n == ("__debug__" : Str)) = false) :
    PS X (.Raise (some (.Call (.Name n p) [x] [] p3)) none pos) (tW G k W L X.K (.raiv cl e)) := (ps_raise hc tk (SkE.pmk_own1 PySem.F.excBase_ValueError q gC kC (raises_own h1 h2) hg hx sx hd)).weak fun D σ H ⟨S, ρ, rl, post⟩ => by
  simp only [Gs.xs, exS] at post
  cases e1 : evE G.mf (G.cf k) e ρ with
  | ok r =>
    obtain ⟨d, fr, ρ1⟩ := r
    rw [e1] at post
    obtain ⟨a, z1, z2⟩ := post
    rw [he] at z1
    cases z1
    exact ⟨S, ρ, d, fr, ρ1, rl, e1, fun v H' S' g rv => z2 σ H' S' g.s⟩
  | exc z ρ1 => exact absurd e1 (evE_nx e hne ρ z ρ1)
  | bad => rw [e1] at post; exact post.elim
end
end G

/-! try; isinstance of the caught -/
namespace G
open PySem PySem.Spec L2
/-- isinstance asked for each of the classes -/
def isns (G : Gt) (j : Nat) : List Expr → Option (List Bool)
  | [] => some []
  | y :: ys => match y with
    | .Name c _ => (G.isn j c).bind fun b => (isns G j ys).map (b :: ·)
    | _ => none
/-! ### other tables of addresses -/
section
variable {K : PySem.W.Frag} {fa fa' : FA} {S H : Hp} {σ : L2.St} {ρ : En}
mutual
theorem Rep.more (h : ∀ n a, fa n = some a → fa' n = some a) : ∀ {d : D} {v : V}, Rep K fa S v d → Rep K fa' S v d
  | _, _, .non => .non
  | _, _, .bl b => .bl b
  | _, _, .int i => .int i
  | _, _, .str x o => .str x o
  | _, _, .tup t g r => .tup t g (Reps.more h r)
  | _, _, .lst t r => .lst t (Reps.more h r)
  | _, _, .fn f e => .fn f (h _ _ e)
  | _, _, .ins e => .ins (h _ _ e)
theorem Reps.more (h : ∀ n a, fa n = some a → fa' n = some a) : ∀ {ds : List D} {vs : List V}, Reps K fa S vs ds → Reps K fa' S vs ds
  | _, _, .nil => .nil
  | _, _, .cons r t => .cons (Rep.more h r) (Reps.more h t)
end
mutual
theorem Rep.less (h : ∀ n a, n < 1000000 → fa' n = some a → fa n = some a) : ∀ {d : D} {v : V}, noIns d = true → Rep K fa' S v d → Rep K fa S v d
  | _, _, _, .non => .non
  | _, _, _, .bl b => .bl b
  | _, _, _, .int i => .int i
  | _, _, _, .str x o => .str x o
  | _, _, n, .tup t g r => .tup t g (Reps.less h (by simpa [noIns] using n) r)
  | _, _, n, .lst t r => .lst t (Reps.less h (by simpa [noIns] using n) r)
  | _, _, _, .fn f e => .fn f (h _ _ f e)
  | _, _, n, .ins e => absurd n (by simp [noIns])
theorem Reps.less (h : ∀ n a, n < 1000000 → fa' n = some a → fa n = some a) : ∀ {ds : List D} {vs : List V}, noInsL ds = true → Reps K fa' S vs ds → Reps K fa S vs ds
  | _, _, _, .nil => .nil
  | _, _, n, .cons r t => by
    simp only [noInsL, Bool.and_eq_true] at n
    exact .cons (Rep.less h n.1 r) (Reps.less h n.2 t)
end
theorem OwnC.more (h : ∀ n a, fa n = some a → fa' n = some a) {a : Addr} {d : D} (o : OwnC K fa S H a d) : OwnC K fa' S H a d := by
  obtain ⟨h1, vs, ds, h2, h3, h4⟩ := o
  exact ⟨h1, vs, ds, h2, h3, h4.more h⟩
theorem OwnC.less (h : ∀ n a, n < 1000000 → fa' n = some a → fa n = some a) {a : Addr} {d : D} (n : noIns d = true) (o : OwnC K fa' S H a d) : OwnC K fa S H a d := by
  obtain ⟨h1, vs, ds, rfl, h3, h4⟩ := o
  exact ⟨h1, vs, ds, rfl, h3, h4.less h (by simpa [noIns] using n)⟩
theorem Rl.less (h : ∀ n a, n < 1000000 → fa' n = some a → fa n = some a) (n : ρ.all noInsV = true) (r : Rl K fa' S σ ρ H) : Rl K fa S σ ρ H where
  sub := r.sub
  len := r.len
  val := fun i d e => by
    obtain ⟨v, h1, h2⟩ := r.val i d e
    have := List.all_eq_true.mp n _ (List.mem_of_getElem? e)
    exact ⟨v, h1, h2.less h this⟩
  own := fun i d e => by
    obtain ⟨a, h1, h2⟩ := r.own i d e
    have := List.all_eq_true.mp n _ (List.mem_of_getElem? e)
    exact ⟨a, h1, h2.less h this⟩
  dis := r.dis
theorem at_set {α : Type} {l : List (Option α)} {i j : Nat} {x : Option α} {y : α} (h : (l.set i x)[j]? = some (some y)) : (j = i ∧ x = some y) ∨ (j ≠ i ∧ l[j]? = some (some y)) := by
  by_cases z : i = j
  · subst z
    rw [List.getElem?_set] at h
    simp only [if_true] at h
    split at h
    · cases h; exact .inl ⟨rfl, rfl⟩
    · cases h
  · rw [List.getElem?_set_ne z] at h
    exact .inr ⟨fun e => z e.symm, h⟩
theorem Ow.un {i : Nat} {v : Option V} {w : Option SV} {a : Addr} (hw : ∀ d, w ≠ some (.own d)) (h : Ow (σ.set i v) (ρ.set i w) a) : Ow σ ρ a := by
  obtain ⟨j, d, h1, h2⟩ := h
  rcases at_set h1 with ⟨_, z⟩ | ⟨ne, h1⟩
  · exact absurd z (hw d)
  · rw [List.getElem?_set_ne (Ne.symm ne)] at h2
    exact ⟨j, d, h1, h2⟩
/-- what is caught stored -/
theorem Rl.catch (h : ∀ n a, fa n = some a → fa' n = some a) {c i : Nat} {a : Addr} (hc : fa' (1000000 + c) = some a) (hi : i < ρ.length) (r : Rl K fa S σ ρ H) : Rl K fa' S (σ.set i (some (.ref a))) (ρ.set i (some (.val (.ins c [])))) H where
  sub := r.sub
  len := by simp [r.len]
  val := fun j d e => by
    rcases at_set e with ⟨rfl, z⟩ | ⟨ne, e⟩
    · cases z
      exact ⟨.ref a, List.getElem?_set_self (by rw [r.len]; exact hi), .ins hc⟩
    · obtain ⟨v, h1, h2⟩ := r.val j d e
      exact ⟨v, by rw [List.getElem?_set_ne (Ne.symm ne)]; exact h1, h2.more h⟩
  own := fun j d e => by
    rcases at_set e with ⟨rfl, z⟩ | ⟨ne, e⟩
    · cases z
    · obtain ⟨b, h1, h2⟩ := r.own j d e
      exact ⟨b, by rw [List.getElem?_set_ne (Ne.symm ne)]; exact h1, h2.more h⟩
  dis := fun j j' d d' b e1 e2 e3 e4 => by
    rcases at_set e1 with ⟨rfl, z⟩ | ⟨n1, e1⟩
    · cases z
    rcases at_set e2 with ⟨rfl, z⟩ | ⟨n2, e2⟩
    · cases z
    rw [List.getElem?_set_ne (Ne.symm n1)] at e3
    rw [List.getElem?_set_ne (Ne.symm n2)] at e4
    exact r.dis j j' d d' b e1 e2 e3 e4
/-- a slot forgotten on both sides -/
theorem Rl.drop2 (r : Rl K fa S σ ρ H) (i : Nat) : Rl K fa S (σ.set i none) (ρ.set i none) H where
  sub := r.sub
  len := by simp [r.len]
  val := fun j d e => by
    rcases at_set e with ⟨rfl, z⟩ | ⟨ne, e⟩
    · cases z
    · obtain ⟨v, h1, h2⟩ := r.val j d e
      exact ⟨v, by rw [List.getElem?_set_ne (Ne.symm ne)]; exact h1, h2⟩
  own := fun j d e => by
    rcases at_set e with ⟨rfl, z⟩ | ⟨ne, e⟩
    · cases z
    · obtain ⟨b, h1, h2⟩ := r.own j d e
      exact ⟨b, by rw [List.getElem?_set_ne (Ne.symm ne)]; exact h1, h2⟩
  dis := fun j j' d d' b e1 e2 e3 e4 => by
    rcases at_set e1 with ⟨rfl, z⟩ | ⟨n1, e1⟩
    · cases z
    rcases at_set e2 with ⟨rfl, z⟩ | ⟨n2, e2⟩
    · cases z
    rw [List.getElem?_set_ne (Ne.symm n1)] at e3
    rw [List.getElem?_set_ne (Ne.symm n2)] at e4
    exact r.dis j j' d d' b e1 e2 e3 e4
variable {σ2 : L2.St} {S2 H2 : Hp} {ρ2 : En} {L : List Nat}
/-- behind a suite, seen from ahead of it -/
theorem GoS.unsuite (h : ∀ n a, n < 1000000 → fa' n = some a → fa n = some a) {c i : Nat} {a : Addr} (hL : i ∉ L) (n : (ρ2.set i none).all noInsV = true) (g : GoS K fa' L (σ.set i (some (.ref a))) S (ρ.set i (some (.val (.ins c [])))) H σ2 S2 ρ2 H2) :
    GoS K fa L σ S ρ H (σ2.set i none) S2 (ρ2.set i none) H2 where
  rl := (g.rl.drop2 i).less h n
  sub := g.sub
  fr := fun b o e no => g.fr b o e fun z => no (z.un (fun _ y => by cases y))
  ow := fun b z => (g.ow b (z.un (fun _ y => by cases y))).imp (fun y => y.un (fun _ y => by cases y)) id
  nw := fun b o e => (g.nw b o e).imp id (Or.imp id fun y => y.un (fun _ y => by cases y))
  al := g.al
  kp := fun j hj => by
    have ne : i ≠ j := fun e => hL (e ▸ hj)
    rw [List.getElem?_set_ne ne, g.kp j hj, List.getElem?_set_ne ne]
theorem RVs.unsuite (h : ∀ n a, n < 1000000 → fa' n = some a → fa n = some a) {c i : Nat} {a : Addr} {v : V} {d : D} {fr : Bool} (n : noIns d = true) (r : RVs K fa' (σ.set i (some (.ref a))) (ρ.set i (some (.val (.ins c [])))) H σ2 ρ2 S2 H2 v d fr) :
    RVs K fa σ ρ H (σ2.set i none) (ρ2.set i none) S2 H2 v d fr := by
  unfold RVs at r ⊢
  cases fr with
  | false => simpa using (show Rep K fa' S2 v d by simpa using r).less h n
  | true =>
    simp only [if_true] at r ⊢
    obtain ⟨b, h1, h2, h3, h4⟩ := r
    exact ⟨b, h1, h2.less h n, fun z => h3 (z.un (fun _ y => by cases y)), h4.imp id fun z => z.un (fun _ y => by cases y)⟩
end
/-! ### try -/
abbrev WF : WX := fun _ _ _ _ => False
theorem takes_F {X : Cx} : Takes X WF := fun u s' ⟨_, _, _, _, _, _, _, _, _, _, _, _, _, _, _, _, z⟩ => z.elim
section
variable {G : Gs} {k : Nat} {W : WX} {L : List Nat} {X : Cx} {b u : List Sm} {hs : List Nat} {i : Nat} {x n : Str} {body suite : List Stmt} {b₀ : Stmt} {np pos pos2 : Pos} {cv : Value}
theorem withX_more (hf : ∀ c, G.fa (1000000 + c) = none) (c : Nat) (a : Addr) : ∀ n b, G.fa n = some b → (G.withX c a).fa n = some b := fun n b e => by
  show (if n = 1000000 + c then some a else G.fa n) = _
  rw [if_neg]
  · exact e
  · rintro rfl
    rw [hf] at e; cases e
theorem withX_less (c : Nat) (a : Addr) : ∀ n b, n < 1000000 → (G.withX c a).fa n = some b → G.fa n = some b := fun n b l e => by
  have e : (if n = 1000000 + c then some a else G.fa n) = some b := e
  rw [if_neg (by omega)] at e
  exact e
theorem withX_at (c : Nat) (a : Addr) : (G.withX c a).fa (1000000 + c) = some a := by
  show (if 1000000 + c = 1000000 + c then some a else _) = _
  rw [if_pos rfl]
theorem ps_triW (hfa : ∀ c, G.fa (1000000 + c) = none) (hst : X.stack = X.env :: X.outer) (hf : X.env.frame = some X.env.locals) (hN : X.N.Nodup) (hi : X.N[i]? = some n) (hln : X.env.kindOf n = some .local) (hc : Names X x cv) (hL : i ∉ L) (tk : Takes X W)
    (hec : ∀ c C, G.ec c = some C → PySem.W.exmOne X.K (.ref C) cv = some (hs.contains c)) (hhs : ∀ c, hs.contains c = true → ∃ C, G.ec c = some C)
    (hb : ∀ (W' : WX) (pn : List (Addr × Obj)) (xe : Value → Shared → Prop), Takes (X.tr pn xe) W' → PassesOwn (model X.prog X.w) X.A X.env xe → PSs (X.tr pn xe) body (tWs G k W' L X.K b))
    (hsu : ∀ (c : Nat) (C a : Addr) (oe : Obj) (pn : List (Addr × Obj)), G.ec c = some C → Caught C oe → PSs (X.suite a ((a, oe) :: pn)) (b₀ :: suite) (tWs (G.withX c a) k WF L X.K u)) :
    PS X (.Try body [.ExceptHandler (some (.Name x np)) (some n) (b₀ :: suite) pos2] [] [] pos) (tW G k W L X.K (.tri b i hs u)) := by
  refine (ps_try_as (tb := fun W' => tWs G k W' L X.K b) (ts := fun a cls d D σ H => ∃ c C, cls = .ref C ∧ d = none ∧ G.ec c = some C ∧ tWs (G.withX c a) k WF L X.K u D σ H) (Wout := W) hst hf hN hi hln hc tk hb (fun a oe cls d pn hz hv => ?_)).weak fun D σ H h => ?_
  · refine ⟨fun pins s σ H D I ⟨c, C, e1, e2, e3, h⟩ => ?_⟩
    subst e1 e2
    exact (hsu c C a oe pn e3 ⟨hz, hv⟩).run pins s σ H D I h
  · obtain ⟨S, ρ, rl, post⟩ := h
    refine ⟨S, ρ, rl, ?_⟩
    simp only [Gs.xs, exS] at post
    show PoR G _ X.K L D σ S ρ H (exSs G.mf (G.cf k) G.W b ρ)
    cases e : exSs G.mf (G.cf k) G.W b ρ with
    | ok r => rw [e] at post; exact post
    | bad => rw [e] at post; exact post.elim
    | exc c ρ1 =>
      rw [e] at post
      simp only at post
      by_cases hc1 : hs.contains c = true
      · rw [if_pos hc1] at post
        obtain ⟨C, hC⟩ := hhs c hc1
        split at post
        · rename_i hq
          simp only [Bool.and_eq_true, decide_eq_true_eq] at hq
          refine ⟨C, hC, fun σ' H' S' g => ⟨true, by rw [hec c C hC, hc1], fun _ a na => ⟨c, C, rfl, rfl, hC, S', _, g.rl.catch (withX_more hfa c a) (withX_at c a) hq.1, ?_⟩, fun z => absurd z (by decide)⟩⟩
          show PoR (G.withX c a) WF X.K L _ _ S' _ H' (exSs G.mf (G.cf k) G.W u (ρ1.set i (some (.val (.ins c [])))))
          cases eu : exSs G.mf (G.cf k) G.W u (ρ1.set i (some (.val (.ins c [])))) with
          | ok r =>
            obtain ⟨f, ρ2⟩ := r
            rw [eu] at post
            simp only at post
            split at post
            · rename_i hn
              simp only [Bool.and_eq_true] at hn
              cases f with
              | nx => exact fun σ2 H2 S2 g2 => post _ H2 S2 (g.trans (g2.unsuite (withX_less c a) hL hn.1))
              | rt d fr => exact fun v σ2 H2 S2 g2 rv => post v _ H2 S2 (g.trans (g2.unsuite (withX_less c a) hL hn.1)) ((rv.unsuite (withX_less c a) hn.2).ahead g)
            · exact post.elim
          | exc c' ρ2 => rw [eu] at post; exact post.elim
          | bad => rw [eu] at post; exact post.elim
        · exact post.elim
      · rw [if_neg hc1] at post
        obtain ⟨C, hC, post⟩ := post
        have hc2 : hs.contains c = false := by simpa using hc1
        exact ⟨C, hC, fun σ' H' S' g => ⟨false, by rw [hec c C hC, hc2], fun z => absurd z (by decide), fun _ => post σ' H' S' g⟩⟩
end
/-! ### isinstance -/
section
variable {G : Gs} {k : Nat} {X : Cx} {c0 : Nat} {C : Addr} {p : Addr × Obj} {i : Nat} {m : Str} {yes : List Nat} {pos p1 p2 p3 : Pos}
theorem XHot.held (h : XHot G k X c0 C p) (e : ExcC X.K C) : Held X C p.1 := ⟨⟨p.2, h.pin, h.ok.1, h.ok.2⟩, e⟩
/-- a class's name in a suite -/
structure NamC (G : Gs) (X : Cx) (c0 : Nat) (C : Addr) (y : Str) (b : Bool) (v : V) (u : Value) : Prop where
  rv : RelV v u
  cv : ClsV v u
  pe : ∀ q, PE X (.Name y q) (tC v)
  kit : PySem.W.kitOne X.K (.ref C) u = some b
theorem namC (h : XHot G k X c0 C p) (gl : GlobOk G X.K X.mg) {y : Str} {b : Bool} (hy : G.t.isn c0 y = some b) (hg : Gl X y) (hd : (y == ("__debug__" : Str)) = false) : ExcC X.K C ∧ ∃ v u, NamC G X c0 C y b v u := by
  obtain ⟨C', v, u, e1, e2, e3, e4, e5, e6⟩ := gl.isn c0 y b hy
  rw [h.ec] at e1
  cases e1
  refine ⟨e2, v, u, e3, e4, fun q => ?_, e6⟩
  rcases e5 with e5 | ⟨e5, e7, e8⟩
  · exact pe_glob hg e5 e3 hd
  · exact pe_bltn hg e5 e7 e3 e8 hd
theorem held_at {S H : Hp} {σ : L2.St} {ρ ρ' : En} {d : D} {fr : Bool} (h : XHot G k X c0 C p) (rl : Rl X.K G.fa S σ ρ H) (ev : G.ev k (.isx i yes) ρ = .ok (d, fr, ρ')) : d = .bl (yes.contains c0) ∧ fr = false ∧ ρ' = ρ ∧ σ[i]? = some (some (.ref p.1)) := by
  simp only [Gs.ev, evE] at ev
  split at ev
  · rename_i c q
    cases ev
    obtain ⟨v, e1, e2⟩ := rl.val i _ q
    cases e2 with
    | ins e =>
      obtain ⟨rfl, rfl⟩ := h.fai _ _ e
      exact ⟨rfl, rfl, rfl, e1⟩
  · cases ev
theorem pe_isxN (h : XHot G k X c0 C p) (gl : GlobOk G X.K X.mg) {y : Str} (hy : G.t.isn c0 y = some (yes.contains c0)) (hg : Gl X y) (hd : (y == ("__debug__" : Str)) = false) (hgi : Gl X "isinstance") (hmi : X.mg "isinstance" = none) (hv : PE X (.Name m p2) (tVar i)) :
    PE X (.Call (.Name "isinstance" p1) [.Name m p2, .Name y p3] [] pos) (tE G k X.K (.isx i yes)) := by
  obtain ⟨ec, v, u, nc⟩ := namC h gl hy hg hd
  refine (pe_callB (call_isH (h.held ec)) hgi hmi (by decide +kernel) (pa_cons hv (pa_cons (nc.pe p3) pa_nil))).weak fun σ H Q ⟨S, ρ, d, fr, ρ', rl, ev, post⟩ => ?_
  obtain ⟨rfl, rfl, rfl, e⟩ := held_at h rl ev
  exact ⟨_, e, v, u, _, rfl, nc.cv, nc.kit, post (.bl _) H S (.refl rl) (.bl _)⟩
theorem namCs (h : XHot G k X c0 C p) (gl : GlobOk G X.K X.mg) : ∀ {ys : List Expr} {bs : List Bool}, isns G.t c0 ys = some bs → (∀ y ∈ ys, ∃ n q, y = .Name n q ∧ Gl X n ∧ (n == ("__debug__" : Str)) = false) → ∃ vs us, PA X ys (fun _ H Q => Q vs H) ∧ Paired ClsV vs us ∧ Paired (fun c b => PySem.W.kitOne X.K (.ref C) c = some b) us bs ∧ vs.length = ys.length ∧ (ys ≠ [] → ExcC X.K C)
  | [], bs, e, _ => by
    simp only [isns] at e
    cases e
    exact ⟨[], [], pa_nil.weak fun _ _ _ h => h, .nil, .nil, rfl, fun z => absurd rfl z⟩
  | y :: ys, bs, e, hn => by
    obtain ⟨n, q, rfl, hg, hd⟩ := hn y List.mem_cons_self
    simp only [isns] at e
    obtain ⟨b, e1, e⟩ := Option.bind_eq_some_iff.mp e
    obtain ⟨bs', e2, rfl⟩ := Option.map_eq_some_iff.mp e
    obtain ⟨ec, v, u, nc⟩ := namC h gl e1 hg hd
    obtain ⟨vs, us, q1, q2, q3, q4, _⟩ := namCs h gl e2 fun y hy => hn y (List.mem_cons_of_mem _ hy)
    exact ⟨v :: vs, u :: us, (pa_cons (nc.pe q) q1).weak fun _ _ _ h => h, .cons nc.cv q2, .cons nc.kit q3, by simp [q4], fun _ => ec⟩
theorem pe_isxT (h : XHot G k X c0 C p) (gl : GlobOk G X.K X.mg) {ys : List Expr} {bs : List Bool} {nn : Nat} {p4 : Pos} (hy : isns G.t c0 ys = some bs) (hb : bs.any id = yes.contains c0) (hn : ∀ y ∈ ys, ∃ n q, y = .Name n q ∧ Gl X n ∧ (n == ("__debug__" : Str)) = false) (h0 : ys ≠ []) (hl : ys.length ≤ 1000) (hgi : Gl X "isinstance") (hmi : X.mg "isinstance" = none) (hv : PE X (.Name m p2) (tVar i)) :
    PE X (.Call (.Name "isinstance" p1) [.Name m p2, .Tuple ys nn p4] [] pos) (tE G k X.K (.isx i yes)) := by
  obtain ⟨vs, us, q1, q2, q3, q4, ec⟩ := namCs h gl hy hn
  refine (pe_callB (call_isTH (h.held (ec h0))) hgi hmi (by decide +kernel) (pa_cons hv (pa_cons (pe_tupF q1) pa_nil))).weak fun σ H Q ⟨S, ρ, d, fr, ρ', rl, ev, post⟩ => ?_
  obtain ⟨rfl, rfl, rfl, e⟩ := held_at h rl ev
  refine ⟨_, e, le_line (by rw [q4]; exact hl), fun a o na hd => ⟨a, o, vs, us, _, rfl, upd_same, q2, kit_all q3, ?_⟩⟩
  rw [hb]
  exact post (.bl _) _ S ((Gr.fresh rl.sub na).go rl) (.bl _)
end
end G

/-! a def keeps its promise -/
namespace G
open PySem PySem.Spec L2
def lentL : Nat → List Bool → List Nat
  | _, [] => []
  | i, m :: ms => if m then i :: lentL (i + 1) ms else lentL (i + 1) ms
section
variable {K : PySem.W.Frag} {fa : FA} {S S' H H' : Hp} {σ σ' : L2.St} {ρ ρ' : En}
theorem pad_at {α : Type} {l : List (Option α)} {n i : Nat} {x : α} : (l ++ List.replicate n none)[i]? = some (some x) ↔ l[i]? = some (some x) := by
  rcases Nat.lt_or_ge i l.length with h | h
  · rw [List.getElem?_append_left h]
  · rw [List.getElem?_append_right h, List.getElem?_replicate, List.getElem?_eq_none h]
    split <;> simp
theorem Rl.pad (r : Rl K fa S σ ρ H) (n m : Nat) (h : n = m) : Rl K fa S (σ ++ List.replicate n none) (ρ ++ List.replicate m none) H where
  sub := r.sub
  len := by simp [r.len, h]
  val := fun i d e => by
    obtain ⟨v, h1, h2⟩ := r.val i d (pad_at.mp e)
    exact ⟨v, pad_at.mpr h1, h2⟩
  own := fun i d e => by
    obtain ⟨a, h1, h2⟩ := r.own i d (pad_at.mp e)
    exact ⟨a, pad_at.mpr h1, h2⟩
  dis := fun i j d d' a e1 e2 e3 e4 => r.dis i j d d' a (pad_at.mp e1) (pad_at.mp e2) (pad_at.mp e3) (pad_at.mp e4)
theorem Ow.pad {n m : Nat} {a : Addr} : Ow (σ ++ List.replicate n none) (ρ ++ List.replicate m none) a ↔ Ow σ ρ a :=
  ⟨fun ⟨i, d, h1, h2⟩ => ⟨i, d, pad_at.mp h1, pad_at.mp h2⟩, fun ⟨i, d, h1, h2⟩ => ⟨i, d, pad_at.mpr h1, pad_at.mpr h2⟩⟩
theorem outs_own : ∀ {args : List SV} {ms : List Bool} {i : Nat} {o : List D}, matchA args ms = true → outs ρ i ms = some o → ∀ (j : Nat) (x : D), (reA args o)[j]? = some (.own x) → ρ[i + j]? = some (some (.own x)) ∧ i + j ∈ lentL i ms ∧ ∃ y, args[j]? = some (.own y)
  | [], [], _, _, _, e, j, x, h => by cases e; simp [reA] at h
  | [], _ :: _, _, _, h, _, _, _, _ => by simp [matchA] at h
  | .own d :: as, [], _, _, h, _, _, _, _ => by simp [matchA] at h
  | .val d :: as, [], _, _, h, _, _, _, _ => by simp [matchA] at h
  | .own d :: as, false :: ms, _, _, h, _, _, _, _ => by simp [matchA] at h
  | .val d :: as, true :: ms, _, _, h, _, _, _, _ => by simp [matchA] at h
  | .own d :: as, true :: ms, i, o, h, e, j, x, h' => by
    simp only [matchA] at h
    simp only [outs, if_true] at e
    split at e
    · rename_i d' q
      obtain ⟨o', e1, rfl⟩ := Option.map_eq_some_iff.mp e
      cases j with
      | zero =>
        simp [reA] at h'
        subst h'
        exact ⟨q, by simp [lentL], d, rfl⟩
      | succ j =>
        have := outs_own h e1 j x (by simpa [reA] using h')
        rw [show i + (j + 1) = i + 1 + j by omega]
        exact ⟨this.1, by simp [lentL, this.2.1], by simpa using this.2.2⟩
    · cases e
  | .val d :: as, false :: ms, i, o, h, e, j, x, h' => by
    simp only [matchA] at h
    simp only [outs, Bool.false_eq_true, if_false] at e
    cases j with
    | zero => simp [reA] at h'
    | succ j =>
      have := outs_own h e j x (by simpa [reA] using h')
      rw [show i + (j + 1) = i + 1 + j by omega]
      exact ⟨this.1, by simp [lentL, this.2.1], by simpa using this.2.2⟩
theorem outs_val : ∀ {args : List SV} {o : List D} (j : Nat) (x : D), (reA args o)[j]? = some (.val x) → args[j]? = some (.val x)
  | [], _, j, x, h => by simp [reA] at h
  | .own d :: as, [], j, x, h => by
    cases j with
    | zero => simp [reA] at h
    | succ j => simpa using outs_val (args := as) (o := []) j x (by simpa [reA] using h)
  | .own d :: as, y :: o, j, x, h => by
    cases j with
    | zero => simp [reA] at h
    | succ j => simpa using outs_val (args := as) (o := o) j x (by simpa [reA] using h)
  | .val d :: as, o, j, x, h => by
    cases j with
    | zero => simpa [reA] using h
    | succ j => simpa using outs_val (args := as) (o := o) j x (by simpa [reA] using h)
theorem match_own : ∀ {args : List SV} {ms : List Bool} {i : Nat} {o : List D}, matchA args ms = true → outs ρ i ms = some o → ∀ (j : Nat) (y : D), args[j]? = some (.own y) → ∃ x, (reA args o)[j]? = some (.own x)
  | [], [], _, _, _, e, j, x, h => by simp at h
  | [], _ :: _, _, _, h, _, _, _, _ => by simp [matchA] at h
  | .own d :: as, [], _, _, h, _, _, _, _ => by simp [matchA] at h
  | .val d :: as, [], _, _, h, _, _, _, _ => by simp [matchA] at h
  | .own d :: as, false :: ms, _, _, h, _, _, _, _ => by simp [matchA] at h
  | .val d :: as, true :: ms, _, _, h, _, _, _, _ => by simp [matchA] at h
  | .own d :: as, true :: ms, i, o, h, e, j, y, h' => by
    simp only [matchA] at h
    simp only [outs, if_true] at e
    split at e
    · rename_i d' q
      obtain ⟨o', e1, rfl⟩ := Option.map_eq_some_iff.mp e
      cases j with
      | zero => exact ⟨d', by simp [reA]⟩
      | succ j =>
        obtain ⟨x, hx⟩ := match_own h e1 j y (by simpa using h')
        exact ⟨x, by simpa [reA] using hx⟩
    · cases e
  | .val d :: as, false :: ms, i, o, h, e, j, y, h' => by
    simp only [matchA] at h
    simp only [outs, Bool.false_eq_true, if_false] at e
    cases j with
    | zero => simp at h'
    | succ j =>
      obtain ⟨x, hx⟩ := match_own h e j y (by simpa using h')
      exact ⟨x, by simpa [reA] using hx⟩
/-- a body's end as the call's end -/
theorem fin_go {vs : List V} {args : List SV} {ms : List Bool} {o : List D} {n m : Nat} {L : List Nat} (r0 : Rl K fa S (vs.map some) (args.map some) H) (hm : matchA args ms = true) (g : GoS K fa (lentL 0 ms) (vs.map some ++ List.replicate n none) S (args.map some ++ List.replicate m none) H σ' S' ρ' H')
    (ho : outs ρ' 0 ms = some o) : Go K fa (vs.map some) S (args.map some) H S' ((reA args o).map some) H' ∧ ∀ v d fr, RVs K fa (vs.map some ++ List.replicate n none) (args.map some ++ List.replicate m none) H σ' ρ' S' H' v d fr → RV K fa (vs.map some) ((reA args o).map some) H S' H' v d fr := by
  have own : ∀ (j : Nat) (x : D), (reA args o)[j]? = some (.own x) → ρ'[j]? = some (some (.own x)) ∧ σ'[j]? = (vs.map some ++ List.replicate n none)[j]? ∧ ∃ y, args[j]? = some (.own y) := fun j x h => by
    obtain ⟨h1, h2, h3⟩ := outs_own hm ho j x h
    rw [Nat.zero_add] at h1 h2
    exact ⟨h1, g.kp j h2, h3⟩
  have ow : ∀ a, Ow (vs.map some) ((reA args o).map some) a → Ow (vs.map some) (args.map some) a := fun a ⟨j, x, h1, h2⟩ => by
    obtain ⟨_, _, y, h3⟩ := own j x (map_some_at.mp h1)
    exact ⟨j, y, map_some_at.mpr h3, h2⟩
  have go : Go K fa (vs.map some) S (args.map some) H S' ((reA args o).map some) H' := by
    refine ⟨⟨g.rl.sub, by rw [List.length_map, List.length_map, reA_len]; simpa using r0.len, fun j x e => ?_, fun j x e => ?_, fun j j' x x' a e1 e2 e3 e4 => ?_⟩, g.sub, fun a u e no => g.fr a u e fun z => no (Ow.pad.mp z), ow, fun a u e => (g.nw a u e).imp id (Or.imp id Ow.pad.mp), g.al⟩
    · obtain ⟨v, q1, q2⟩ := r0.val j x (map_some_at.mpr (outs_val j x (map_some_at.mp e)))
      exact ⟨v, q1, q2.mono g.sub⟩
    · obtain ⟨h1, h2, y, h3⟩ := own j x (map_some_at.mp e)
      obtain ⟨a, q1, q2⟩ := g.rl.own j x h1
      rw [h2] at q1
      exact ⟨a, pad_at.mp q1, q2⟩
    · obtain ⟨_, _, y, h3⟩ := own j x (map_some_at.mp e1)
      obtain ⟨_, _, y', h3'⟩ := own j' x' (map_some_at.mp e2)
      exact r0.dis j j' _ _ _ (map_some_at.mpr h3) (map_some_at.mpr h3') e3 e4
  refine ⟨go, fun v d fr h => ?_⟩
  unfold RVs at h
  unfold RV
  cases fr with
  | false => simpa using h
  | true =>
    simp only [if_true] at h ⊢
    obtain ⟨a, h1, h2, h3, h4⟩ := h
    have hn : H a = none := by
      rcases h4 with h | h
      · exact h
      · exfalso
        obtain ⟨j, y, q1, q2⟩ := Ow.pad.mp h
        obtain ⟨x, hx⟩ := match_own hm ho j y (map_some_at.mp q1)
        obtain ⟨z1, z2, _⟩ := own j x hx
        exact h3 ⟨j, x, z1, by rw [z2]; exact pad_at.mpr q2⟩
    exact ⟨a, h1, h2, hn, fun z => r0.not_ow hn (ow a z)⟩
end
/-- what a def's body may lean on beside -/
structure BodyX (hot : Bool) (X : Cx) (W : WX) : Prop where
  tk : Takes X W
  ps : hot = false → PassesOwn (model X.prog X.w) X.A X.env X.xe
  hs : hot = false → X.stack = X.env :: X.outer
  hf : hot = false → X.env.frame = some X.env.locals
theorem fn_ok {G : Gs} {P : Program} {w : World} {K : PySem.W.Frag} {mg : Str → Option Value} {base : Heap} {k f : Nat} {x qual : Str} {st : Stmt} {a : Addr} {fdat : FuncData} {N ps : List Str} {fd : Fd} (F : Fun K x qual st a fdat) (Sc : FnScope N ps (defScope st)) (hT : G.T f = some fd) (hps : ps.length = fd.ps) (hN : N.length = fd.ns)
    (hf : FnsOk G P w K mg base k) (hh : FnsHot G P w K mg base k) (hfa : ∀ c, G.fa (1000000 + c) = none) (hg : GlobOk G K mg) (cs : List Str) (se : SEok ⟨N, defScope st, cs, false⟩) (body : ∀ (X : Cx) (W : WX), XOk G k ⟨N, defScope st, cs, false⟩ X → BodyX false X W → PSs X (defBody st) (tWs G k W (lentL 0 fd.mu) X.K fd.body)) : FnOk P w K mg base (L2.CX P w) (k + 1) a fdat ps (spF G K (k + 1) f) := by
  obtain ⟨oc, od', kV, doc, pm, an, cdv, ct, osl, rfl, lk, hcd⟩ := F.ex
  refine fn_of lk hcd Sc (fun vs H Q E h => ?_) (fun A outer s H vs Q E hr h => ?_)
  · rcases h with ⟨S, args, d, fr, outs, rl, ec, ⟨fd', h1, h2⟩, post⟩ | ⟨S, args, c, b, rl, ec, hec, ⟨fd', h1, h2⟩, post⟩
    · rw [hT] at h1
      cases h1
      rw [h2, hps]
    · rw [hT] at h1
      cases h1
      rw [h2, hps]
  · refine ⟨_, body _ _ ⟨fun _ => ⟨hf, hh, hr, rfl, hfa⟩, fun z => Bool.noConfusion z, hg, rfl, se, rfl, (by have := hr.un; show A.units + 3 + 200 < _; have : A.units + 3 + 16 * k + 200 < cLine := this; omega), fun _ _ => rfl⟩ ⟨takes_of rfl rfl rfl rfl, fun _ => passes_of rfl, fun _ => rfl, fun _ => rfl⟩, ?_⟩
    rcases h with ⟨S, args, d, fr, o, rl, ec, ⟨fd', h1, h2⟩, post⟩ | ⟨S, args, c, b, rl, ec, hec, ⟨fd', h1, h2⟩, post⟩
    · rw [hT] at h1
      cases h1
      have hl : vs.length = args.length := by simpa using rl.len
      unfold Gs.cf callF at ec
      rw [hT] at ec
      simp only at ec
      split at ec
      · rename_i hq
        obtain ⟨hq1, hq2⟩ := hq
        have hst : start N vs = vs.map some ++ List.replicate (N.length - vs.length) none := rfl
        rw [hst]
        have r1 := rl.pad (N.length - vs.length) (fd.ns - fd.ps) (by rw [hN, h2])
        refine ⟨S, _, r1, ?_⟩
        show PoR G _ K _ _ _ S _ H (exSs (fun g => (G.T g).map Fd.mu) (callF G.T G.W k) G.W fd.body (args.map some ++ List.replicate (fd.ns - fd.ps) none))
        cases er : exSs (fun g => (G.T g).map Fd.mu) (callF G.T G.W k) G.W fd.body (args.map some ++ List.replicate (fd.ns - fd.ps) none) with
        | ok r =>
          obtain ⟨f, ρ'⟩ := r
          rw [er] at ec
          cases f with
          | nx =>
            simp only [fin] at ec
            split at ec
            · rename_i o' ho
              cases ec
              refine fun σ' H' S' g => ?_
              obtain ⟨g1, g2⟩ := fin_go (L := []) rl hq2 g ho
              exact post .non H' S' g1 (g2 _ _ _ .non)
            · cases ec
          | rt d' fr' =>
            simp only [fin] at ec
            split at ec
            · rename_i o' ho
              cases ec
              refine fun v σ' H' S' g rv => ?_
              obtain ⟨g1, g2⟩ := fin_go (L := []) rl hq2 g ho
              exact post v H' S' g1 (g2 _ _ _ rv)
            · cases ec
        | exc c ρ' =>
          rw [er] at ec
          simp only [fin] at ec
          split at ec <;> cases ec
        | bad =>
          rw [er] at ec
          cases ec
      · cases ec
    · rw [hT] at h1
      cases h1
      have hl : vs.length = args.length := by simpa using rl.len
      unfold Gs.cf callF at ec
      rw [hT] at ec
      simp only at ec
      split at ec
      · rename_i hq
        obtain ⟨hq1, hq2⟩ := hq
        have hst : start N vs = vs.map some ++ List.replicate (N.length - vs.length) none := rfl
        rw [hst]
        have r1 := rl.pad (N.length - vs.length) (fd.ns - fd.ps) (by rw [hN, h2])
        refine ⟨S, _, r1, ?_⟩
        show PoR G _ K _ _ _ S _ H (exSs (fun g => (G.T g).map Fd.mu) (callF G.T G.W k) G.W fd.body (args.map some ++ List.replicate (fd.ns - fd.ps) none))
        cases er : exSs (fun g => (G.T g).map Fd.mu) (callF G.T G.W k) G.W fd.body (args.map some ++ List.replicate (fd.ns - fd.ps) none) with
        | ok r =>
          obtain ⟨f, ρ'⟩ := r
          rw [er] at ec
          cases f <;> (simp only [fin] at ec; split at ec <;> cases ec)
        | exc c' ρ' =>
          rw [er] at ec
          simp only [fin] at ec
          split at ec
          · rename_i o' ho
            cases ec
            refine ⟨b, hec, fun σ' H' S' g => ?_⟩
            obtain ⟨g1, _⟩ := fin_go (L := []) rl hq2 g ho
            rw [reA_nil] at g1
            exact post H' S' g1
          · cases ec
        | bad =>
          rw [er] at ec
          cases ec
      · cases ec
/-- the same where it is called in an except suite -/
theorem fn_okK {G : Gs} {P : Program} {w : World} {K : PySem.W.Frag} {mg : Str → Option Value} {base : Heap} {k f : Nat} {x qual : Str} {st : Stmt} {a : Addr} {fdat : FuncData} {N ps : List Str} {fd : Fd} (F : Fun K x qual st a fdat) (Sc : FnScope N ps (defScope st)) (hT : G.T f = some fd) (hps : ps.length = fd.ps) (hN : N.length = fd.ns)
    {c : Nat} {C : Addr} {p : Addr × Obj} (hec : G.ec c = some C) (hca : Caught C p.2) (hfai : ∀ n b, G.fa (1000000 + n) = some b → n = c ∧ b = p.1)
    (hfn : ∀ f fd, G.T f = some fd → G.t.hot f = true → ∃ a fdat ps, G.fa f = some a ∧ PySem.W.keepIn K (.ref a) = true ∧ Binds K fdat ps [] ∧ ps.length = fd.ps ∧ FnK P w K mg base (L2.CX P w) k a fdat ps p (spO G K k f))
    (hg : GlobOk G K mg) (cs : List Str) (se : SEok ⟨N, defScope st, cs, true⟩) (body : ∀ (X : Cx), XOk G k ⟨N, defScope st, cs, true⟩ X → PSs X (defBody st) (tWs G k WF (lentL 0 fd.mu) X.K fd.body)) : FnK P w K mg base (L2.CX P w) (k + 1) a fdat ps p (spO G K (k + 1) f) := by
  obtain ⟨oc, od', kV, doc, pm, an, cdv, ct, osl, rfl, lk, hcd⟩ := F.ex
  refine fn_ofK lk hcd Sc (fun vs H Q E h => ?_) (fun A outer s H vs Q E hr h => ?_)
  · obtain ⟨S, args, d, fr, outs, rl, ec, ⟨fd', h1, h2⟩, post⟩ := h
    rw [hT] at h1
    cases h1
    rw [h2, hps]
  · refine ⟨_, body _ ⟨fun z => Bool.noConfusion z, fun _ => ⟨c, C, p, ⟨hec, hca, List.mem_singleton.mpr rfl, hfai, hr, hfn⟩⟩, hg, rfl, se, rfl, (by have := hr.un; show A.units + 3 + 200 < _; have : A.units + 3 + 16 * k + 200 < cLine := this; omega), fun _ _ => rfl⟩, ?_⟩
    obtain ⟨S, args, d, fr, o, rl, ec, ⟨fd', h1, h2⟩, post⟩ := h
    rw [hT] at h1
    cases h1
    have hl : vs.length = args.length := by simpa using rl.len
    unfold Gs.cf callF at ec
    rw [hT] at ec
    simp only at ec
    split at ec
    · rename_i hq
      obtain ⟨hq1, hq2⟩ := hq
      have hst : start N vs = vs.map some ++ List.replicate (N.length - vs.length) none := rfl
      rw [hst]
      have r1 := rl.pad (N.length - vs.length) (fd.ns - fd.ps) (by rw [hN, h2])
      refine ⟨S, _, r1, ?_⟩
      show PoR G _ K _ _ _ S _ H (exSs (fun g => (G.T g).map Fd.mu) (callF G.T G.W k) G.W fd.body (args.map some ++ List.replicate (fd.ns - fd.ps) none))
      cases er : exSs (fun g => (G.T g).map Fd.mu) (callF G.T G.W k) G.W fd.body (args.map some ++ List.replicate (fd.ns - fd.ps) none) with
      | ok r =>
        obtain ⟨f, ρ'⟩ := r
        rw [er] at ec
        cases f with
        | nx =>
          simp only [fin] at ec
          split at ec
          · rename_i o' ho
            cases ec
            refine fun σ' H' S' g => ?_
            obtain ⟨g1, g2⟩ := fin_go (L := []) rl hq2 g ho
            exact post .non H' S' g1 (g2 _ _ _ .non)
          · cases ec
        | rt d' fr' =>
          simp only [fin] at ec
          split at ec
          · rename_i o' ho
            cases ec
            refine fun v σ' H' S' g rv => ?_
            obtain ⟨g1, g2⟩ := fin_go (L := []) rl hq2 g ho
            exact post v H' S' g1 (g2 _ _ _ rv)
          · cases ec
      | exc c ρ' =>
        rw [er] at ec
        simp only [fin] at ec
        split at ec <;> cases ec
      | bad =>
        rw [er] at ec
        cases ec
    · cases ec
end G

/-! the checker: the small syntax against the written one; expressions -/
namespace G
open PySem PySem.Spec L2
/-! ### small facts -/
def nStar : Expr → Bool
  | .Starred .. => false
  | _ => true
theorem nStar_ok {x : Expr} {xs : List Expr} {env : Env} (h : nStar x = true) : starEach (x :: xs) env = (false, eval x env) :: starEach xs env := by
  cases x <;> first | rfl | cases h
theorem nStar_asg {x : Expr} {xs : List Expr} {env : Env} (h : nStar x = true) : assignEach (x :: xs) env = (false, assign x env) :: assignEach xs env := by
  cases x <;> first | rfl | cases h
def plainX : Expr → Bool
  | .Slice .. => false
  | _ => true
def notCall : Expr → Bool
  | .Call .. => false
  | _ => true
theorem notCall_ok {x : Expr} {n : Str} {env : Env} (h : notCall x = true) : attributeBase x n env (eval x env) = eval x env := by
  cases x <;> first | rfl | cases h
def plainTest : Expr → Bool
  | .UnaryOp .Not _ _ => false
  | .BoolOp .. => false
  | .IfExp .. => false
  | .Compare .. => false
  | _ => true
theorem plainTest_ok {x : Expr} {env : Env} (h : plainTest x = true) (whole : Sem Value) : isTrue x env whole = (do let v ← whole; standAt x.pos; holding [v] (truthy v)) := by
  cases x <;> first | rfl | (cases h) | skip
  rename_i op a p
  cases op <;> first | rfl | cases h
def notComp : Expr → Bool
  | .ListComp .. => false
  | .SetComp .. => false
  | .DictComp .. => false
  | _ => true
def notSet : Expr → Bool
  | .Set .. => false
  | _ => true
theorem notSet_ok {x : Expr} {env : Env} (h : notSet x = true) (w : Value) : foldedSetIterable x env w = pure w := by
  cases x <;> first | rfl | cases h
theorem plainX_ok {x : Expr} (h : plainX x = true) : PlainIx x := by
  cases x <;> first | (intro o i; rfl) | cases h
/-! ### names -/
def vis (S : SE) (i : Nat) (n : Str) : Bool := decide (S.N[i]? = some n) && (match S.sc.names.lookup n with
  | some .local => true
  | some .cell => true
  | some .free => true
  | _ => false)
def asn (S : SE) (i : Nat) (n : Str) : Bool := decide (S.N[i]? = some n) && (match S.sc.names.lookup n with
  | some .local => true
  | some .cell => decide (n ∈ S.cs)
  | _ => false)
def glb (S : SE) (n : Str) : Bool := decide (S.sc.names.lookup n = some .globalImplicit)
def noDbg (n : Str) : Bool := !(n == ("__debug__" : Str))
section
variable {G : Gs} {k : Nat} {S : SE} {X : Cx}
theorem var_ok {i : Nat} {n : Str} {pos : Pos} (hX : XOk G k S X) (h : vis S i n = true) : PE X (.Name n pos) (tVar i) := by
  unfold vis at h
  simp only [Bool.and_eq_true, decide_eq_true_eq] at h
  obtain ⟨h1, h2⟩ := h
  have hm := hX.se.dbg n (List.mem_of_getElem? h1)
  refine pe_var (by rw [hX.hN]; exact h1) ?_ hm.1 hm.2
  rw [hX.hsc]
  unfold Vis
  split at h2
  · rename_i q; exact .inl q
  · rename_i q; exact .inr (.inl q)
  · rename_i q; exact .inr (.inr q)
  · cases h2
theorem asn_loc {i : Nat} {n : Str} (hX : XOk G k S X) (h : asn S i n = true) : X.N[i]? = some n ∧ L2.Loc X.env.scope n ∧ (X.fn n = true ∨ X.env.scope.names.lookup n = some .local) := by
  unfold asn at h
  simp only [Bool.and_eq_true, decide_eq_true_eq] at h
  obtain ⟨h1, h2⟩ := h
  rw [hX.hN, hX.hsc]
  refine ⟨h1, ?_⟩
  unfold L2.Loc
  split at h2
  · rename_i q; exact ⟨.inl q, .inr q⟩
  · rename_i q; exact ⟨.inr q, .inl (hX.fn n (by simpa using h2))⟩
  · cases h2
theorem asn_ok {i : Nat} {n : Str} {pos : Pos} (hX : XOk G k S X) (h : asn S i n = true) : PG X (.Name n pos) (gName i) := by
  obtain ⟨h1, h2, h3⟩ := asn_loc hX h
  exact pg_name (by rw [hX.hN]; exact hX.se.nd) h1 h2 h3
theorem glb_ok {n : Str} (hX : XOk G k S X) (h : glb S n = true) : Gl X n := by
  unfold glb at h
  rw [decide_eq_true_eq] at h
  show X.env.scope.names.lookup n = _
  rw [hX.hsc]
  exact h
theorem noDbg_ok {n : Str} (h : noDbg n = true) : (n == ("__debug__" : Str)) = false := by simpa [noDbg] using h
end
/-! ### the check -/
def konst : D → Const → Bool
  | .non, .none => true
  | .bl b, .bool c => b == c
  | .int i, .int j => decide (i = j)
  | .str x, .str y => decide (y = ss x) && (x.all fun c => decide (c < 0x110000)) && decide (x.length ≤ sizeLine)
  | _, _ => false
def biN : Bi → Option Str
  | .len => some "len"
  | .tuple => some "tuple"
  | .list => some "list"
  | .sorted => some "sorted"
  | .all => some "all"
  | .any => some "any"
  | .sum => some "sum"
  | .max => some "max"
  | .min => some "min"
  | .int => some "int"
  | .str => some "str"
  | .abs => some "abs"
  | _ => none
def bsN : Bi → Option Str
  | .sorset => some "sorted"
  | .lenset => some "len"
  | _ => none
def tyNm : Nat → Option Str
  | 0 => some "int"
  | 1 => some "bool"
  | 2 => some "str"
  | 3 => some "tuple"
  | 4 => some "list"
  | _ => none
def mtN : Nat → Option Str
  | 0 => some "join"
  | 1 => some "split"
  | 3 => some "index"
  | _ => none
def muN : Nat → Option Str
  | 0 => some "append"
  | 1 => some "extend"
  | 2 => some "remove"
  | 4 => some "pop"
  | _ => none
def isTupX : Expr → Bool
  | .Tuple .. => true
  | _ => false
def sameLine (a b : Pos) : Bool := a.endLine == b.line
/-- a block's own slots with their names -/
def ownP (S : SE) : List Nat → Option (List (Str × Nat))
  | [] => some []
  | i :: r => (S.N[i]?).bind fun n => (ownP S r).map ((n, i) :: ·)
theorem ownP_ok {S : SE} : ∀ {own : List Nat} {p : List (Str × Nat)}, ownP S own = some p → p.map (·.2) = own
  | [], p, h => by cases h; rfl
  | i :: r, p, h => by
    unfold ownP at h
    obtain ⟨n, h1, h⟩ := Option.bind_eq_some_iff.mp h
    obtain ⟨q, h2, rfl⟩ := Option.map_eq_some_iff.mp h
    simp [ownP_ok h2]
def cellsOfS (sc : Scope) : List Str := (sc.names.filter fun p => sc.names.lookup p.1 == some .cell).map (·.1)
def SE.in (S : SE) (scope : Scope) : SE := ⟨S.N, relS scope S.sc, cellsOfS scope, S.hot⟩
section
variable (G : Gt)
mutual
def chTg (S : SE) : Tg → Expr → Bool
  | .nm i, x => match x with
    | .Name n _ => asn S i n
    | _ => false
  | .tup ts, x => match x with
    | .Tuple xs _ _ => !S.hot && chTgs S ts xs
    | _ => false
def chTgs (S : SE) : List Tg → List Expr → Bool
  | [], xs => match xs with
    | [] => true
    | _ => false
  | t :: ts, xs => match xs with
    | x :: xs => nStar x && chTg S t x && chTgs S ts xs
    | _ => false
end
mutual
def chE (S : SE) (t : Bool) : Ex → Expr → Bool
  | .nm i, x => match x with
    | .Name n _ => vis S i n
    | _ => false
  | .k d, x => match x with
    | .Constant c _ _ => konst d c
    | _ => false
  | .gc xs d, x => match x with
    | .Name n _ => (match xs with
      | [i] => decide (G.gc i = some (n, d)) && glb S n && noDbg n
      | _ => false)
    | _ => false
  | .tup es, x => match x with
    | .Tuple xs _ _ => decide (es.length ≤ 1000) && chL S false es xs
    | _ => false
  | .lst es, x => match x with
    | .List xs _ => decide (es.length ≤ 1000) && chL S false es xs
    | _ => false
  | .bin op a b, x => match x with
    | .BinOp xa op' xb _ => decide (op = op') && okBin op && chE S false a xa && chE S false b xb
    | _ => false
  | .neg a, x => match x with
    | .UnaryOp .USub xa _ => chE S false a xa
    | _ => false
  | .cmp op a b, x => match x with
    | .Compare xa [op'] [xb] _ => decide (op = op') && !behindInMarks op xb && chE S false a xa && chE S false b xb
    | _ => false
  | .ch o1 o2 a b c, x => match x with
    | .Compare xa [p1, p2] [xb, xc] _ => decide (o1 = p1) && decide (o2 = p2) && !lastMarks [o1, o2] [xb, xc] && chE S false a xa && chE S false b xb && chE S false c xc
    | _ => false
  | .and es, x => match x with
    | .BoolOp .And xs _ => !es.isEmpty && chL S t es xs
    | _ => false
  | .or es, x => match x with
    | .BoolOp .Or xs _ => !es.isEmpty && chL S t es xs
    | _ => false
  | .not a, x => match x with
    | .UnaryOp .Not xa _ => chE S t a xa
    | _ => false
  | .ife c a b, x => !t && match x with
    | .IfExp xc xa xb _ => chE S true c xc && chE S false a xa && chE S false b xb
    | _ => false
  | .ix a i, x => match x with
    | .Subscript xa xb _ => plainX xb && chE S false a xa && chE S false i xb
    | _ => false
  | .sl a lo hi, x => match x with
    | .Subscript xa (.Slice xl xh none _) _ => chE S false a xa && chO S lo xl && chO S hi xh
    | _ => false
  | .st a lo j, x => match x with
    | .Subscript xa (.Slice xl none (some xk) _) _ => (match xk with
      | .Constant (.int i) _ _ => decide (i = j)
      | .UnaryOp .USub (.Constant (.int i) _ _) _ => decide (-i = j)
      | _ => false) && chE S false a xa && chO S lo xl
    | _ => false
  | .call f es, x => match x with
    | .Call (.Name n _) xs [] _ => decide (G.hot f = S.hot) && (!S.hot || !es.isEmpty) && decide (G.nm f = some n) && (G.T f).isSome && glb S n && noDbg n && chL S false es xs
    | _ => false
  | .bi b es, x => match x with
    | .Call (.Name n _) xs [] _ => (!S.hot || decide (b = .int)) && ((decide (biN b = some n) && glb S n && !es.isEmpty && chL S false es xs) || (decide (bsN b = some n) && glb S n && decide (es.length = 1) && (match xs with
      | [.Call (.Name m _) ys [] _] => decide (m = "set") && glb S m && chL S false es ys
      | _ => false)))
    | _ => false
  | .isi a ts, x => match x with
    | .Call (.Name n _) [xa, .Name m _] [] _ => decide (n = "isinstance") && glb S n && glb S m && (match ts with
      | [j] => decide (tyNm j = some m)
      | _ => false) && nStar xa && chE S false a xa
    | _ => false
  | .mt m a es, x => match x with
    | .Call (.Attribute xa n ap) xs [] p => decide (mtN m = some n) && sameLine ap p && notCall xa && chE S false a xa && decide (es.length = 1) && chL S false es xs
    | _ => false
  | .mu m i es, x => match x with
    | .Call (.Attribute (.Name v _) n ap) xs [] p => decide (muN m = some n) && sameLine ap p && vis S i v && decide (es.length = 1) && chL S false es xs
    | _ => false
  | .lc own elt tg it c, x => match x with
    | .ListComp xe gs scope _ => (match gs with
      | [⟨tx, ix, ifs, z⟩] => !S.hot && decide (z = 0) && (match ownP S own with
          | some p => blkC S.N S.sc scope p
          | none => false) && chTg (S.in scope) tg tx && ((tgSlots tg).all fun i => own.contains i) && (match it with
          | .nm i => !own.contains i
          | _ => true) && notSet ix && (chE S false it ix || chR S it ix tx) && chC (S.in scope) c ifs && chE (S.in scope) false elt xe
      | _ => false)
    | _ => false
  | .itr _ _, _ => false
  | .callx _ _, _ => false
  | .callf f es e, x => match x with
    | .Call (.Name n _) xs [] _ => !S.hot && decide (G.hot f = false) && decide (G.nm f = some n) && (G.T f).isSome && glb S n && noDbg n && !es.isEmpty && chL S false es xs.dropLast && (match xs.getLast? with
      | some x => nStar x && chE S false e x
      | none => false)
    | _ => false
  | .isx i yes, x => S.hot && match x with
    | .Call (.Name n _) [.Name m _, y] [] _ => decide (n = "isinstance") && glb S n && vis S i m && (match y with
      | .Name c _ => glb S c && noDbg c && (List.range G.nc).all fun j => decide (G.isn j c = some (yes.contains j)) || (G.en j).isNone
      | .Tuple ys _ _ => decide (ys.length ≤ 1000 ∧ ys.isEmpty = false) && (ys.all fun y => match y with
        | .Name c _ => glb S c && noDbg c
        | _ => false) && (List.range G.nc).all fun j => decide ((isns G j ys).map (·.any id) = some (yes.contains j)) || (G.en j).isNone
      | _ => false)
    | _ => false
  | .tupI b es, x => match x with
    | .Call (.Name n _) [.Call (.Name m _) xs [] _] [] _ => !S.hot && decide (n = "tuple") && glb S n && glb S m && chL S false es xs && ((decide (b = .range) && decide (m = "range") && (decide (es.length = 1) || decide (es.length = 2))) || (decide (b = .rev) && decide (m = "reversed") && decide (es.length = 1)))
    | _ => false
/-- all, none starred -/
def chL (S : SE) (t : Bool) : List Ex → List Expr → Bool
  | [], xs => match xs with
    | [] => true
    | _ => false
  | e :: es, xs => match xs with
    | x :: xs => nStar x && chE S t e x && chL S t es xs
    | _ => false
def chO (S : SE) : Option Ex → Option Expr → Bool
  | none, x => match x with
    | none => true
    | _ => false
  | some e, x => match x with
    | some x => chE S false e x
    | _ => false
def chC (S : SE) : Option Ex → List Expr → Bool
  | none, x => match x with
    | [] => true
    | _ => false
  | some e, x => match x with
    | [x] => chE S true e x
    | _ => false
/-- range(n), range(a, b), zip, enumerate, reversed to go over -/
def chR (S : SE) : Ex → Expr → Expr → Bool
  | .bi b es, x, _ => match x with
    | .Call (.Name n _) xs [] _ => decide (b = .range) && decide (n = "range") && glb S n && decide (es.length = 1) && chL S false es xs
    | _ => false
  | .itr b es, x, tg => match x with
    | .Call (.Name n _) xs [] _ => glb S n && chL S false es xs && ((decide (b = .range) && decide (n = "range") && decide (es.length = 2)) || (decide (b = .range) && decide (n = "range") && decide (es.length = 3)) || (decide (b = .zip) && decide (n = "zip") && decide (es.length = 2) && isTupX tg) ||
        (decide (b = .enum) && decide (n = "enumerate") && decide (es.length = 1) && isTupX tg) || (decide (b = .rev) && decide (n = "reversed") && decide (es.length = 1)))
    | _ => false
  | _, _, _ => false
end
end
end G

/-! the check is right: expressions -/
namespace G
open PySem PySem.Spec L2
section
variable {G : Gs} {k : Nat}
/-- from a list's check -/
theorem chL_plain {S : SE} {t : Bool} {env : Env} {pos : Pos} : ∀ {es : List Ex} {xs : List Expr}, chL G.t S t es xs = true → (backTo pos (starEach xs env)).any (·.1) = false
  | [], xs, h => by
    unfold chL at h
    split at h
    · rfl
    · cases h
  | e :: es, xs, h => by
    unfold chL at h
    split at h
    · rename_i x xs
      simp only [Bool.and_eq_true] at h
      obtain ⟨⟨h1, _⟩, h2⟩ := h
      rw [nStar_ok h1]
      have := chL_plain (env := env) (pos := pos) h2
      simpa [backTo] using this
    · cases h
theorem plain_stars {env : Env} {pos : Pos} : ∀ {xs : List Expr}, (∀ x ∈ xs, nStar x = true) → (backTo pos (starEach xs env)).any (·.1) = false
  | [], _ => rfl
  | x :: xs, h => by
    rw [nStar_ok (h x List.mem_cons_self)]
    have := plain_stars (env := env) (pos := pos) fun y hy => h y (List.mem_cons_of_mem _ hy)
    simpa [backTo] using this
theorem last_app {α : Type} : ∀ {xs : List α} {x : α}, xs.getLast? = some x → xs = xs.dropLast ++ [x]
  | [], _, h => by simp at h
  | [a], x, h => by simp at h; subst h; rfl
  | a :: b :: l, x, h => by
    have ih := last_app (xs := b :: l) (x := x) (by simpa [List.getLast?_cons_cons] using h)
    show a :: b :: l = a :: ((b :: l).dropLast ++ [x])
    rw [← ih]
theorem konst_ok {X : Cx} {d : D} {c : Const} {j : Nat} {pos : Pos} (h : konst d c = true) : PE X (.Constant c j pos) (tE G k X.K (.k d)) := by
  cases d <;> cases c <;> simp only [konst, Bool.false_eq_true, beq_iff_eq, decide_eq_true_eq, Bool.and_eq_true] at h
  · exact pe_const pe_non .non fun _ => rfl
  · subst h; exact pe_const pe_bl (.bl _) fun _ => rfl
  · subst h; exact pe_const pe_int (.int _) fun _ => rfl
  · obtain ⟨⟨h1, h2⟩, h3⟩ := h
    subst h1
    refine pe_const pe_str (.str _ ⟨fun c hc => ?_, h3⟩) fun _ => rfl
    have := List.all_eq_true.mp h2 c hc
    simpa using this
theorem fre_ok {S : SE} {X : Cx} (hX : XOk G k S X) {n : Str} (h : n ∈ frees) : X.mg n = none := hX.glo.fre n h
theorem biN_ok {S : SE} {X : Cx} (hX : XOk G k S X) {b : Bi} {n : Str} {x : Expr} {xs : List Expr} {es : List Ex} {p pos : Pos} (h : biN b = some n) (hg : Gl X n) (ha : PA X (x :: xs) (tOs G k X.K es)) (he : starEach (x :: xs) X.env = (false, eval x X.env) :: starEach xs X.env)
    (hpl : (backTo pos (starEach xs X.env)).any (·.1) = false) (hq : (!S.hot || decide (b = .int)) = true) : PE X (.Call (.Name n p) (x :: xs) [] pos) (tE G k X.K (.bi b es)) := by
  have hc : b ≠ .int → X.calm = true := fun ne => (hX.cold (by simpa [ne] using hq)).calm
  cases b <;> simp only [biN, Option.some.injEq, reduceCtorEq] at h <;> subst h
  · exact pe_biB cb_len hg (fre_ok hX (by decide)) (by decide +kernel) ha (by decide) (by decide) he hpl
  · exact pe_biT cb_tuple hg (fre_ok hX (by decide)) (by decide +kernel) ha (by decide) (by decide) he hpl
  · exact pe_biT cb_list hg (fre_ok hX (by decide)) (by decide +kernel) ha (by decide) (by decide) he hpl
  · exact pe_biB (cb_sorted hX.small) hg (fre_ok hX (by decide)) (by decide +kernel) ha (by decide) (by decide) he hpl
  · exact pe_biB (cb_all (hc (by decide))) hg (fre_ok hX (by decide)) (by decide +kernel) ha (by decide) (by decide) he hpl
  · exact pe_biB (cb_any (hc (by decide))) hg (fre_ok hX (by decide)) (by decide +kernel) ha (by decide) (by decide) he hpl
  · exact pe_biB (cb_sum (hc (by decide))) hg (fre_ok hX (by decide)) (by decide +kernel) ha (by decide) (by decide) he hpl
  · exact pe_biB (cb_max (hc (by decide))) hg (fre_ok hX (by decide)) (by decide +kernel) ha (by decide) (by decide) he hpl
  · exact pe_biB (cb_min (hc (by decide))) hg (fre_ok hX (by decide)) (by decide +kernel) ha (by decide) (by decide) he hpl
  · exact pe_biT cb_int hg (fre_ok hX (by decide)) (by decide +kernel) ha (by decide) (by decide) he hpl
  · exact pe_biT cb_str hg (fre_ok hX (by decide)) (by decide +kernel) ha (by decide) (by decide) he hpl
  · exact pe_biB cb_abs hg (fre_ok hX (by decide)) (by decide +kernel) ha (by decide) (by decide) he hpl
theorem ch_mid {X : Cx} {o1 o2 : CmpOp} {a b c : Ex} (hu : X.A.units + 200 < cLine) {xa xb xc : Expr} {pos : Pos} (ha : PE X xa (tO G k X.K a)) (hb : PE X xb (tO G k X.K b)) (hc : PE X xc (tO G k X.K c)) (hm : lastMarks [o1, o2] [xb, xc] = false) :
    PT X (.Compare xa [o1, o2] [xb, xc] pos) (tT G k X.K (.ch o1 o2 a b c)) := by
  refine (pt_chain (oc_cmp (fa := G.fa) hu o1) (oc_cmp (fa := G.fa) hu o2) ha hb hc hm).weak fun σ H Q ⟨S, ρ, x, t, rl, ev, et, post⟩ => ?_
  obtain ⟨d, fr, ρ', ew, ex⟩ := od_v (e := .ch o1 o2 a b c) (r := G.ev k (.ch o1 o2 a b c) ρ) ev (by intro i h; cases h)
  subst ex
  clear ev
  have ev := ew
  simp only [Gs.ev, evE] at ev
  obtain ⟨⟨v1, ρ1⟩, e1, ev⟩ := R.bind_ok ev
  obtain ⟨⟨v2, ρ2⟩, e2, ev⟩ := R.bind_ok ev
  obtain ⟨p, e3, ev⟩ := opt_ok ev
  obtain ⟨q, e4, ev⟩ := opt_ok ev
  obtain ⟨z, e5, ev⟩ := opt_ok ev
  refine ⟨S, ρ, v1, ρ1, rl, e1, fun w1 H1 S1 g1 ov1 => ⟨S1, ρ1, v2, ρ2, g1.rl, e2, fun w2 H2 S2 g2 ov2 => ⟨S2, p, q, z, g2.rl.sub, (ov1.mono g2.sub).get g2.rl e3, ov2.get g2.rl e4, e5, z, rfl, ?_⟩⟩⟩
  cases z with
  | true =>
    simp only [if_true] at ev ⊢
    obtain ⟨⟨v3, ρ3⟩, e6, ev⟩ := R.bind_ok ev
    obtain ⟨q', e7, ev⟩ := opt_ok ev
    obtain ⟨r', e8, ev⟩ := opt_ok ev
    obtain ⟨z', e9, ev⟩ := opt_ok ev
    cases ev
    cases et
    exact ⟨S2, ρ2, v3, ρ3, g2.rl, e6, fun w3 H3 S3 g3 ov3 => ⟨S3, q', r', _, g3.rl.sub, (ov2.mono g3.sub).get g3.rl e7, ov3.get g3.rl e8, e9, _, rfl, post H3 S3 ((g1.trans g2).trans g3)⟩⟩
  | false =>
    simp only [Bool.false_eq_true, if_false] at ev ⊢
    cases ev
    cases et
    exact ⟨_, rfl, post H2 S2 (g1.trans g2)⟩
mutual
theorem tg_ok {S : SE} {X : Cx} (hX : XOk G k S X) : ∀ (t : Tg) (x : Expr), chTg S t x = true → PG X x (tG X.K G.fa (tgSlots t) fun d ρ => asgT t (.val d) ρ)
  | .nm i, x, h => by
    unfold chTg at h
    split at h
    · exact pg_nmE (asn_ok hX h)
    · cases h
  | .tup ts, x, h => by
    unfold chTg at h
    split at h
    · simp only [Bool.and_eq_true, Bool.not_eq_true'] at h
      obtain ⟨h1, h2, h3⟩ := tgs_ok hX ts _ h.2
      exact pg_tupE (hX.cold h.1).calm h1 h2 h3
    · cases h
theorem tgs_ok {S : SE} {X : Cx} (hX : XOk G k S X) : ∀ (ts : List Tg) (xs : List Expr), chTgs S ts xs = true → PGs X xs (tGs X.K G.fa (tgsSlots ts) fun ds ρ => asgT.asgTs ts ds ρ) ∧ (assignEach xs X.env).length = ts.length ∧ (assignEach xs X.env).findIdx? (·.1) = none
  | [], xs, h => by
    unfold chTgs at h
    split at h
    · exact ⟨pgs_nilE, rfl, rfl⟩
    · cases h
  | t :: ts, xs, h => by
    unfold chTgs at h
    split at h
    · rename_i x xs
      simp only [Bool.and_eq_true] at h
      obtain ⟨⟨h1, h2⟩, h3⟩ := h
      obtain ⟨q1, q2, q3⟩ := tgs_ok hX ts _ h3
      have e := nStar_asg (xs := xs) (env := X.env) h1
      refine ⟨pgs_consE (tg_ok hX t _ h2) q1 (by rw [e]; rfl), by rw [e]; simp [q2], by rw [e]; simp [List.findIdx?_cons, q3]⟩
    · cases h
end
/-- a block's frame -/
theorem XOk.blk {S : SE} {X : Cx} (hX : XOk G k S X) (hS : S.hot = false) {scope : Scope} {p : List (Str × Nat)} (hb : blkC S.N S.sc scope p = true) (s : Shared) (H : Hp) (C : Addr) (cl : List (Str × Addr)) (fp : List Addr) :
    XOk G k (S.in scope) (X.blk s H scope (compEnvC scope cl C X.env) fp) where
  cold := fun h => ⟨(hX.cold h).fns, (hX.cold h).hfn, (hX.cold h).room, (hX.cold h).calm, (hX.cold h).fai⟩
  hot := fun h => by
    have h' : S.hot = true := h
    rw [hS] at h'
    cases h'
  glo := hX.glo
  hN := hX.hN
  se := ⟨hX.se.nd, (blkOk_by hb).kind, hX.se.dbg⟩
  hsc := by
    show relS scope X.env.scope = relS scope S.sc
    rw [hX.hsc]
  small := hX.small
  fn := fun x hx => by
    simp only [SE.in, cellsOfS, List.mem_map, List.mem_filter] at hx
    obtain ⟨y, ⟨_, h⟩, rfl⟩ := hx
    exact h
theorem mt_go {S : SE} {X : Cx} (hX : XOk G k S X) {m : Nat} {n : Str} {a b : Ex} {xa xb : Expr} {p : Pos} {ap : Pos} (hn : mtN m = some n) (hl : sameLine ap p = true) (hc : notCall xa = true) (hs : nStar xb = true) (ha : PE X xa (tO G k X.K a)) (hb : PE X xb (tO G k X.K b)) :
    PE X (.Call (.Attribute xa n ap) [xb] [] p) (tE G k X.K (.mt m a [b])) := by
  have he : starEach [xb] X.env = [(false, eval xb X.env)] := nStar_ok hs
  unfold mtN at hn
  split at hn <;> cases hn
  · exact pe_mtE PySem.F.slot_str_join PySem.F.type_str_join cm_join (fun d ds z h => by simp only [mtD] at h; unfold joinD at h; split at h; exact ⟨_, rfl⟩; cases h) ha hb he (notCall_ok hc) hl
  · exact pe_mtE PySem.F.slot_str_split PySem.F.type_str_split cm_split (fun d ds z h => by simp only [mtD] at h; unfold splitD at h; split at h; exact ⟨_, rfl⟩; cases h) ha hb he (notCall_ok hc) hl
  · exact pe_idxE hX.small ha hb he (notCall_ok hc) hl
theorem mu_go {S : SE} {X : Cx} (hX : XOk G k S X) {m i : Nat} {n v : Str} {b : Ex} {xb : Expr} {p ap vp : Pos} (hn : muN m = some n) (hl : sameLine ap p = true) (hs : nStar xb = true) (hv : vis S i v = true) (hb : PA X [xb] (tVs G k X.K [b])) :
    PE X (.Call (.Attribute (.Name v vp) n ap) [xb] [] p) (tE G k X.K (.mu m i [b])) := by
  have he : starEach [xb] X.env = [(false, eval xb X.env)] := nStar_ok hs
  have hf : ((backTo p (starEach [xb] X.env)).all (fun x => !x.1) && (backToKw p (keywordEach [] X.env)).all (fun x => x.1.isSome) && decide (([xb] : List Expr).length + ([] : List Keyword).length + (if ([] : List Keyword).isEmpty then 0 else 1) < 30)) = true := by rw [he]; rfl
  unfold muN at hn
  split at hn <;> cases hn
  · exact (pe_bm PySem.F.plainAttrs_list PySem.F.slot_list_append PySem.F.type_list_append mt_append (var_ok hX hv) hb rfl hf hl he rfl).weak fun σ H Q h => mu_mid (fun S H a vs w d ds z => mu_append S H a vs w d ds z) h
  · exact (pe_bm PySem.F.plainAttrs_list PySem.F.slot_list_extend PySem.F.type_list_extend mt_extendR (var_ok hX hv) hb rfl hf hl he rfl).weak fun σ H Q h => mu_mid (fun S H a vs w d ds z => mu_extend S H a vs w d ds z) h
  · exact (pe_bm PySem.F.plainAttrs_list PySem.F.slot_list_remove PySem.F.type_list_remove (mt_remove (fa := G.fa) hX.small) (var_ok hX hv) hb rfl hf hl he rfl).weak fun σ H Q h => mu_mid (fun S H a vs w d ds z => mu_remove S H a vs w d ds z) h
  · exact (pe_bm PySem.F.plainAttrs_list PySem.F.slot_list_pop PySem.F.type_list_pop mt_popAt (var_ok hX hv) hb rfl hf hl he rfl).weak fun σ H Q h => mu_popM h

def isTest : Ex → Bool
  | .not _ => true
  | .and _ => true
  | .or _ => true
  | .cmp .. => true
  | .ch .. => true
  | _ => false
theorem plain_of {S : SE} {e : Ex} {x : Expr} (h : chE G.t S true e x = true) (n : isTest e = false) : plainTest x = true := by
  cases e <;> first | (cases n; done) | skip
  case isx =>
    unfold chE at h
    rw [Bool.and_eq_true] at h
    have h := h.2
    split at h
    · rfl
    · cases h
  all_goals (unfold chE at h; first | (cases h; done) | (split at h <;> first | rfl | cases h))
mutual
theorem sE : ∀ (e : Ex) (x : Expr) (S : SE) (t : Bool) (X : Cx), XOk G k S X → chE G.t S t e x = true → PE X x (tE G k X.K e)
  | .nm i, x, S, t, X, hX, h => by
    unfold chE at h
    split at h
    · exact pe_nm (var_ok hX h)
    · cases h
  | .k d, x, S, t, X, hX, h => by
    unfold chE at h
    split at h
    · exact konst_ok h
    · cases h
  | .gc xs d, x, S, t, X, hX, h => by
    unfold chE at h
    split at h
    · split at h
      · simp only [Bool.and_eq_true, decide_eq_true_eq] at h
        obtain ⟨⟨h1, h2⟩, h3⟩ := h
        obtain ⟨u, v, q1, q2, q3⟩ := hX.glo.gc _ _ _ h1
        exact pe_const (pe_glob (glb_ok hX h2) q1 q2 (noDbg_ok h3)) q3 fun _ => rfl
      · cases h
    · cases h
  | .tup es, x, S, t, X, hX, h => by
    unfold chE at h
    split at h
    · simp only [Bool.and_eq_true, decide_eq_true_eq] at h
      exact pe_tupE (sVs es _ S false X hX h.2) h.1
    · cases h
  | .lst es, x, S, t, X, hX, h => by
    unfold chE at h
    split at h
    · simp only [Bool.and_eq_true, decide_eq_true_eq] at h
      exact pe_lstE (sVs es _ S false X hX h.2) h.1
    · cases h
  | .bin op a b, x, S, t, X, hX, h => by
    unfold chE at h
    split at h
    · simp only [Bool.and_eq_true, decide_eq_true_eq] at h
      obtain ⟨⟨⟨rfl, h2⟩, h3⟩, h4⟩ := h
      exact pe_binE (sO a _ S false X hX h3) (sO b _ S false X hX h4) h2
    · cases h
  | .neg a, x, S, t, X, hX, h => by
    unfold chE at h
    split at h
    · exact pe_neg (sO a _ S false X hX h)
    · cases h
  | .cmp op a b, x, S, t, X, hX, h => by
    unfold chE at h
    split at h
    · simp only [Bool.and_eq_true, decide_eq_true_eq, Bool.not_eq_true'] at h
      obtain ⟨⟨⟨rfl, h2⟩, h3⟩, h4⟩ := h
      exact pe_cmpE hX.small (sO a _ S false X hX h3) (sO b _ S false X hX h4) h2
    · cases h
  | .ch o1 o2 a b c, x, S, t, X, hX, h => by
    unfold chE at h
    split at h
    · simp only [Bool.and_eq_true, decide_eq_true_eq, Bool.not_eq_true'] at h
      obtain ⟨⟨⟨⟨⟨rfl, rfl⟩, h2⟩, h3⟩, h4⟩, h5⟩ := h
      exact pe_chE hX.small (sO a _ S false X hX h3) (sO b _ S false X hX h4) (sO c _ S false X hX h5) h2
    · cases h
  | .and es, x, S, t, X, hX, h => by
    unfold chE at h
    split at h
    · simp only [Bool.and_eq_true, Bool.not_eq_true'] at h
      exact sAnd es _ S t X hX h.2 (by simpa using h.1) _
    · cases h
  | .or es, x, S, t, X, hX, h => by
    unfold chE at h
    split at h
    · simp only [Bool.and_eq_true, Bool.not_eq_true'] at h
      exact sOr es _ S t X hX h.2 (by simpa using h.1) _
    · cases h
  | .not a, x, S, t, X, hX, h => by
    unfold chE at h
    split at h
    · exact pe_notE (sO a _ S t X hX h)
    · cases h
  | .ife c a b, x, S, t, X, hX, h => by
    unfold chE at h
    simp only [Bool.and_eq_true] at h
    obtain ⟨_, h⟩ := h
    split at h
    · simp only [Bool.and_eq_true] at h
      obtain ⟨⟨h1, h2⟩, h3⟩ := h
      exact pe_ife (sT c _ S X hX h1) (sE a _ S false X hX h2) (sE b _ S false X hX h3)
    · cases h
  | .ix a i, x, S, t, X, hX, h => by
    unfold chE at h
    split at h
    · simp only [Bool.and_eq_true] at h
      obtain ⟨⟨h1, h2⟩, h3⟩ := h
      exact pe_ixE (sO a _ S false X hX h2) (sO i _ S false X hX h3) (plainX_ok h1)
    · cases h
  | .sl a lo hi, x, S, t, X, hX, h => by
    unfold chE at h
    split at h
    · simp only [Bool.and_eq_true] at h
      obtain ⟨⟨h1, h2⟩, h3⟩ := h
      exact pe_slE (sO a _ S false X hX h1) (sB lo _ S X hX h2) (sB hi _ S X hX h3)
    · cases h
  | .st a lo j, x, S, t, X, hX, h => by
    unfold chE at h
    split at h
    · simp only [Bool.and_eq_true] at h
      obtain ⟨⟨h1, h2⟩, h3⟩ := h
      refine pe_stE ?_ (sO a _ S false X hX h2) (sB lo _ S X hX h3)
      split at h1
      · rename_i i _ _
        cases of_decide_eq_true h1
        exact stK_pos
      · cases of_decide_eq_true h1
        exact stK_neg
      · cases h1
    · cases h
  | .call f es, x, S, t, X, hX, h => by
    unfold chE at h
    split at h
    · simp only [Bool.and_eq_true, decide_eq_true_eq] at h
      obtain ⟨⟨⟨⟨⟨⟨h0, h6⟩, h1⟩, h2⟩, h3⟩, h4⟩, h5⟩ := h
      obtain ⟨fd, hT⟩ := Option.isSome_iff_exists.mp h2
      obtain ⟨a, ha, hf⟩ := hX.glo.nm _ _ h1
      have hos := sOs es _ S false X hX h5
      cases hS : S.hot with
      | false =>
        rw [hS] at h0
        have cd := hX.cold hS
        obtain ⟨a', fdat, ps, q1, q2, q3, q4, q5⟩ := cd.fns f fd hT h0
        rw [hf] at q1
        cases q1
        cases es with
        | nil =>
          unfold chL at h5
          split at h5
          · exact pe_callE0 hT q5 cd.room (glb_ok hX h3) ha q2 q3 (noDbg_ok h4)
          · cases h5
        | cons e es =>
          unfold chL at h5
          split at h5
          · simp only [Bool.and_eq_true] at h5
            exact pe_callE hT q5 cd.room (glb_ok hX h3) ha q2 q3 hos (noDbg_ok h4) (nStar_ok h5.1.1) (chL_plain h5.2)
          · cases h5
      | true =>
        rw [hS] at h0
        obtain ⟨c, C, p, ht⟩ := hX.hot hS
        obtain ⟨a', fdat, ps, q1, q2, q3, q4, q5⟩ := ht.hfn f fd hT h0
        rw [hf] at q1
        cases q1
        cases es with
        | nil =>
          exfalso
          simp [hS] at h6
        | cons e es =>
          unfold chL at h5
          split at h5
          · simp only [Bool.and_eq_true] at h5
            exact pe_callKE hT q5 ht.room ht.pin (glb_ok hX h3) ha q2 q3 hos (noDbg_ok h4) (nStar_ok h5.1.1) (chL_plain h5.2)
          · cases h5
    · cases h
  | .bi b [], x, S, t, X, hX, h => by
    unfold chE at h
    split at h <;> simp at h
  | .bi b (e :: es), x, S, t, X, hX, h => by
    unfold chE at h
    split at h
    · rw [Bool.and_eq_true] at h
      obtain ⟨hq, h⟩ := h
      rw [Bool.or_eq_true] at h
      rcases h with h | h
      · simp only [Bool.and_eq_true, decide_eq_true_eq, Bool.not_eq_true'] at h
        obtain ⟨⟨⟨h1, h2⟩, h3⟩, h4⟩ := h
        have hos := sOs (e :: es) _ S false X hX h4
        unfold chL at h4
        split at h4
        · simp only [Bool.and_eq_true] at h4
          exact biN_ok hX h1 (glb_ok hX h2) hos (nStar_ok h4.1.1) (chL_plain h4.2) hq
        · cases h4
      · simp only [Bool.and_eq_true, decide_eq_true_eq] at h
        obtain ⟨⟨⟨h1, h2⟩, h3⟩, h4⟩ := h
        have h5 : es = [] := by
          cases es with
          | nil => rfl
          | cons _ _ => simp at h3
        subst h5
        split at h4
        · simp only [Bool.and_eq_true, decide_eq_true_eq] at h4
          obtain ⟨⟨rfl, h6⟩, h7⟩ := h4
          unfold chL at h7
          split at h7
          · simp only [Bool.and_eq_true] at h7
            have h8 := h7.2
            unfold chL at h8
            split at h8
            · have ho := sO e _ S false X hX h7.1.2
              have hc : b ≠ .int → X.calm = true := fun ne => (hX.cold (by simpa [ne] using hq)).calm
              cases b <;> simp only [bsN, Option.some.injEq, reduceCtorEq] at h1
              · subst h1
                exact pe_sorset (hc (by decide)) hX.small (glb_ok hX h2) (fre_ok hX (by decide)) (glb_ok hX h6) (fre_ok hX (by decide)) ho (nStar_ok h7.1.1)
              · subst h1
                exact pe_lenset (hc (by decide)) hX.small (glb_ok hX h2) (fre_ok hX (by decide)) (glb_ok hX h6) (fre_ok hX (by decide)) ho (nStar_ok h7.1.1)
            · cases h8
          · cases h7
        · cases h4
    · cases h
  | .isi a ts, x, S, t, X, hX, h => by
    unfold chE at h
    split at h
    · simp only [Bool.and_eq_true, decide_eq_true_eq] at h
      obtain ⟨⟨⟨⟨⟨rfl, h2⟩, h3⟩, h4⟩, h5⟩, h6⟩ := h
      split at h4
      · rename_i j
        simp only [decide_eq_true_eq] at h4
        have hO := sO a _ S false X hX h6
        unfold tyNm at h4
        split at h4 <;> cases h4
        · exact pe_isi hO (glb_ok hX h2) (fre_ok hX (by decide)) (by decide +kernel) (by decide) (by decide) (glb_ok hX h3) (fre_ok hX (by decide)) (by decide +kernel) (by decide) (by decide) rfl (nStar_ok h5) rfl
        · exact pe_isi hO (glb_ok hX h2) (fre_ok hX (by decide)) (by decide +kernel) (by decide) (by decide) (glb_ok hX h3) (fre_ok hX (by decide)) (by decide +kernel) (by decide) (by decide) rfl (nStar_ok h5) rfl
        · exact pe_isi hO (glb_ok hX h2) (fre_ok hX (by decide)) (by decide +kernel) (by decide) (by decide) (glb_ok hX h3) (fre_ok hX (by decide)) (by decide +kernel) (by decide) (by decide) rfl (nStar_ok h5) rfl
        · exact pe_isi hO (glb_ok hX h2) (fre_ok hX (by decide)) (by decide +kernel) (by decide) (by decide) (glb_ok hX h3) (fre_ok hX (by decide)) (by decide +kernel) (by decide) (by decide) rfl (nStar_ok h5) rfl
        · exact pe_isi hO (glb_ok hX h2) (fre_ok hX (by decide)) (by decide +kernel) (by decide) (by decide) (glb_ok hX h3) (fre_ok hX (by decide)) (by decide +kernel) (by decide) (by decide) rfl (nStar_ok h5) rfl
      · cases h4
    · cases h
  | .mt m a [], x, S, t, X, hX, h => by
    unfold chE at h
    split at h
    · simp at h
    · cases h
  | .mt m a (_ :: _ :: _), x, S, t, X, hX, h => by
    unfold chE at h
    split at h
    · simp at h
    · cases h
  | .mt m a [e], x, S, t, X, hX, h => by
    unfold chE at h
    split at h
    · simp only [Bool.and_eq_true, decide_eq_true_eq] at h
      obtain ⟨⟨⟨⟨⟨h1, h2⟩, h3⟩, h4⟩, h5⟩, h6⟩ := h
      unfold chL at h6
      split at h6
      · simp only [Bool.and_eq_true] at h6
        obtain ⟨⟨h7, h8⟩, h9⟩ := h6
        unfold chL at h9
        split at h9
        · exact mt_go hX h1 h2 h3 h7 (sO a _ S false X hX h4) (sO e _ S false X hX h8)
        · cases h9
      · cases h6
    · cases h
  | .mu m i [], x, S, t, X, hX, h => by
    unfold chE at h
    split at h
    · simp at h
    · cases h
  | .mu m i (_ :: _ :: _), x, S, t, X, hX, h => by
    unfold chE at h
    split at h
    · simp at h
    · cases h
  | .mu m i [e], x, S, t, X, hX, h => by
    unfold chE at h
    split at h
    · simp only [Bool.and_eq_true, decide_eq_true_eq] at h
      obtain ⟨⟨⟨⟨h1, h2⟩, h3⟩, h5⟩, h6⟩ := h
      have hv := sVs [e] _ S false X hX h6
      unfold chL at h6
      split at h6
      · simp only [Bool.and_eq_true] at h6
        obtain ⟨⟨h7, h8⟩, h9⟩ := h6
        unfold chL at h9
        split at h9
        · exact mu_go hX h1 h2 h7 h3 hv
        · cases h9
      · cases h6
    · cases h
  | .itr a0 a1, x, S, t, X, hX, h => by simp [chE] at h
  | .callx a0 a1, x, S, t, X, hX, h => by simp [chE] at h
  | .callf f es e, x, S, t, X, hX, h => by
    unfold chE at h
    split at h
    · rename_i n p xs pos
      simp only [Bool.and_eq_true, decide_eq_true_eq, Bool.not_eq_true'] at h
      obtain ⟨⟨⟨⟨⟨⟨⟨⟨hS, h0⟩, h1⟩, h2⟩, h3⟩, h4⟩, h5⟩, h6⟩, h7⟩ := h
      have cd := hX.cold hS
      obtain ⟨fd, hT⟩ := Option.isSome_iff_exists.mp h2
      obtain ⟨a, ha, hf⟩ := hX.glo.nm _ _ h1
      obtain ⟨a', fdat, ps, q1, q2, q3, q4, q5⟩ := cd.fns f fd hT h0
      rw [hf] at q1
      cases q1
      have pp := sPs es _ S X hX h6
      split at h7
      · rename_i xl hl
        simp only [Bool.and_eq_true] at h7
        have hx := sE e xl S false X hX h7.2
        have hxs : xs = xs.dropLast ++ [xl] := last_app hl
        have hpa := pa_OsF (G := G) (k := k) rfl hx (fun ys => nStar_ok h7.1) pp
        have hst : ∀ {es : List Ex} {ys : List Expr}, chL G.t S false es ys = true → ∀ y ∈ ys, nStar y = true := fun {es} => by
          induction es with
          | nil =>
            intro ys h y hy
            unfold chL at h
            split at h
            · cases hy
            · cases h
          | cons e es ih =>
            intro ys h y hy
            unfold chL at h
            split at h
            · simp only [Bool.and_eq_true] at h
              rcases List.mem_cons.mp hy with rfl | hy
              · exact h.1.1
              · exact ih h.2 y hy
            · cases h
        have hall : ∀ y ∈ xs, nStar y = true := fun y hy => by
          rw [hxs] at hy
          rcases List.mem_append.mp hy with hy | hy
          · exact hst h6 y hy
          · simp only [List.mem_singleton] at hy
            subst hy
            exact h7.1
        rw [← hxs] at hpa
        cases xs with
        | nil => simp at hl
        | cons x0 xs =>
          exact pe_callfE hT q5 cd.room (glb_ok hX h3) ha q2 q3 hpa (noDbg_ok h4) (nStar_ok (hall x0 List.mem_cons_self)) (plain_stars fun y hy => hall y (List.mem_cons_of_mem _ hy))
      · cases h7
    · cases h
  | .isx i yes, x, S, t, X, hX, h => by
    unfold chE at h
    rw [Bool.and_eq_true] at h
    obtain ⟨hS, h⟩ := h
    obtain ⟨c0, C, p, ht⟩ := hX.hot hS
    obtain ⟨nm, e0, lt⟩ := hX.glo.ecn _ _ ht.ec
    have pick : ∀ {q : Nat → Bool}, ((List.range G.t.nc).all fun j => q j || (G.t.en j).isNone) = true → q c0 = true := fun {q} z => by
      have := List.all_eq_true.mp z c0 (List.mem_range.mpr lt)
      rw [Bool.or_eq_true] at this
      rcases this with this | this
      · exact this
      · have e0 : G.t.en c0 = some nm := e0
        rw [e0] at this
        cases this
    split at h
    · simp only [Bool.and_eq_true] at h
      obtain ⟨⟨⟨h1, h2⟩, h3⟩, h4⟩ := h
      have h1 := of_decide_eq_true h1
      subst h1
      split at h4
      · simp only [Bool.and_eq_true] at h4
        obtain ⟨⟨h5, h6⟩, h7⟩ := h4
        exact pe_isxN ht hX.glo (of_decide_eq_true (pick h7)) (glb_ok hX h5) (noDbg_ok h6) (glb_ok hX h2) (fre_ok hX (by decide)) (var_ok hX h3)
      · simp only [Bool.and_eq_true] at h4
        obtain ⟨⟨h5, h6⟩, h7⟩ := h4
        rename_i ys _ _
        obtain ⟨bs, e1, e2⟩ := Option.map_eq_some_iff.mp (of_decide_eq_true (pick h7))
        have h5 := of_decide_eq_true h5
        simp only [Bool.and_eq_true, decide_eq_true_eq, Bool.not_eq_true', List.isEmpty_eq_false_iff] at h5
        refine pe_isxT ht hX.glo e1 e2 (fun y hy => ?_) h5.2 h5.1 (glb_ok hX h2) (fre_ok hX (by decide)) (var_ok hX h3)
        have := List.all_eq_true.mp h6 y hy
        split at this
        · rw [Bool.and_eq_true] at this
          exact ⟨_, _, rfl, glb_ok hX this.1, noDbg_ok this.2⟩
        · cases this
      · cases h4
    · cases h
  | .tupI b [], x, S, t, X, hX, h => by
    unfold chE at h
    split at h <;> simp at h
  | .tupI b (_ :: _ :: _ :: _), x, S, t, X, hX, h => by
    unfold chE at h
    split at h <;> simp at h
  | .tupI b [e], x, S, t, X, hX, h => by
    unfold chE at h
    split at h
    · simp only [Bool.and_eq_true, decide_eq_true_eq, Bool.or_eq_true] at h
      obtain ⟨⟨⟨⟨⟨hS, rfl⟩, h1⟩, h0⟩, h2⟩, h3⟩ := h
      have calm := (hX.cold (by simpa using hS)).calm
      unfold chL at h2
      split at h2
      · simp only [Bool.and_eq_true] at h2
        have h5 := h2.2
        unfold chL at h5
        split at h5
        · rcases h3 with h3 | h3
          · obtain ⟨⟨rfl, rfl⟩, _⟩ := h3
            exact pe_tupRg1E calm (glb_ok hX h1) (fre_ok hX (by decide)) (glb_ok hX h0) (fre_ok hX (by decide)) (sE e _ S false X hX h2.1.2) (nStar_ok h2.1.1)
          · obtain ⟨⟨rfl, rfl⟩, _⟩ := h3
            exact pe_tupRevE calm (glb_ok hX h1) (fre_ok hX (by decide)) (glb_ok hX h0) (fre_ok hX (by decide)) (sE e _ S false X hX h2.1.2) (nStar_ok h2.1.1)
        · cases h5
      · cases h2
    · cases h
  | .tupI b [e, f], x, S, t, X, hX, h => by
    unfold chE at h
    split at h
    · simp only [Bool.and_eq_true, decide_eq_true_eq, Bool.or_eq_true] at h
      obtain ⟨⟨⟨⟨⟨hS, rfl⟩, h1⟩, h0⟩, h2⟩, h3⟩ := h
      have calm := (hX.cold (by simpa using hS)).calm
      unfold chL at h2
      split at h2
      · simp only [Bool.and_eq_true] at h2
        have h5 := h2.2
        unfold chL at h5
        split at h5
        · simp only [Bool.and_eq_true] at h5
          have h6 := h5.2
          unfold chL at h6
          split at h6
          · rcases h3 with h3 | h3
            · obtain ⟨⟨rfl, rfl⟩, _⟩ := h3
              exact pe_tupRg2E calm (glb_ok hX h1) (fre_ok hX (by decide)) (glb_ok hX h0) (fre_ok hX (by decide)) (sE e _ S false X hX h2.1.2) (sE f _ S false X hX h5.1.2) (nStar_ok h2.1.1) (nStar_ok h5.1.1) (by rw [nStar_ok h5.1.1]; rfl)
            · exact absurd h3.2 (by simp)
          · cases h6
        · cases h5
      · cases h2
    · cases h
  | .lc own elt tg it c, x, S, t, X, hX, h => by
    unfold chE at h
    split at h
    · split at h
      · rename_i tx ix ifs z
        simp only [Bool.and_eq_true, decide_eq_true_eq] at h
        obtain ⟨⟨⟨⟨⟨⟨⟨⟨⟨hS, rfl⟩, h2⟩, h3⟩, h4⟩, h5⟩, h6⟩, h7⟩, h8⟩, h9⟩ := h
        have hS : S.hot = false := by simpa using hS
        split at h2
        · rename_i p hp
          have ow := ownP_ok hp
          have hi : PI X tx ix (tI G k X.K it) := by
            rw [Bool.or_eq_true] at h7
            rcases h7 with h7 | h7
            · exact pi_E (sO it _ S false X hX h7)
            · exact sR it _ tx S X hX h7
          have main := pe_lc (pos := ‹Pos›) (te := tV G k X.K elt) (tt := tC? G k X.K c) (g := tG X.K G.fa (tgSlots tg) fun d ρ => asgT tg (.val d) ρ) (hX.cold hS).calm (by rw [hX.hN]; exact hX.se.nd) hi (own := p) (by rw [hX.hN, hX.hsc]; exact blkOk_by h2)
            (fun s H C cl fp => tg_ok (hX.blk hS h2 s H C cl fp) tg _ h3) (fun s H C cl fp => sC c _ (S.in _) _ (hX.blk hS h2 s H C cl fp) h8)
            (fun s H C cl fp => pe_v (sE elt _ (S.in _) false _ (hX.blk hS h2 s H C cl fp) h9)) (fun w => notSet_ok h6 w)
          rw [ow] at main
          refine main.weak fun σ H Q h => lc_mid (fun i hi => ?_) (fun i hi => ?_) h
          · have := List.all_eq_true.mp h4 i hi
            simpa using this
          · subst hi
            simpa using h5
        · cases h2
      · cases h
    · cases h
termination_by e _ _ _ _ _ _ => (sizeOf e, 0)
theorem sO : ∀ (e : Ex) (x : Expr) (S : SE) (t : Bool) (X : Cx), XOk G k S X → chE G.t S t e x = true → PE X x (tO G k X.K e)
  | e, x, S, t, X, hX, h => by
    by_cases z : ∃ i, e = .nm i
    · obtain ⟨i, rfl⟩ := z
      unfold chE at h
      split at h
      · exact pe_nmO (var_ok hX h)
      · cases h
    · exact pe_o (sE e x S t X hX h) fun i e' => z ⟨i, e'⟩
termination_by e _ _ _ _ _ _ => (sizeOf e, 1)
theorem sT : ∀ (e : Ex) (x : Expr) (S : SE) (X : Cx), XOk G k S X → chE G.t S true e x = true → PT X x (tT G k X.K e)
  | .not a, x, S, X, hX, h => by
    unfold chE at h
    split at h
    · exact pt_notT (sT a _ S X hX h)
    · cases h
  | .and es, x, S, X, hX, h => by
    unfold chE at h
    split at h
    · simp only [Bool.and_eq_true, Bool.not_eq_true'] at h
      exact (sAndT es _ S X hX h.2 (by simpa using h.1) _).pt
    · cases h
  | .or es, x, S, X, hX, h => by
    unfold chE at h
    split at h
    · simp only [Bool.and_eq_true, Bool.not_eq_true'] at h
      exact (sOrT es _ S X hX h.2 (by simpa using h.1) _).pt
    · cases h
  | .cmp op a b, x, S, X, hX, h => by
    unfold chE at h
    split at h
    · simp only [Bool.and_eq_true, decide_eq_true_eq, Bool.not_eq_true'] at h
      obtain ⟨⟨⟨rfl, h2⟩, h3⟩, h4⟩ := h
      exact pt_cmpE hX.small (sO a _ S false X hX h3) (sO b _ S false X hX h4) h2
    · cases h
  | .ch o1 o2 a b c, x, S, X, hX, h => by
    unfold chE at h
    split at h
    · simp only [Bool.and_eq_true, decide_eq_true_eq, Bool.not_eq_true'] at h
      obtain ⟨⟨⟨⟨⟨rfl, rfl⟩, h2⟩, h3⟩, h4⟩, h5⟩ := h
      exact ch_mid hX.small (sO a _ S false X hX h3) (sO b _ S false X hX h4) (sO c _ S false X hX h5) h2
    · cases h
  | .nm a0, x, S, X, hX, h => pt_tr (sO _ x S true X hX h) (plainTest_ok (plain_of h rfl))
  | .k a0, x, S, X, hX, h => pt_tr (sO _ x S true X hX h) (plainTest_ok (plain_of h rfl))
  | .gc a0 a1, x, S, X, hX, h => pt_tr (sO _ x S true X hX h) (plainTest_ok (plain_of h rfl))
  | .tup a0, x, S, X, hX, h => pt_tr (sO _ x S true X hX h) (plainTest_ok (plain_of h rfl))
  | .lst a0, x, S, X, hX, h => pt_tr (sO _ x S true X hX h) (plainTest_ok (plain_of h rfl))
  | .bin a0 a1 a2, x, S, X, hX, h => pt_tr (sO _ x S true X hX h) (plainTest_ok (plain_of h rfl))
  | .neg a0, x, S, X, hX, h => pt_tr (sO _ x S true X hX h) (plainTest_ok (plain_of h rfl))
  | .ife a0 a1 a2, x, S, X, hX, h => pt_tr (sO _ x S true X hX h) (plainTest_ok (plain_of h rfl))
  | .ix a0 a1, x, S, X, hX, h => pt_tr (sO _ x S true X hX h) (plainTest_ok (plain_of h rfl))
  | .sl a0 a1 a2, x, S, X, hX, h => pt_tr (sO _ x S true X hX h) (plainTest_ok (plain_of h rfl))
  | .st a0 a1 a2, x, S, X, hX, h => pt_tr (sO _ x S true X hX h) (plainTest_ok (plain_of h rfl))
  | .call a0 a1, x, S, X, hX, h => pt_tr (sO _ x S true X hX h) (plainTest_ok (plain_of h rfl))
  | .bi a0 a1, x, S, X, hX, h => pt_tr (sO _ x S true X hX h) (plainTest_ok (plain_of h rfl))
  | .isi a0 a1, x, S, X, hX, h => pt_tr (sO _ x S true X hX h) (plainTest_ok (plain_of h rfl))
  | .mt a0 a1 a2, x, S, X, hX, h => pt_tr (sO _ x S true X hX h) (plainTest_ok (plain_of h rfl))
  | .mu a0 a1 a2, x, S, X, hX, h => pt_tr (sO _ x S true X hX h) (plainTest_ok (plain_of h rfl))
  | .itr a0 a1, x, S, X, hX, h => by simp [chE] at h
  | .callx a0 a1, x, S, X, hX, h => by simp [chE] at h
  | .callf a0 a1 a2, x, S, X, hX, h => pt_tr (sO _ x S true X hX h) (plainTest_ok (plain_of h rfl))
  | .isx a0 a1, x, S, X, hX, h => pt_tr (sO _ x S true X hX h) (plainTest_ok (plain_of h rfl))
  | .tupI a0 a1, x, S, X, hX, h => pt_tr (sO _ x S true X hX h) (plainTest_ok (plain_of h rfl))
  | .lc a0 a1 a2 a3 a4, x, S, X, hX, h => pt_tr (sO _ x S true X hX h) (plainTest_ok (plain_of h rfl))
termination_by e _ _ _ _ _ => (sizeOf e, 2)
theorem sOs : ∀ (es : List Ex) (xs : List Expr) (S : SE) (t : Bool) (X : Cx), XOk G k S X → chL G.t S t es xs = true → PA X xs (tOs G k X.K es)
  | [], xs, S, t, X, hX, h => by
    unfold chL at h
    split at h
    · exact pa_Os_nil
    · cases h
  | e :: es, xs, S, t, X, hX, h => by
    unfold chL at h
    split at h
    · simp only [Bool.and_eq_true] at h
      exact pa_Os (sO e _ S t X hX h.1.2) (sOs es _ S t X hX h.2) (nStar_ok h.1.1)
    · cases h
termination_by es _ _ _ _ _ _ => (sizeOf es, 0)
theorem sPs : ∀ (es : List Ex) (xs : List Expr) (S : SE) (X : Cx), XOk G k S X → chL G.t S false es xs = true → Paired (fun e x => PE X x (tO G k X.K e) ∧ ∀ xs, starEach (x :: xs) X.env = (false, eval x X.env) :: starEach xs X.env) es xs
  | [], xs, S, X, hX, h => by
    unfold chL at h
    split at h
    · exact .nil
    · cases h
  | e :: es, xs, S, X, hX, h => by
    unfold chL at h
    split at h
    · simp only [Bool.and_eq_true] at h
      exact .cons ⟨sO e _ S false X hX h.1.2, fun ys => nStar_ok h.1.1⟩ (sPs es _ S X hX h.2)
    · cases h
termination_by es _ _ _ _ _ => (sizeOf es, 0)
theorem sVs : ∀ (es : List Ex) (xs : List Expr) (S : SE) (t : Bool) (X : Cx), XOk G k S X → chL G.t S t es xs = true → PA X xs (tVs G k X.K es)
  | [], xs, S, t, X, hX, h => by
    unfold chL at h
    split at h
    · exact pa_Vs_nil
    · cases h
  | e :: es, xs, S, t, X, hX, h => by
    unfold chL at h
    split at h
    · simp only [Bool.and_eq_true] at h
      exact pa_Vs (sE e _ S t X hX h.1.2) (sVs es _ S t X hX h.2) (nStar_ok h.1.1)
    · cases h
termination_by es _ _ _ _ _ _ => (sizeOf es, 0)
theorem sAnd : ∀ (es : List Ex) (xs : List Expr) (S : SE) (t : Bool) (X : Cx), XOk G k S X → chL G.t S t es xs = true → es ≠ [] → ∀ (pos : Pos), PE X (.BoolOp .And xs pos) (tE G k X.K (.and es))
  | [], xs, S, t, X, hX, h, ne, _ => absurd rfl ne
  | [e], xs, S, t, X, hX, h, ne, pos => by
    unfold chL at h
    split at h
    · simp only [Bool.and_eq_true] at h
      obtain ⟨⟨h1, h2⟩, h3⟩ := h
      unfold chL at h3
      split at h3
      · exact pe_and1 (sO e _ S t X hX h2)
      · cases h3
    · cases h
  | e :: f :: es, xs, S, t, X, hX, h, ne, pos => by
    unfold chL at h
    split at h
    · simp only [Bool.and_eq_true] at h
      obtain ⟨⟨h1, h2⟩, h3⟩ := h
      have hh := sAnd (f :: es) _ S t X hX h3 (by simp) pos
      unfold chL at h3
      split at h3
      · exact pe_andE (sO e _ S t X hX h2) hh
      · cases h3
    · cases h
termination_by es _ _ _ _ _ _ _ _ => (sizeOf es, 0)
theorem sOr : ∀ (es : List Ex) (xs : List Expr) (S : SE) (t : Bool) (X : Cx), XOk G k S X → chL G.t S t es xs = true → es ≠ [] → ∀ (pos : Pos), PE X (.BoolOp .Or xs pos) (tE G k X.K (.or es))
  | [], xs, S, t, X, hX, h, ne, _ => absurd rfl ne
  | [e], xs, S, t, X, hX, h, ne, pos => by
    unfold chL at h
    split at h
    · simp only [Bool.and_eq_true] at h
      obtain ⟨⟨h1, h2⟩, h3⟩ := h
      unfold chL at h3
      split at h3
      · exact pe_or1 (sO e _ S t X hX h2)
      · cases h3
    · cases h
  | e :: f :: es, xs, S, t, X, hX, h, ne, pos => by
    unfold chL at h
    split at h
    · simp only [Bool.and_eq_true] at h
      obtain ⟨⟨h1, h2⟩, h3⟩ := h
      have hh := sOr (f :: es) _ S t X hX h3 (by simp) pos
      unfold chL at h3
      split at h3
      · exact pe_orE (sO e _ S t X hX h2) hh
      · cases h3
    · cases h
termination_by es _ _ _ _ _ _ _ _ => (sizeOf es, 0)
theorem sAndT : ∀ (es : List Ex) (xs : List Expr) (S : SE) (X : Cx), XOk G k S X → chL G.t S true es xs = true → es ≠ [] → ∀ (pos : Pos), PW X (.BoolOp .And xs pos) (tT G k X.K (.and es))
  | [], xs, S, X, hX, h, ne, _ => absurd rfl ne
  | [e], xs, S, X, hX, h, ne, pos => by
    unfold chL at h
    split at h
    · simp only [Bool.and_eq_true] at h
      obtain ⟨⟨h1, h2⟩, h3⟩ := h
      unfold chL at h3
      split at h3
      · exact pw_and1E (sT e _ S X hX h2)
      · cases h3
    · cases h
  | e :: f :: es, xs, S, X, hX, h, ne, pos => by
    unfold chL at h
    split at h
    · simp only [Bool.and_eq_true] at h
      obtain ⟨⟨h1, h2⟩, h3⟩ := h
      have hh := sAndT (f :: es) _ S X hX h3 (by simp) pos
      unfold chL at h3
      split at h3
      · exact pw_andE (sT e _ S X hX h2) hh
      · cases h3
    · cases h
termination_by es _ _ _ _ _ _ _ => (sizeOf es, 0)
theorem sOrT : ∀ (es : List Ex) (xs : List Expr) (S : SE) (X : Cx), XOk G k S X → chL G.t S true es xs = true → es ≠ [] → ∀ (pos : Pos), PW X (.BoolOp .Or xs pos) (tT G k X.K (.or es))
  | [], xs, S, X, hX, h, ne, _ => absurd rfl ne
  | [e], xs, S, X, hX, h, ne, pos => by
    unfold chL at h
    split at h
    · simp only [Bool.and_eq_true] at h
      obtain ⟨⟨h1, h2⟩, h3⟩ := h
      unfold chL at h3
      split at h3
      · exact pw_or1E (sT e _ S X hX h2)
      · cases h3
    · cases h
  | e :: f :: es, xs, S, X, hX, h, ne, pos => by
    unfold chL at h
    split at h
    · simp only [Bool.and_eq_true] at h
      obtain ⟨⟨h1, h2⟩, h3⟩ := h
      have hh := sOrT (f :: es) _ S X hX h3 (by simp) pos
      unfold chL at h3
      split at h3
      · exact pw_orE (sT e _ S X hX h2) hh
      · cases h3
    · cases h
termination_by es _ _ _ _ _ _ _ => (sizeOf es, 0)
theorem sB : ∀ (e : Option Ex) (x : Option Expr) (S : SE) (X : Cx), XOk G k S X → chO G.t S e x = true → PO X x (tBd G k X.K e)
  | none, x, S, X, hX, h => by
    unfold chO at h
    split at h
    · exact po_n
    · cases h
  | some e, x, S, X, hX, h => by
    unfold chO at h
    split at h
    · exact po_s (sO e _ S false X hX h)
    · cases h
termination_by e _ _ _ _ _ => (sizeOf e, 0)
theorem sC : ∀ (e : Option Ex) (x : List Expr) (S : SE) (X : Cx), XOk G k S X → chC G.t S e x = true → PTs X x (tC? G k X.K e)
  | none, x, S, X, hX, h => by
    unfold chC at h
    split at h
    · exact pts_nil
    · cases h
  | some e, x, S, X, hX, h => by
    unfold chC at h
    split at h
    · exact pts_one (sT e _ S X hX h)
    · cases h
termination_by e _ _ _ _ _ => (sizeOf e, 0)
theorem sR : ∀ (e : Ex) (x tg : Expr) (S : SE) (X : Cx), XOk G k S X → chR G.t S e x tg = true → PI X tg x (tI G k X.K e)
  | .bi b es, x, tg, S, X, hX, h => by
    unfold chR at h
    split at h
    · simp only [Bool.and_eq_true, decide_eq_true_eq] at h
      obtain ⟨⟨⟨⟨rfl, rfl⟩, h2⟩, h3⟩, h4⟩ := h
      have hos := sOs es _ S false X hX h4
      match es, h3 with
      | [e], _ =>
        unfold chL at h4
        split at h4
        · simp only [Bool.and_eq_true] at h4
          have h5 := h4.2
          unfold chL at h5
          split at h5
          · exact pi_rg1 (glb_ok hX h2) (fre_ok hX (by decide)) hos (nStar_ok h4.1.1)
          · cases h5
        · cases h4
    · cases h
  | .itr b [], x, tg, S, X, hX, h => by
    unfold chR at h
    split at h <;> simp at h
  | .itr b (_ :: _ :: _ :: _ :: _), x, tg, S, X, hX, h => by
    unfold chR at h
    split at h <;> simp at h
  | .itr b [e, f, g], x, tg, S, X, hX, h => by
    unfold chR at h
    split at h
    · rename_i n p0 xs pos
      simp only [Bool.and_eq_true, decide_eq_true_eq, Bool.or_eq_true] at h
      obtain ⟨⟨h1, h2⟩, h3⟩ := h
      have hos := sVs [e, f, g] _ S false X hX h2
      have hpl := fun (env : Env) (pos : Pos) => chL_plain (env := env) (pos := pos) h2
      unfold chL at h2
      split at h2
      · rename_i x1 xs1
        simp only [Bool.and_eq_true] at h2
        have h5 := h2.2
        have hp2 := chL_plain (env := X.env) (pos := pos) h5
        unfold chL at h5
        split at h5
        · rename_i x2 xs2
          simp only [Bool.and_eq_true] at h5
          have h6 := h5.2
          unfold chL at h6
          split at h6
          · rename_i x3 xs3
            simp only [Bool.and_eq_true] at h6
            have h7 := h6.2
            unfold chL at h7
            split at h7
            · rcases h3 with (((h3 | h3) | h3) | h3) | h3
              · exact absurd h3.2 (by simp)
              · obtain ⟨⟨rfl, rfl⟩, _⟩ := h3
                exact pi_rg3 (glb_ok hX h1) (fre_ok hX (by decide)) hos (nStar_ok h2.1.1) hp2
              · exact absurd h3.1.2 (by simp)
              · exact absurd h3.1.2 (by simp)
              · exact absurd h3.2 (by simp)
            · cases h7
          · cases h6
        · cases h5
      · cases h2
    · cases h
  | .itr b [e], x, tg, S, X, hX, h => by
    unfold chR at h
    split at h
    · rename_i n p0 xs pos
      simp only [Bool.and_eq_true, decide_eq_true_eq, Bool.or_eq_true] at h
      obtain ⟨⟨h1, h2⟩, h3⟩ := h
      have hos := sVs [e] _ S false X hX h2
      unfold chL at h2
      split at h2
      · rename_i x1 xs1
        simp only [Bool.and_eq_true] at h2
        have h5 := h2.2
        unfold chL at h5
        split at h5
        · rcases h3 with (((h3 | h3) | h3) | h3) | h3
          · exact absurd h3.2 (by simp)
          · exact absurd h3.2 (by simp)
          · exact absurd h3.1.2 (by simp)
          · obtain ⟨⟨⟨rfl, rfl⟩, _⟩, h4⟩ := h3
            cases tg <;> first | (cases h4; done) | skip
            exact pi_enumE (glb_ok hX h1) (fre_ok hX (by decide)) hos (nStar_ok h2.1.1)
          · obtain ⟨⟨rfl, rfl⟩, _⟩ := h3
            exact pi_revE (glb_ok hX h1) (fre_ok hX (by decide)) (sE e _ S false X hX h2.1.2) (nStar_ok h2.1.1)
        · cases h5
      · cases h2
    · cases h
  | .itr b [e, f], x, tg, S, X, hX, h => by
    unfold chR at h
    split at h
    · rename_i n p0 xs pos
      simp only [Bool.and_eq_true, decide_eq_true_eq, Bool.or_eq_true] at h
      obtain ⟨⟨h1, h2⟩, h3⟩ := h
      have hos := sVs [e, f] _ S false X hX h2
      unfold chL at h2
      split at h2
      · rename_i x1 xs1
        simp only [Bool.and_eq_true] at h2
        have h5 := h2.2
        unfold chL at h5
        split at h5
        · rename_i x2 xs2
          simp only [Bool.and_eq_true] at h5
          have h6 := h5.2
          unfold chL at h6
          split at h6
          · have n2 : starEach [x2] X.env = [(false, eval x2 X.env)] := nStar_ok h5.1.1
            have n1 : starEach [x1, x2] X.env = (false, eval x1 X.env) :: starEach [x2] X.env := nStar_ok h2.1.1
            rcases h3 with (((h3 | h3) | h3) | h3) | h3
            · obtain ⟨⟨rfl, rfl⟩, _⟩ := h3
              exact pi_rg2 (glb_ok hX h1) (fre_ok hX (by decide)) hos (n1.trans (by rw [n2])) n2
            · exact absurd h3.2 (by simp)
            · obtain ⟨⟨⟨rfl, rfl⟩, _⟩, h4⟩ := h3
              cases tg <;> first | (cases h4; done) | skip
              exact pi_zipE (glb_ok hX h1) (fre_ok hX (by decide)) hos n1 (by rw [n2]; rfl)
            · exact absurd h3.1.2 (by simp)
            · exact absurd h3.2 (by simp)
          · cases h6
        · cases h5
      · cases h2
    · cases h
  | .nm _, _, _, _, _, _, h => by simp [chR] at h
  | .k _, _, _, _, _, _, h => by simp [chR] at h
  | .gc _ _, _, _, _, _, _, h => by simp [chR] at h
  | .tup _, _, _, _, _, _, h => by simp [chR] at h
  | .lst _, _, _, _, _, _, h => by simp [chR] at h
  | .bin _ _ _, _, _, _, _, _, h => by simp [chR] at h
  | .neg _, _, _, _, _, _, h => by simp [chR] at h
  | .cmp _ _ _, _, _, _, _, _, h => by simp [chR] at h
  | .ch _ _ _ _ _, _, _, _, _, _, h => by simp [chR] at h
  | .and _, _, _, _, _, _, h => by simp [chR] at h
  | .or _, _, _, _, _, _, h => by simp [chR] at h
  | .not _, _, _, _, _, _, h => by simp [chR] at h
  | .ife _ _ _, _, _, _, _, _, h => by simp [chR] at h
  | .ix _ _, _, _, _, _, _, h => by simp [chR] at h
  | .sl _ _ _, _, _, _, _, _, h => by simp [chR] at h
  | .st _ _ _, _, _, _, _, _, h => by simp [chR] at h
  | .call _ _, _, _, _, _, _, h => by simp [chR] at h
  | .isi _ _, _, _, _, _, _, h => by simp [chR] at h
  | .mt _ _ _, _, _, _, _, _, h => by simp [chR] at h
  | .mu _ _ _, _, _, _, _, _, h => by simp [chR] at h
  | .lc _ _ _ _ _, _, _, _, _, _, h => by simp [chR] at h
  | .tupI _ _, _, _, _, _, _, h => by simp [chR] at h
  | .callx _ _, _, _, _, _, _, h => by simp [chR] at h
  | .callf _ _ _, _, _, _, _, _, h => by simp [chR] at h
  | .isx _ _, _, _, _, _, _, h => by simp [chR] at h
termination_by e _ _ _ _ _ _ => (sizeOf e, 0)
end
end
end G

/-! the check is right: statements -/
namespace G
open PySem PySem.Spec L2
section
variable {G : Gs} {k : Nat}
theorem ps_augE {S : SE} {X : Cx} (hX : XOk G k S X) {L : List Nat} {i : Nat} {n : Str} {op : Operator} {e : Ex} {x : Expr} {p pos : Pos} (hop : op = .Add ∨ op = .Sub) (hn : asn S i n = true) (hv : vis S i n = true) (hL : i ∉ L) (h : PE X x (tO G k X.K e)) :
    PS X (.AugAssign (.Name n p) op x pos) (tS G k L X.K (.aug i op e)) := by
  obtain ⟨h1, h2, h3⟩ := asn_loc hX hn
  have hN : X.N.Nodup := by rw [hX.hN]; exact hX.se.nd
  have main : ∃ f : Int → Int → Int, PIp X op (ipI f) ∧ ∀ a b z, binD op (.int a) (.int b) = some z → z.1 = .int (f a b) := by
    rcases hop with rfl | rfl
    · exact ⟨_, ip_add, fun a b z h => by cases h; rfl⟩
    · exact ⟨_, ip_sub, fun a b z h => by cases h; rfl⟩
  obtain ⟨f, hf, hz⟩ := main
  refine (ps_aug hN h1 h2 h hf h3).weak fun D σ H ⟨S, ρ, r, rl, ev, post⟩ => ?_
  simp only [Gs.xs, exS] at ev
  split at ev
  · rename_i a qa
    obtain ⟨⟨o, ρ1⟩, e1, ev⟩ := R.bind_ok ev
    split at ev
    · rename_i b qb
      obtain ⟨z, e2, ev⟩ := opt_ok ev
      obtain ⟨ρ2, e3, ev⟩ := opt_ok ev
      cases ev
      obtain ⟨v, z1, z2⟩ := rl.val i _ qa
      refine ⟨v, z1, S, ρ, o, ρ1, rl, e1, fun w H1 S1 g ov => ⟨a, b, (by cases z2; rfl), (ov.get g.rl qb).int, ?_⟩⟩
      have e4 : asgT (.nm i) (.val (.int (f a b))) ρ1 = some ρ2 := by rw [← hz a b z e2]; exact e3
      exact asg_mid (ow := false) (fr := false) (d := .int (f a b)) hL g (by unfold RV; exact Rep.int _) e4 post
    · cases ev
  · cases ev
end
section
variable (G : Gt)
/-- name = [..] on the name's line: the stores are exchanged -/
def swp (S : SE) (n : Str) (p : Pos) (x : Expr) : Bool := match x with
  | .ListComp _ _ scope _ => decide (S.sc.names.lookup n = some .local) && (p.line == x.pos.line) && !(scope.names.any fun (m, k) => m == n && (k == .local || k == .cell))
  | _ => false
def notTup : Expr → Bool
  | .Tuple .. => false
  | _ => true
/-- a statement without statements in it, that raises nothing -/
def chS0 (S : SE) (L : List Nat) : Sm → Stmt → Bool
  | .asg tg ow e, z => match z with
    | .Assign [y] x _ => (match tg with
      | .nm i => (match y with
        | .Name n p => asn S i n && !L.contains i && chE G S false e x && (swp S n p x || notComp x || decide (S.sc.names.lookup n ≠ some .local) || (match x with
            | .ListComp _ _ _ q => p.line != q.line
            | _ => false))
        | _ => false)
      | .tup ts => chTg S (.tup ts) y && ((tgsSlots ts).all fun i => !L.contains i) && chE G S false e x && notComp x && notTup x)
    | _ => false
  | .seti i j e, z => match z with
    | .Assign [.Subscript (.Name n _) y _] x _ => vis S i n && plainX y && chE G S false j y && chE G S false e x && notComp x
    | _ => false
  | .aug i op e, z => match z with
    | .AugAssign (.Name n _) op' x _ => decide (op = op') && (decide (op = .Add) || decide (op = .Sub)) && asn S i n && vis S i n && !L.contains i && chE G S false e x
    | _ => false
  | .ex e, z => match z with
    | .Expr x _ => notComp x && chE G S false e x
    | _ => false
  | .ret e, z => match z with
    | .Return (some x) _ => chE G S false e x
    | _ => false
  | .pas, z => match z with
    | .Pass _ => true
    | _ => false
  | .bad, _ => true
  | _, _ => false
def noXS : Sm → Bool
  | .asg _ _ e => noX e
  | .seti _ j e => noX j && noX e
  | .aug _ _ e => noX e
  | .ex e => noX e
  | .ret e => noX e
  | .pas => true
  | .bad => true
  | _ => false
/-- an expression that may raise -/
def chX (S : SE) : Ex → Expr → Bool
  | .callx f es, x => match x with
    | .Call (.Name n _) xs [] _ => !S.hot && decide (G.hot f = false) && decide (G.nm f = some n) && (G.T f).isSome && glb S n && noDbg n && !es.isEmpty && noXs es && chL G S false es xs
    | _ => false
  | .mu m i es, x => match x with
    | .Call (.Attribute (.Name v _) n ap) [y] [] p => decide (m = 0) && decide (n = "append") && sameLine ap p && vis S i v && nStar y && (match es with
      | [.callx f es] => (match y with
        | .Call (.Name n _) xs [] _ => !S.hot && decide (G.hot f = false) && decide (G.nm f = some n) && (G.T f).isSome && glb S n && noDbg n && !es.isEmpty && noXs es && chL G S false es xs
        | _ => false)
      | _ => false)
    | _ => false
  | _, _ => false
/-- a statement that may raise -/
def chS1 (S : SE) (L : List Nat) : Sm → Stmt → Bool
  | .asg tg _ e, z => match z with
    | .Assign [.Name n _] x _ => (match tg with
      | .nm i => asn S i n && !L.contains i && notComp x && chX G S e x
      | _ => false)
    | _ => false
  | .ex e, z => match z with
    | .Expr x _ => notComp x && chX G S e x
    | _ => false
  | .ret e, z => match z with
    | .Return (some x) _ => chX G S e x
    | _ => false
  | .raiv c e, z => match z with
    | .Raise (some (.Call (.Name n _) [x] [] _)) none _ => !S.hot && decide (G.en c = some n) && glb S n && noDbg n && nStar x && noX e && chE G S false e x
    | _ => false
  | .rai c, z => match z with
    | .Raise (some (.Call (.Name n _) [.Constant (.str _) _ _] [] _)) none _ => !S.hot && decide (G.en c = some n) && glb S n && noDbg n
    | _ => false
  | _, _ => false
mutual
def chS (S : SE) (L : List Nat) : Sm → Stmt → Bool
  | .ife c a b, z => match z with
    | .If xc za zb _ => noX c && chE G S true c xc && chSs S L a za && chSs S L b zb
    | _ => false
  | .whl c b, z => match z with
    | .While xc zb [] _ => !S.hot && noX c && chE G S true c xc && chSs S L b zb
    | _ => false
  | .for tg it b, z => match z with
    | .For x y zb [] _ => !S.hot && noX it && chTg S tg x && (chE G S false it y || chR G S it y x) && notSet y && (match it with
        | .nm i => chSs S (i :: L) b zb && (tgSlots tg).all fun j => !(i :: L).contains j
        | _ => chSs S L b zb && (tgSlots tg).all fun j => !L.contains j)
    | _ => false
  | .tri b i hs u, z => match z with
    | .Try zb [.ExceptHandler (some (.Name x _)) (some n) (z0 :: zu) _] [] [] _ => !S.hot && decide (S.N[i]? = some n) && decide (S.sc.names.lookup n = some .local) && glb S x && noDbg x && !L.contains i && !hs.isEmpty && (hs.all fun c => (G.en c).isSome) &&
        ((List.range G.nc).all fun j => decide (G.exm j x = some (hs.contains j)) || (G.en j).isNone) && chSs S L b zb && chSs { S with hot := true } L u (z0 :: zu)
    | _ => false
  | s, z => (noXS s && chS0 G S L s z) || chS1 G S L s z
def chSs (S : SE) (L : List Nat) : List Sm → List Stmt → Bool
  | [], z => match z with
    | [] => true
    | _ => false
  | s :: r, z => match z with
    | z :: zs => chS S L s z && chSs S L r zs
    | _ => false
end
end
section
variable {G : Gs} {k : Nat}
theorem swaps_no {x : Expr} {o : Option Expr} {l : Nat} {env : Env} (h : notComp x = true) : swapsWith x o l env = pure false := by
  cases x <;> first | rfl | cases h
theorem stores_no {x y : Expr} {env : Env} (h : notTup x = true) : swappedStores [y] x env = pure none := by
  cases x <;> first | (cases h; done) | skip
  all_goals (cases y <;> rfl)
theorem stores_nm {x : Expr} {n : Str} {p : Pos} {env : Env} : swappedStores [.Name n p] x env = pure none := by
  cases x <;> rfl
theorem stores_sub {x a b : Expr} {p : Pos} {env : Env} : swappedStores [.Subscript a b p] x env = pure none := by
  cases x <;> rfl
theorem swaps_cell {xe : Expr} {gs : List Comprehension} {sc : Scope} {q p : Pos} {n : Str} {l : Nat} {env : Env} (h : env.scope.names.lookup n ≠ some .local) : swapsWith (.ListComp xe gs sc q) (some (.Name n p)) l env = pure false := by
  have : (env.kindOf n == some NameKind.local) = false := by
    show (env.scope.names.lookup n == some NameKind.local) = false
    simpa using h
  unfold swapsWith
  simp only [this, Bool.and_false, Bool.false_and]
theorem swaps_line {xe : Expr} {gs : List Comprehension} {sc : Scope} {q p : Pos} {n : Str} {l : Nat} {env : Env} (h : (p.line == q.line) = false) : swapsWith (.ListComp xe gs sc q) (some (.Name n p)) l env = pure false := by
  unfold swapsWith
  simp only [Expr.pos, h, Bool.and_false, Bool.false_and]
theorem lc_set {S : SE} {X : Cx} (hX : XOk G k S X) {L : List Nat} {i : Nat} {n : Str} {p pos q : Pos} {xe : Expr} {gs : List Comprehension} {scope : Scope} {e : Ex} {ow : Bool} (ha : asn S i n = true) (hL : i ∉ L) (h : chE G.t S false e (.ListComp xe gs scope q) = true) (hs : swp S n p (.ListComp xe gs scope q) = true) :
    PS X (.Assign [.Name n p] (.ListComp xe gs scope q) pos) (tS G k L X.K (.asg (.nm i) ow e)) := by
  cases e <;> first | (unfold chE at h; cases h; done) | skip
  case isx => unfold chE at h; simp at h
  case lc own elt tg it c =>
    obtain ⟨h1, hN, _⟩ := asn_loc hX ha
    simp only [swp, Bool.and_eq_true, decide_eq_true_eq, Bool.not_eq_true'] at hs
    obtain ⟨⟨s1, s2⟩, s3⟩ := hs
    simp only [chE] at h
    · split at h
      · rename_i tx ix ifs z
        simp only [Bool.and_eq_true, decide_eq_true_eq] at h
        obtain ⟨⟨⟨⟨⟨⟨⟨⟨⟨hS, rfl⟩, h2⟩, h3⟩, h4⟩, h5⟩, h6⟩, h7⟩, h8⟩, h9⟩ := h
        have hS : S.hot = false := by simpa using hS
        split at h2
        · rename_i pp hp
          have ow := ownP_ok hp
          have hi : PI X tx ix (tI G k X.K it) := by
            rw [Bool.or_eq_true] at h7
            rcases h7 with h7 | h7
            · exact pi_E (sO it _ S false X hX h7)
            · exact sR it _ tx S X hX h7
          have hk : X.env.scope.kind = .function := by rw [hX.hsc]; exact hX.se.kd
          have hl : X.env.scope.names.lookup n = some .local := by rw [hX.hsc]; exact s1
          have main := ps_setLc (py := p) (spos := pos) (te := tV G k X.K elt) (tt := tC? G k X.K c) (g := tG X.K G.fa (tgSlots tg) fun d ρ => asgT tg (.val d) ρ) (hX.cold hS).calm (by rw [hX.hN]; exact hX.se.nd) h1 hl (sw_true hk hl s2 s3) hi (own := pp) (by rw [hX.hN, hX.hsc]; exact blkOk_by h2)
            (fun s H C cl fp => tg_ok (hX.blk hS h2 s H C cl fp) tg _ h3) (fun s H C cl fp => sC c _ (S.in _) _ (hX.blk hS h2 s H C cl fp) h8)
            (fun s H C cl fp => pe_v (sE elt _ (S.in _) false _ (hX.blk hS h2 s H C cl fp) h9)) (fun w => notSet_ok h6 w)
          rw [ow] at main
          refine ps_asgLc main (fun i hi => ?_) (fun i hi => ?_) hL
          · have := List.all_eq_true.mp h4 i hi
            simpa using this
          · subst hi
            simpa using h5
        · cases h2
      · cases h
theorem sub_asg {o y : Expr} {p : Pos} {env : Env} (h : plainX y = true) (v : Value) : assign (.Subscript o y p) env v = (do
    let ov ← holding [v] (eval o env)
    let iv ← holding [v, ov] (eval y env)
    standAt p
    holding [v, ov, iv] (setItem ov iv v)
    release [v, ov, iv] []) := by
  cases y <;> first | rfl | cases h
theorem sole_no {x y : Expr} {l : Nat} {env : Env} (h : notComp x = true) : swapsWithSole [y] x l env = pure false :=
  show swapsWith x (some y) l env = pure false from swaps_no h
theorem asg1 {y : Expr} {env : Env} (h : nStar y = true) : (assignEach [y] env).map (·.2) = [assign y env] := by rw [nStar_asg h]; rfl
theorem sS0 : ∀ (s : Sm) (z : Stmt) (S : SE) (L : List Nat) (X : Cx), XOk G k S X → chS0 G.t S L s z = true → PS X z (tS G k L X.K s)
  | .asg tg ow e, z, S, L, X, hX, h => by
    dsimp only [chS0] at h
    split at h
    · rename_i y x pos
      split at h
      · rename_i i
        split at h
        · rename_i n p
          simp only [Bool.and_eq_true, Bool.not_eq_true', List.contains_eq_mem, decide_eq_false_iff_not] at h
          obtain ⟨⟨⟨h1, h2⟩, h3⟩, h4⟩ := h
          have gen : swapsWith x (some (.Name n p)) pos.line X.env = pure false → PS X (.Assign [.Name n p] x pos) (tS G k L X.K (.asg (.nm i) ow e)) := fun hs =>
            ps_asgN (sE e _ S false X hX h3) (asn_ok hX h1) h2 hs stores_nm rfl
          simp only [Bool.or_eq_true] at h4
          rcases h4 with ((h4 | h4) | h4) | h4
          · cases x <;> first | (cases h4; done) | skip
            exact lc_set hX h1 h2 h3 h4
          · exact gen (swaps_no h4)
          · by_cases nc : notComp x = true
            · exact gen (swaps_no nc)
            · cases x <;> first | exact absurd rfl nc | skip
              · exact gen (swaps_cell (by rw [hX.hsc]; simpa using h4))
              · exfalso
                cases e <;> simp_all [chE]
              · exfalso
                cases e <;> simp_all [chE]
          · split at h4
            · exact gen (swaps_line (by simpa using h4))
            · cases h4
        · cases h
      · rename_i ts
        simp only [Bool.and_eq_true] at h
        obtain ⟨⟨⟨⟨h1, h2⟩, h3⟩, h4⟩, h5⟩ := h
        have hy : nStar y = true := by
          unfold chTg at h1
          split at h1
          · rfl
          · cases h1
        refine ps_asgT (sE e _ S false X hX h3) (tg_ok hX (.tup ts) _ h1) (fun i hi => ?_) (swaps_no h4) (stores_no h5) (asg1 hy)
        have := List.all_eq_true.mp h2 i (by simpa [tgSlots] using hi)
        simpa using this
    · cases h
  | .seti i j e, z, S, L, X, hX, h => by
    dsimp only [chS0] at h
    split at h
    · simp only [Bool.and_eq_true] at h
      obtain ⟨⟨⟨⟨h1, h2⟩, h3⟩, h4⟩, h5⟩ := h
      have hj := sO j _ S false X hX h3
      exact ps_setiE (sE e _ S false X hX h4) (var_ok hX h1) hj (pg_sub (var_ok hX h1) hj set_list (sub_asg h2)) (sole_no h5) stores_sub rfl
    · cases h
  | .aug i op e, z, S, L, X, hX, h => by
    dsimp only [chS0] at h
    split at h
    · simp only [Bool.and_eq_true, decide_eq_true_eq, Bool.or_eq_true, Bool.not_eq_true', List.contains_eq_mem, decide_eq_false_iff_not] at h
      obtain ⟨⟨⟨⟨⟨rfl, h1⟩, h2⟩, h3⟩, h4⟩, h5⟩ := h
      exact ps_augE hX h1 h2 h3 h4 (sO e _ S false X hX h5)
    · cases h
  | .ex e, z, S, L, X, hX, h => by
    dsimp only [chS0] at h
    split at h
    · simp only [Bool.and_eq_true] at h
      exact ps_exE (sE e _ S false X hX h.2) (swaps_no h.1)
    · cases h
  | .ret e, z, S, L, X, hX, h => by
    dsimp only [chS0] at h
    split at h
    · by_cases q : ∃ i, e = .nm i
      · obtain ⟨i, rfl⟩ := q
        unfold chE at h
        split at h
        · exact ps_retN (var_ok hX h)
        · cases h
      · exact ps_retE (sE e _ S false X hX h) fun i e' => q ⟨i, e'⟩
    · cases h
  | .pas, z, S, L, X, hX, h => by
    dsimp only [chS0] at h
    split at h
    · exact ps_pasE
    · cases h
  | .bad, z, S, L, X, hX, h => ps_badE
  | .ife _ _ _, z, S, L, X, hX, h => by simp [chS0] at h
  | .whl _ _, z, S, L, X, hX, h => by simp [chS0] at h
  | .for _ _ _, z, S, L, X, hX, h => by simp [chS0] at h
  | .rai _, z, S, L, X, hX, h => by simp [chS0] at h
  | .raiv _ _, z, S, L, X, hX, h => by simp [chS0] at h
  | .tri _ _ _ _, z, S, L, X, hX, h => by simp [chS0] at h
theorem leaf_nx : ∀ (s : Sm), noXS s = true → ∀ ρ, (G.xs k s ρ).nx
  | .asg tg ow e, h, ρ => by simp only [Gs.xs, exS]; exact R.nx_bind (evE_nx e h ρ) fun _ => opt_nx fun _ => ok_nx
  | .seti i j e, h, ρ => by
    simp only [Gs.xs, exS]
    refine R.nx_bind (evE_nx e (and2 h).2 ρ) fun _ => ite_nx (R.nx_bind (od_nx (evE_nx j (and2 h).1 _)) fun _ => ?_) bad_nx
    split
    · exact opt_nx fun _ => ok_nx
    · exact bad_nx
  | .aug i op e, h, ρ => by
    simp only [Gs.xs, exS]
    split
    · refine R.nx_bind (od_nx (evE_nx e h ρ)) fun _ => ?_
      split
      · exact opt_nx fun _ => opt_nx fun _ => ok_nx
      · exact bad_nx
    · exact bad_nx
  | .ex e, h, ρ => by simp only [Gs.xs, exS]; exact R.nx_bind (evE_nx e h ρ) fun _ => ok_nx
  | .ret e, h, ρ => by
    by_cases q : ∃ i, e = .nm i
    · obtain ⟨i, rfl⟩ := q
      simp only [Gs.xs, exS]
      split
      · exact ok_nx
      · exact ok_nx
      · exact bad_nx
    · have e0 : G.xs k (.ret e) ρ = (G.ev k e ρ).bind fun x => .ok (.rt x.1 x.2.1, x.2.2) := by
        cases e <;> first | rfl | exact absurd ⟨_, rfl⟩ q
      rw [e0]
      exact R.nx_bind (evE_nx e h ρ) fun _ => ok_nx
  | .pas, _, ρ => by simp only [Gs.xs, exS]; exact ok_nx
  | .bad, _, ρ => by simp only [Gs.xs, exS]; exact bad_nx
  | .ife _ _ _, h, ρ => by cases h
  | .whl _ _, h, ρ => by cases h
  | .for _ _ _, h, ρ => by cases h
  | .rai _, h, ρ => by cases h
  | .raiv _ _, h, ρ => by cases h
  | .tri _ _ _ _, h, ρ => by cases h
theorem sXc {W : WX} {f : Nat} {es : List Ex} {n : Str} {p pos : Pos} {xs : List Expr} {S : SE} {X : Cx} (hX : XOk G k S X) (tk : Takes X W) (h : (!S.hot && decide (G.t.hot f = false) && decide (G.t.nm f = some n) && (G.t.T f).isSome && glb S n && noDbg n && !es.isEmpty && noXs es && chL G.t S false es xs) = true) :
    PE X (.Call (.Name n p) xs [] pos) (tX G k W X.K (.callx f es)) := by
  simp only [Bool.and_eq_true, decide_eq_true_eq, Bool.not_eq_true'] at h
  obtain ⟨⟨⟨⟨⟨⟨⟨⟨hS, h0⟩, h1⟩, h2⟩, h3⟩, h4⟩, h5⟩, h6⟩, h7⟩ := h
  have cd := hX.cold hS
  obtain ⟨fd, hT⟩ := Option.isSome_iff_exists.mp h2
  obtain ⟨a, ha, hf⟩ := hX.glo.nm _ _ h1
  obtain ⟨a', fdat, ps, q1, q2, q3, q4, q5⟩ := cd.fns f fd hT h0
  rw [hf] at q1
  cases q1
  have hos := sOs es _ S false X hX h7
  cases es with
  | nil => simp at h5
  | cons e es =>
    unfold chL at h7
    split at h7
    · simp only [Bool.and_eq_true] at h7
      exact pe_callxE hT h6 tk q5 cd.room (glb_ok hX h3) ha q2 q3 hos (noDbg_ok h4) (nStar_ok h7.1.1) (chL_plain h7.2)
    · cases h7
theorem sX {W : WX} : ∀ (e : Ex) (x : Expr) (S : SE) (X : Cx), XOk G k S X → Takes X W → chX G.t S e x = true → PE X x (tX G k W X.K e) := fun e x S X hX tk h => by
  unfold chX at h
  split at h
  · split at h
    · exact sXc hX tk h
    · cases h
  · split at h
    · rename_i m i es v vp n ap y p
      simp only [Bool.and_eq_true] at h
      obtain ⟨⟨⟨⟨⟨h1, h2⟩, h3⟩, h4⟩, h5⟩, h6⟩ := h
      have h1 := of_decide_eq_true h1
      have h2 := of_decide_eq_true h2
      subst h1 h2
      split at h6
      · rename_i f es2
        split at h6
        · rename_i n2 p2 xs2 pos2
          have he : starEach [.Call (.Name n2 p2) xs2 [] pos2] X.env = [(false, eval (.Call (.Name n2 p2) xs2 [] pos2) X.env)] := nStar_ok (xs := []) (env := X.env) h5
          have hf : ((backTo p (starEach [.Call (.Name n2 p2) xs2 [] pos2] X.env)).all (fun x => !x.1) && (backToKw p (keywordEach [] X.env)).all (fun x => x.1.isSome) && decide (([.Call (.Name n2 p2) xs2 [] pos2] : List Expr).length + ([] : List Keyword).length + (if ([] : List Keyword).isEmpty then 0 else 1) < 30)) = true := by rw [he]; rfl
          exact (pe_bm PySem.F.plainAttrs_list PySem.F.slot_list_append PySem.F.type_list_append mt_append (var_ok hX h4) (pa_cons (pe_xv (sXc hX tk h6)) pa_nil he) rfl hf h3 he rfl).weak fun σ H Q h => mu_appX h
        · cases h6
      · cases h6
    · cases h
  · cases h
theorem chX_nm {S : SE} {e : Ex} {x : Expr} (h : chX G.t S e x = true) : ∀ i, e ≠ .nm i := fun i z => by
  subst z
  simp [chX] at h
theorem sS1 {W : WX} (s : Sm) (z : Stmt) (S : SE) (L : List Nat) (X : Cx) (hX : XOk G k S X) (tk : Takes X W) (h : chS1 G.t S L s z = true) : PS X z (tW G k W L X.K s) := by
  unfold chS1 at h
  split at h
  · split at h
    · split at h
      · simp only [Bool.and_eq_true, Bool.not_eq_true', List.contains_eq_mem, decide_eq_false_iff_not] at h
        obtain ⟨⟨⟨h1, h2⟩, h3⟩, h4⟩ := h
        exact ps_asgX (sX _ _ S X hX tk h4) (asn_ok hX h1) h2 (sole_no h3) stores_nm rfl
      · cases h
    · cases h
  · split at h
    · simp only [Bool.and_eq_true] at h
      exact ps_exX (sX _ _ S X hX tk h.2) (swaps_no h.1)
    · cases h
  · split at h
    · exact ps_retX (sX _ _ S X hX tk h) (chX_nm h)
    · cases h
  · split at h
    · simp only [Bool.and_eq_true, decide_eq_true_eq, Bool.not_eq_true'] at h
      obtain ⟨⟨⟨⟨⟨⟨hS, h1⟩, h2⟩, h3⟩, h4⟩, h5⟩, h6⟩ := h
      obtain ⟨C, z1, z2, z3, z4, z5, z6⟩ := hX.glo.exc _ _ h1
      exact ps_raivW (sE _ _ S false X hX h6) h5 (nStar_ok h4) (hX.cold hS).calm tk z1 z4 z2 z3 z5 z6 (glb_ok hX h2) (noDbg_ok h3)
    · cases h
  · split at h
    · simp only [Bool.and_eq_true, decide_eq_true_eq, Bool.not_eq_true'] at h
      obtain ⟨⟨⟨hS, h1⟩, h2⟩, h3⟩ := h
      obtain ⟨C, z1, z2, z3, z4, z5, z6⟩ := hX.glo.exc _ _ h1
      exact ps_raiW (hX.cold hS).calm tk z1 z4 z2 z3 z5 z6 (glb_ok hX h2) (noDbg_ok h3)
    · cases h
  · cases h
theorem sLeaf {W : WX} (s : Sm) (z : Stmt) (S : SE) (L : List Nat) (X : Cx) (hX : XOk G k S X) (tk : Takes X W) (h : ((noXS s && chS0 G.t S L s z) || chS1 G.t S L s z) = true) : PS X z (tW G k W L X.K s) := by
  rw [Bool.or_eq_true, Bool.and_eq_true] at h
  rcases h with ⟨h1, h2⟩ | h
  · exact ps_leaf (sS0 s z S L X hX h2) (leaf_nx s h1)
  · exact sS1 s z S L X hX tk h
theorem GlobOk.withX {K : PySem.W.Frag} {mg : Str → Option Value} (g : GlobOk G K mg) (hf : ∀ c, G.fa (1000000 + c) = none) (c : Nat) (a : Addr) : GlobOk (G.withX c a) K mg where
  nm := fun f x e => by
    obtain ⟨b, h1, h2⟩ := g.nm f x e
    exact ⟨b, h1, withX_more hf c a _ _ h2⟩
  fre := g.fre
  gc := fun i x d e => by
    obtain ⟨u, v, h1, h2, h3⟩ := g.gc i x d e
    exact ⟨u, v, h1, h2, h3.more (withX_more hf c a)⟩
  exc := g.exc
  ecn := g.ecn
  exm := g.exm
  isn := g.isn
theorem XOk.suite {S : SE} {X : Cx} (hX : XOk G k S X) (hS : S.hot = false) {c : Nat} {C a : Addr} {oe : Obj} (e : G.ec c = some C) (ca : Caught C oe) (pn : List (Addr × Obj)) : XOk (G.withX c a) k { S with hot := true } (X.suite a ((a, oe) :: pn)) where
  cold := fun z => Bool.noConfusion z
  hot := fun _ => ⟨c, C, (a, oe), e, ca, List.mem_cons_self, (fun n b q => by
      have q : (if 1000000 + n = 1000000 + c then some a else G.fa (1000000 + n)) = some b := q
      split at q
      · cases q; exact ⟨by omega, rfl⟩
      · rw [(hX.cold hS).fai] at q; cases q), ⟨(hX.cold hS).room.dp, (hX.cold hS).room.un⟩, fun f fd hT hh => by
      obtain ⟨b, fdat, ps, q1, q2, q3, q4, q5⟩ := (hX.cold hS).hfn c C (a, oe) e ca f fd hT hh
      exact ⟨b, fdat, ps, withX_more (hX.cold hS).fai c a _ _ q1, q2, q3, q4, q5⟩⟩
  glo := hX.glo.withX (hX.cold hS).fai c a
  hN := hX.hN
  se := ⟨hX.se.nd, hX.se.kd, hX.se.dbg⟩
  hsc := hX.hsc
  small := hX.small
  fn := hX.fn
mutual
theorem sS : ∀ (G : Gs) (W : WX) (s : Sm) (z : Stmt) (S : SE) (L : List Nat) (X : Cx), XOk G k S X → BodyX S.hot X W → chS G.t S L s z = true → PS X z (tW G k W L X.K s)
  | G, W, .ife c a b, z, S, L, X, hX, bx, h => by
    unfold chS at h
    split at h
    · simp only [Bool.and_eq_true] at h
      exact ps_ifW h.1.1.1 (sT c _ S X hX h.1.1.2) (sSs G W a _ S L X hX bx h.1.2) (sSs G W b _ S L X hX bx h.2)
    · cases h
  | G, W, .whl c b, z, S, L, X, hX, bx, h => by
    unfold chS at h
    split at h
    · simp only [Bool.and_eq_true] at h
      exact ps_whlW h.1.1.2 (bx.ps (by simpa using h.1.1.1)) (sT c _ S X hX h.1.2) (sSs G W b _ S L X hX bx h.2)
    · cases h
  | G, W, .for tg it b, z, S, L, X, hX, bx, h => by
    unfold chS at h
    split at h
    · rename_i x y zb pos
      simp only [Bool.and_eq_true] at h
      obtain ⟨⟨⟨⟨⟨hS, h0⟩, h1⟩, h2⟩, h3⟩, h4⟩ := h
      have hS : S.hot = false := by simpa using hS
      have hi : PI X x y (tI G k X.K it) := by
        rw [Bool.or_eq_true] at h2
        rcases h2 with h2 | h2
        · exact pi_E (sO it _ S false X hX h2)
        · exact sR it _ x S X hX h2
      split at h4
      · rename_i i
        simp only [Bool.and_eq_true] at h4
        refine ps_forW h0 (bx.ps hS) (hX.cold hS).calm hi (tg_ok hX tg _ h1) (Lb := i :: L) (sSs G W b _ S _ X hX bx h4.1) (fun j hj => List.mem_cons_of_mem _ hj) (fun j hj => by cases hj; simp) (fun j hj => ?_) (notSet_ok h3)
        have := List.all_eq_true.mp h4.2 j hj
        simpa using this
      · rename_i ni
        simp only [Bool.and_eq_true] at h4
        refine ps_forW h0 (bx.ps hS) (hX.cold hS).calm hi (tg_ok hX tg _ h1) (Lb := L) (sSs G W b _ S _ X hX bx h4.1) (fun j hj => hj) (fun j hj => absurd hj (ni j)) (fun j hj => ?_) (notSet_ok h3)
        have := List.all_eq_true.mp h4.2 j hj
        simpa using this
    · cases h
  | G, W, .asg a b c, z, S, L, X, hX, bx, h => sLeaf _ z S L X hX bx.tk (by unfold chS at h; exact h)
  | G, W, .seti a b c, z, S, L, X, hX, bx, h => sLeaf _ z S L X hX bx.tk (by unfold chS at h; exact h)
  | G, W, .aug a b c, z, S, L, X, hX, bx, h => sLeaf _ z S L X hX bx.tk (by unfold chS at h; exact h)
  | G, W, .ex a, z, S, L, X, hX, bx, h => sLeaf _ z S L X hX bx.tk (by unfold chS at h; exact h)
  | G, W, .ret a, z, S, L, X, hX, bx, h => sLeaf _ z S L X hX bx.tk (by unfold chS at h; exact h)
  | G, W, .pas, z, S, L, X, hX, bx, h => sLeaf _ z S L X hX bx.tk (by unfold chS at h; exact h)
  | G, W, .bad, z, S, L, X, hX, bx, h => sLeaf _ z S L X hX bx.tk (by unfold chS at h; exact h)
  | G, W, .raiv a b, z, S, L, X, hX, bx, h => sLeaf _ z S L X hX bx.tk (by unfold chS at h; exact h)
  | G, W, .rai a, z, S, L, X, hX, bx, h => sLeaf _ z S L X hX bx.tk (by unfold chS at h; exact h)
  | G, W, .tri b i hs u, z, S, L, X, hX, bx, h => by
    unfold chS at h
    split at h
    · rename_i zb x np n z0 zu pos2 pos
      simp only [Bool.and_eq_true, decide_eq_true_eq, Bool.not_eq_true', List.contains_eq_mem, decide_eq_false_iff_not] at h
      obtain ⟨⟨⟨⟨⟨⟨⟨⟨⟨⟨hS, h1⟩, h2⟩, h3⟩, h4⟩, h5⟩, h6⟩, h7⟩, h8⟩, h9⟩, h10⟩ := h
      have cd := hX.cold hS
      have hex : ∀ c C, G.ec c = some C → ∃ D, X.mg x = some (.ref D) ∧ PySem.W.exmOne X.K (.ref C) (.ref D) = some (hs.contains c) := fun c C e => by
        obtain ⟨nm, e0, lt⟩ := hX.glo.ecn _ _ e
        have := List.all_eq_true.mp h8 c (List.mem_range.mpr lt)
        rw [Bool.or_eq_true] at this
        rcases this with this | this
        · obtain ⟨C', D, q1, q2, q3⟩ := hX.glo.exm _ _ _ (of_decide_eq_true this)
          rw [e] at q1
          cases q1
          exact ⟨D, q2, by simpa using q3⟩
        · have e0 : G.t.en c = some nm := e0
          rw [e0] at this
          cases this
      have hhs : ∀ c, hs.contains c = true → ∃ C, G.ec c = some C := fun c hc => by
        obtain ⟨nm, e0⟩ := Option.isSome_iff_exists.mp (List.all_eq_true.mp h7 c (by simpa using hc))
        obtain ⟨C, e1, _⟩ := hX.glo.exc c nm e0
        exact ⟨C, e1⟩
      obtain ⟨D, hD⟩ : ∃ D, X.mg x = some (.ref D) := by
        cases hs with
        | nil => simp at h6
        | cons c hs =>
          obtain ⟨C, e⟩ := hhs c (by simp)
          obtain ⟨D, e, _⟩ := hex c C e
          exact ⟨D, e⟩
      refine ps_triW (cv := .ref D) cd.fai (bx.hs hS) (bx.hf hS) (by rw [hX.hN]; exact hX.se.nd) (by rw [hX.hN]; exact h1) (by show X.env.scope.names.lookup n = _; rw [hX.hsc]; exact h2) ⟨glb_ok hX h3, noDbg_ok h4, .inl hD⟩ h5 bx.tk (fun c C e => ?_) hhs (fun W2 pn xe tk2 ps2 => ?_) (fun c C a oe pn e ca => ?_)
      · obtain ⟨D2, e1, e2⟩ := hex c C e
        rw [hD] at e1
        cases e1
        exact e2
      · exact sSs G W2 b zb S L (X.tr pn xe) ⟨fun _ => ⟨cd.fns, cd.hfn, cd.room, cd.calm, cd.fai⟩, (fun z => by rw [hS] at z; cases z), hX.glo, hX.hN, hX.se, hX.hsc, hX.small, hX.fn⟩ ⟨tk2, fun _ => ps2, fun _ => bx.hs hS, fun _ => bx.hf hS⟩ h9
      · exact sSs (G.withX c a) WF u (z0 :: zu) { S with hot := true } L (X.suite a ((a, oe) :: pn)) (hX.suite hS e ca pn) ⟨takes_F, fun z => Bool.noConfusion z, fun z => Bool.noConfusion z, fun z => Bool.noConfusion z⟩ h10
    · cases h
termination_by _ _ s _ _ _ _ _ _ _ => (sizeOf s, 0)
theorem sSs : ∀ (G : Gs) (W : WX) (s : List Sm) (z : List Stmt) (S : SE) (L : List Nat) (X : Cx), XOk G k S X → BodyX S.hot X W → chSs G.t S L s z = true → PSs X z (tWs G k W L X.K s)
  | G, W, [], z, S, L, X, hX, bx, h => by
    unfold chSs at h
    split at h
    · exact pss_nilW
    · cases h
  | G, W, s :: r, z, S, L, X, hX, bx, h => by
    unfold chSs at h
    split at h
    · simp only [Bool.and_eq_true] at h
      exact pss_consW (sS G W s _ S L X hX bx h.1) (sSs G W r _ S L X hX bx h.2)
    · cases h
termination_by _ _ s _ _ _ _ _ _ _ => (sizeOf s, 0)
end
end
end G

/-! a program of defs: all keep their promises; the law's end -/
namespace G
open PySem PySem.Spec L2
/-- a def of the top: where it stands, its name, parameters, slots, its small form -/
structure Df where
  ix : Nat
  name : Str
  ps : List Str
  N : List Str
  fd : Fd
  /-- called in except suites alone -/
  hot : Bool
/-- a constant of the top -/
inductive Kn where
  | int (x : Str) (i : Int)
  | str (x : Str) (z : List Nat)
  /-- a class that may be raised -/
  | exc (x : Str)
  /-- whether an except clause of y catches x's -/
  | exm (x y : Str) (b : Bool)
  /-- isinstance of x's, asked for y -/
  | isi (x y : Str) (b : Bool)
def Df.st (P : Program) (d : Df) : Stmt := P.main.body.getD d.ix (.Pass ⟨0, 0, 0, 0⟩)
def Df.hd (P : Program) (d : Df) : He.DefD := ⟨(d.name, none), d.name, d.name, defArgs (d.st P), defBody (d.st P), defScope (d.st P), [], []⟩
def Kn.fa : Kn → List He.Fa
  | .int x i => [.int x i]
  | .str x z => [.str x (ss z)]
  | .exc x => [.glo x, .exc x]
  | .exm x y b => [.glo y, .exm x y b]
  | .isi x y b => if y = "ValueError" then [.free y] else [.glo y]
def Kn.fx : Kn → Option (Str × Str × Bool)
  | .isi x y b => some (x, y, b)
  | _ => none
def Kn.exm? (x y : Str) : Kn → Option Bool
  | .exm x2 y2 b => if x2 = x ∧ y2 = y then some b else none
  | _ => none
def Kn.isi? (x y : Str) : Kn → Option Bool
  | .isi x2 y2 b => if x2 = x ∧ y2 = y then some b else none
  | _ => none
/-- what isinstance asks of a class -/
def excB (K : PySem.W.Frag) (D : Addr) : Bool := He.eqO (PySem.W.findIn K (.ref D) "__getattribute__") (some (some (.builtin "BaseException.__getattribute__"))) && (He.eqO (PySem.W.findIn K (.ref D) "__getattr__") (some none) && (decide (PySem.W.subIn K (.ref D) (.type "BaseException") = some true) && (PySem.W.hasDictIn K D && (He.eqO (PySem.W.findIn K (.ref D) "__class__") (some (some (.builtin "object.__class__"))) &&
  (He.eqO (PySem.W.specialIn K (.builtin "object.__class__") "__get__") (some (some (.builtin "getset_descriptor.__get__"))) && (decide (PySem.W.takesIn K (.builtin "object.__class__") = some true) && decide (PySem.W.mroIn K D (.type "object") = some true)))))))
theorem excB_ok {K : PySem.W.Frag} {D : Addr} (h : excB K D = true) : ExcC K D := by
  unfold excB at h
  simp only [Bool.and_eq_true] at h
  obtain ⟨h1, h2, h3, h4, h5, h6, h7, h8⟩ := h
  exact ⟨He.eqO_ok h1, He.eqO_ok h2, of_decide_eq_true h3, h4, He.eqO_ok h5, He.eqO_ok h6, of_decide_eq_true h7, of_decide_eq_true h8⟩
/-- a class's name's value -/
def clv (K : PySem.W.Frag) (y : Str) : Value := if y = "ValueError" then .type "ValueError" else .ref (He.ga K y)
def kiOk (K : PySem.W.Frag) (z : Str × Str × Bool) : Bool := excB K (He.ga K z.1) && decide (PySem.W.kitOne K (.ref (He.ga K z.1)) (clv K z.2.1) = some z.2.2)
def Kn.gc : Kn → Option (Str × D)
  | .int x i => some (x, .int i)
  | .str x z => some (x, .str z)
  | _ => none
def Kn.en : Kn → Option Str
  | .exc x => some x
  | _ => none
def Kn.ok : Kn → Bool
  | .int _ _ => true
  | .str _ z => (z.all fun c => decide (c < 0x110000)) && decide (z.length ≤ sizeLine)
  | _ => true
def fns (P : Program) (L : List Df) : List He.DefD := L.map (Df.hd P)
def facts (L : List Df) (C : List Kn) : List He.Fa := L.map (fun d => He.Fa.glo d.name) ++ (frees.map He.Fa.free ++ C.flatMap Kn.fa)
def fxs (C : List Kn) : List (Str × Str × Bool) := C.filterMap Kn.fx
def tab (L : List Df) (f : Nat) : Option Fd := (L[f]?).map Df.fd
def mkT (L : List Df) (C : List Kn) : Gt := ⟨tab L, fun f => (L[f]?).map Df.name, fun i => (C[i]?).bind Kn.gc, fun i => (C[i]?).bind Kn.en, C.length, fun f => ((L[f]?).map Df.hot).getD false,
  fun c y => ((C[c]?).bind Kn.en).bind fun x => C.findSome? (Kn.exm? x y), fun c y => ((C[c]?).bind Kn.en).bind fun x => C.findSome? (Kn.isi? x y)⟩
def mk (L : List Df) (C : List Kn) (W : Nat) (K : PySem.W.Frag) : Gs := ⟨fun f => (L[f]?).map fun d => He.ga K d.name, W, mkT L C, fun c => ((C[c]?).bind Kn.en).map (He.ga K)⟩
def isLC (sc : Scope) (x : Str) : Bool := match sc.names.lookup x with
  | some .local => true
  | some .cell => true
  | _ => false
/-- the check of one def -/
def chD (P : Program) (G : Gt) (d : Df) : Bool :=
  let sc := defScope (d.st P)
  let S : SE := ⟨d.N, sc, cellsOfS sc, d.hot⟩
  decide (sc.kind = .function) && !sc.isCoroutine && !sc.isGenerator && decide d.N.Nodup && decide (d.N.take d.ps.length = d.ps) && (d.ps.all (isLC sc)) && (sc.names.all fun y => decide (y.2 ≠ .free)) &&
  (d.N.all fun x => !(x == ("__debug__" : Str)) && !(x == ("__classdict__" : Str))) && decide (d.ps.length = d.fd.ps) && decide (d.N.length = d.fd.ns) &&
  chSs G S (lentL 0 d.fd.mu) d.fd.body (defBody (d.st P))
/-- its arguments bind in their order -/
def Df.Binds (P : Program) (d : Df) : Prop := ∀ (kV doc pm : Value) (an : Option Addr) (cdv ct : Value) (us : List Value), us.length = d.ps.length →
    bindArgs (PySem.W.fnOf d.name d.name (defArgs (d.st P)) (defBody (d.st P)) (defScope (d.st P)) .none kV doc pm an cdv ct) ⟨us, []⟩ = pure (d.ps.zip us)
inductive AllB (P : Program) : List Df → Prop
  | nil : AllB P []
  | cons {d : Df} {L : List Df} : d.Binds P → AllB P L → AllB P (d :: L)
theorem AllB.at {P : Program} : ∀ {L : List Df}, AllB P L → ∀ d ∈ L, d.Binds P
  | _, .cons h t, d, hd => by
    rcases List.mem_cons.mp hd with rfl | hd
    · exact h
    · exact t.at d hd
def chAll (P : Program) (L : List Df) (C : List Kn) : Bool := decide (L.length ≤ 1000) && (L.all fun d => chD P (mkT L C) d) && C.all Kn.ok
theorem toFun {K : PySem.W.Frag} {x q : Str} {z : Stmt} {f : Addr} {fd : FuncData} (h : FunD K x q (defArgs z) (defBody z) (defScope z) [] [] f fd) : L2.Fun K x q z f fd := by
  obtain ⟨a1, a2, a3, a4, a5, a6, a7, a8, a9, a10, e1, e2, e3, e4, _⟩ := h.ex
  rcases e4 with ⟨_, rfl⟩ | ⟨n, _⟩
  · exact ⟨⟨a1, a2, a4, a5, a6, a7, a8, a9, a10, e1, e2, e3⟩, h.kp⟩
  · exact absurd rfl n
section
variable {P : Program} {L : List Df} {C : List Kn} {W : Nat} {K : PySem.W.Frag} {w : World} {mg : Str → Option Value} {h : Heap}
theorem says_mem {f : He.Fa} (c : He.SaysD (facts L C) (fns P L) K) (hf : f ∈ facts L C) : f.ok K = true := by
  obtain ⟨i, hi, e⟩ := List.mem_iff_getElem.mp hf
  exact c.fact i (by rw [List.getElem?_eq_getElem hi, e])
theorem glob_ok (hC : C.all Kn.ok = true) (X : K.In h) (Gn : h.Ns mainGlobals mg) (c : He.SaysD (facts L C) (fns P L) K) (hk : (fxs C).all (kiOk K) = true) : GlobOk (mk L C W K) K mg := by
  have fz : ∀ z ∈ C, ∀ f ∈ z.fa, f.ok K = true := fun z hm f hf => says_mem c (List.mem_append_right _ (List.mem_append_right _ (List.mem_flatMap.mpr ⟨z, hm, hf⟩)))
  have hex : ∀ c' x, (mk L C W K).en c' = some x → ∃ a, (mk L C W K).ec c' = some a ∧ mg x = some (.ref a) ∧ PySem.W.keepIn K (.ref a) = true ∧ PySem.W.excIn K a He.veBase "ValueError.__new__" = true ∧ PySem.W.subIn K (.ref a) (.type "BaseException") = some true ∧ PySem.W.typeIn K (.ref a) = some (.type "type") := fun c' x e => by
    obtain ⟨z, hz, ez⟩ := Option.bind_eq_some_iff.mp e
    have hm := List.mem_of_getElem? hz
    cases z with
    | exc y =>
      cases ez
      obtain ⟨e1, e2, e3, e4⟩ := He.exc_ok (fz _ hm (.exc x) (by simp [Kn.fa]))
      refine ⟨He.ga K x, ?_, He.glo_ok X Gn (fz _ hm (.glo x) (by simp [Kn.fa])), e2, e1, e3, e4⟩
      show ((C[c']?).bind Kn.en).map _ = _
      rw [hz]; rfl
    | int _ _ => cases ez
    | str _ _ => cases ez
    | exm _ _ _ => cases ez
    | isi _ _ _ => cases ez
  exact {
    nm := fun f x e => by
      obtain ⟨d, hd, rfl⟩ := Option.map_eq_some_iff.mp e
      refine ⟨He.ga K d.name, He.glo_ok X Gn (says_mem c (List.mem_append_left _ (List.mem_map_of_mem (List.mem_of_getElem? hd)))), ?_⟩
      show (L[f]?).map _ = _
      rw [hd]
      rfl
    fre := fun x hx => He.free_ok X Gn (says_mem c (List.mem_append_right _ (List.mem_append_left _ (List.mem_map_of_mem hx))))
    gc := fun i x d e => by
      obtain ⟨z, hz, ez⟩ := Option.bind_eq_some_iff.mp e
      have hm := List.mem_of_getElem? hz
      have ok := List.all_eq_true.mp hC z hm
      cases z with
      | int y i =>
        cases ez
        obtain ⟨t, q⟩ := He.int_ok X Gn (fz _ hm (.int x i) (by simp [Kn.fa]))
        exact ⟨_, .int i, q, ⟨t, rfl⟩, .int i⟩
      | str y z =>
        cases ez
        obtain ⟨t, q⟩ := He.str_ok X Gn (fz _ hm (.str x (ss z)) (by simp [Kn.fa]))
        simp only [Kn.ok, Bool.and_eq_true, decide_eq_true_eq] at ok
        exact ⟨_, .str (ss z), q, ⟨t, rfl⟩, .str z ⟨fun c hc => by simpa using List.all_eq_true.mp ok.1 c hc, ok.2⟩⟩
      | exc x => cases ez
      | exm x y b => cases ez
      | isi x y b => cases ez
    exc := hex
    ecn := fun c' D e => by
      obtain ⟨x, e1, _⟩ := Option.map_eq_some_iff.mp e
      obtain ⟨z, hz, _⟩ := Option.bind_eq_some_iff.mp e1
      exact ⟨x, e1, (List.getElem?_eq_some_iff.mp hz).1⟩
    exm := fun c' y b e => by
      obtain ⟨x, e1, e2⟩ := Option.bind_eq_some_iff.mp e
      obtain ⟨z, hm, e3⟩ := List.exists_of_findSome?_eq_some e2
      cases z <;> first | (cases e3; done) | skip
      rename_i x2 y2 b2
      simp only [Kn.exm?] at e3
      split at e3
      · rename_i hq
        obtain ⟨h1, h2⟩ := hq
        subst h1 h2
        cases e3
        exact ⟨_, He.ga K y2, by show ((C[c']?).bind Kn.en).map _ = _; rw [e1]; rfl, He.glo_ok X Gn (fz _ hm (.glo _) (by simp [Kn.fa])), He.exm_ok (fz _ hm (.exm _ _ _) (by simp [Kn.fa]))⟩
      · cases e3
    isn := fun c' y b e => by
      obtain ⟨x, e1, e2⟩ := Option.bind_eq_some_iff.mp e
      obtain ⟨z, hm, e3⟩ := List.exists_of_findSome?_eq_some e2
      cases z <;> first | (cases e3; done) | skip
      rename_i x2 y2 b2
      simp only [Kn.isi?] at e3
      split at e3
      · rename_i hq
        obtain ⟨h1, h2⟩ := hq
        subst h1 h2
        cases e3
        have hz := List.all_eq_true.mp hk _ (List.mem_filterMap.mpr ⟨_, hm, rfl⟩)
        simp only [kiOk, Bool.and_eq_true, decide_eq_true_eq] at hz
        have q0 : (mk L C W K).ec c' = some (He.ga K x2) := by show ((C[c']?).bind Kn.en).map _ = _; rw [e1]; rfl
        by_cases hy : y2 = "ValueError"
        · subst hy
          have f := He.free_ok X Gn (fz _ hm (.free "ValueError") (by simp [Kn.fa]))
          refine ⟨_, .ty "ValueError", .type "ValueError", q0, excB_ok hz.1, rfl, fun w hw => hw, .inr ⟨f, by decide +kernel, by decide⟩, ?_⟩
          simpa [clv] using hz.2
        · have f := He.glo_ok X Gn (fz _ hm (.glo y2) (by simp [Kn.fa, hy]))
          refine ⟨_, .ref (He.ga K y2), .ref (He.ga K y2), q0, excB_ok hz.1, rfl, fun w hw => hw, .inl f, ?_⟩
          simpa [clv, hy] using hz.2
      · cases e3 }
theorem chD_len {d : Df} (hc : chAll P L C = true) {f : Nat} (h1 : L[f]? = some d) : d.ps.length = d.fd.ps := by
  simp only [chAll, Bool.and_eq_true, List.all_eq_true] at hc
  have h2 := hc.1.2 d (List.mem_of_getElem? h1)
  simp only [chD, Bool.and_eq_true, decide_eq_true_eq] at h2
  exact h2.1.1.2
theorem mk_fai (hc : chAll P L C = true) (c : Nat) : (mk L C W K).fa (1000000 + c) = none := by
  simp only [chAll, Bool.and_eq_true, decide_eq_true_eq] at hc
  show (L[1000000 + c]?).map _ = none
  rw [List.getElem?_eq_none (by omega)]
  rfl
theorem fn_at (hc : chAll P L C = true) (X : K.In h) (Gn : h.Ns mainGlobals mg) (c : He.SaysD (facts L C) (fns P L) K) (hk : (fxs C).all (kiOk K) = true) {base : Heap} {k f : Nat} {d : Df} {fdat : FuncData} (ih : FnsOk (mk L C W K) P w K mg base k ∧ FnsHot (mk L C W K) P w K mg base k) (h1 : L[f]? = some d) (hh : d.hot = false)
    (F : L2.Fun K d.name d.name (d.st P) (He.ga K d.name) fdat) : FnOk P w K mg base (L2.CX P w) (k + 1) (He.ga K d.name) fdat d.ps (spF (mk L C W K) K (k + 1) f) := by
  have hfa := mk_fai (W := W) (K := K) hc
  simp only [chAll, Bool.and_eq_true] at hc
  have gl := glob_ok (W := W) hc.2 X Gn c hk
  have h2 := List.all_eq_true.mp hc.1.2 d (List.mem_of_getElem? h1)
  simp only [chD, Bool.and_eq_true, decide_eq_true_eq, Bool.not_eq_true', List.all_eq_true, hh] at h2
  obtain ⟨⟨⟨⟨⟨⟨⟨⟨⟨⟨c1, c2⟩, c3⟩, c4⟩, c5⟩, c6⟩, c7⟩, c8⟩, c9⟩, c10⟩, c11⟩ := h2
  have Sc : FnScope d.N d.ps (defScope (d.st P)) := by
    refine ⟨c1, c2, c3, c4, c5, fun x hx => ?_, fun y hy => by simpa using c7 y hy⟩
    have := c6 x hx
    unfold isLC at this
    split at this
    · rename_i q; exact .inl q
    · rename_i q; exact .inr q
    · cases this
  have e : (mk L C W K).T f = some d.fd := by show (L[f]?).map _ = _; rw [h1]; rfl
  exact fn_ok F Sc e c9 c10 ih.1 ih.2 hfa gl (cellsOfS (defScope (d.st P))) ⟨c4, c1, fun x hx => by simpa using c8 x hx⟩ (fun X W hX bx => sSs _ _ _ _ _ _ X hX bx c11)
theorem fn_atK (hc : chAll P L C = true) (X : K.In h) (Gn : h.Ns mainGlobals mg) (c : He.SaysD (facts L C) (fns P L) K) (hk : (fxs C).all (kiOk K) = true) {base : Heap} {k f : Nat} {d : Df} {fdat : FuncData} (ih : FnsHot (mk L C W K) P w K mg base k) (h1 : L[f]? = some d) (hh : d.hot = true)
    (F : L2.Fun K d.name d.name (d.st P) (He.ga K d.name) fdat) {x : Nat} {D : Addr} {p : Addr × Obj} (hec : (mk L C W K).ec x = some D) (hca : Caught D p.2) : FnK P w K mg base (L2.CX P w) (k + 1) (He.ga K d.name) fdat d.ps p (spO ((mk L C W K).withX x p.1) K (k + 1) f) := by
  have hfa := mk_fai (W := W) (K := K) hc
  simp only [chAll, Bool.and_eq_true] at hc
  have gl := glob_ok (W := W) hc.2 X Gn c hk
  have h2 := List.all_eq_true.mp hc.1.2 d (List.mem_of_getElem? h1)
  simp only [chD, Bool.and_eq_true, decide_eq_true_eq, Bool.not_eq_true', List.all_eq_true, hh] at h2
  obtain ⟨⟨⟨⟨⟨⟨⟨⟨⟨⟨c1, c2⟩, c3⟩, c4⟩, c5⟩, c6⟩, c7⟩, c8⟩, c9⟩, c10⟩, c11⟩ := h2
  have Sc : FnScope d.N d.ps (defScope (d.st P)) := by
    refine ⟨c1, c2, c3, c4, c5, fun x hx => ?_, fun y hy => by simpa using c7 y hy⟩
    have := c6 x hx
    unfold isLC at this
    split at this
    · rename_i q; exact .inl q
    · rename_i q; exact .inr q
    · cases this
  have e : ((mk L C W K).withX x p.1).T f = some d.fd := by show (L[f]?).map _ = _; rw [h1]; rfl
  refine fn_okK (G := (mk L C W K).withX x p.1) F Sc e c9 c10 hec hca (fun n b q => ?_) (fun g fd hT hh => ?_) (gl.withX hfa x p.1) (cellsOfS (defScope (d.st P))) ⟨c4, c1, fun x hx => by simpa using c8 x hx⟩
    (fun X hX => sSs _ _ _ _ _ _ X hX ⟨takes_F, fun z => Bool.noConfusion z, fun z => Bool.noConfusion z, fun z => Bool.noConfusion z⟩ c11)
  · have q : (if 1000000 + n = 1000000 + x then some p.1 else (mk L C W K).fa (1000000 + n)) = some b := q
    split at q
    · cases q; exact ⟨by omega, rfl⟩
    · rw [hfa] at q; cases q
  · obtain ⟨b, fdat, ps, q1, q2, q3, q4, q5⟩ := ih x D p hec hca g fd hT hh
    exact ⟨b, fdat, ps, withX_more hfa x p.1 _ _ q1, q2, q3, q4, q5⟩
theorem fns_ok (hc : chAll P L C = true) (hB : AllB P L) (X : K.In h) (Gn : h.Ns mainGlobals mg) (c : He.SaysD (facts L C) (fns P L) K) (hk : (fxs C).all (kiOk K) = true) {base : Heap} : ∀ k, FnsOk (mk L C W K) P w K mg base k ∧ FnsHot (mk L C W K) P w K mg base k := by
  have pre : ∀ f fd, (mk L C W K).T f = some fd → ∃ d fdat, L[f]? = some d ∧ d.fd = fd ∧ (mk L C W K).fa f = some (He.ga K d.name) ∧ L2.Fun K d.name d.name (d.st P) (He.ga K d.name) fdat ∧ PySem.W.keepIn K (.ref (He.ga K d.name)) = true ∧ Binds K fdat d.ps [] ∧ (mk L C W K).t.hot f = d.hot := fun f fd e => by
    obtain ⟨d, hd, rfl⟩ := Option.map_eq_some_iff.mp e
    obtain ⟨fdat, F⟩ := c.def_ f (d := d.hd P) (by show (L.map _)[f]? = _; rw [List.getElem?_map, hd]; rfl)
    exact ⟨d, fdat, hd, rfl, by show (L[f]?).map _ = _; rw [hd]; rfl, toFun F, F.kp, FunD.bindsN F (hB.at d (List.mem_of_getElem? hd)), by show ((L[f]?).map Df.hot).getD false = _; rw [hd]; rfl⟩
  intro k
  induction k with
  | zero =>
    constructor
    · intro f fd e hh
      obtain ⟨d, fdat, h1, rfl, h3, h4, h5, h6, h7⟩ := pre f fd e
      refine ⟨_, fdat, d.ps, h3, h5, h6, chD_len hc h1, ⟨fun vs H Q E z => ?_, fun A outer s H args us vs Q E _ _ _ _ z => ?_⟩⟩
      · rcases z with ⟨S, args, d, fr, o, _, ec, _⟩ | ⟨S, args, c, a, _, ec, _⟩ <;> cases ec
      · rcases z with ⟨S, args, d, fr, o, _, ec, _⟩ | ⟨S, args, c, a, _, ec, _⟩ <;> cases ec
    · intro x D p hec hca f fd e hh
      obtain ⟨d, fdat, h1, rfl, h3, h4, h5, h6, h7⟩ := pre f fd e
      refine ⟨_, fdat, d.ps, h3, h5, h6, chD_len hc h1, ⟨fun vs H Q E z => ?_, fun A outer s H args us vs Q E _ _ _ _ _ z => ?_⟩⟩
      · obtain ⟨S, args, d, fr, o, _, ec, _⟩ := z
        cases ec
      · obtain ⟨S, args, d, fr, o, _, ec, _⟩ := z
        cases ec
  | succ k ih =>
    constructor
    · intro f fd e hh
      obtain ⟨d, fdat, h1, rfl, h3, h4, h5, h6, h7⟩ := pre f fd e
      exact ⟨_, fdat, d.ps, h3, h5, h6, chD_len hc h1, fn_at hc X Gn c hk ih h1 (by rw [← h7]; exact hh) h4⟩
    · intro x D p hec hca f fd e hh
      obtain ⟨d, fdat, h1, rfl, h3, h4, h5, h6, h7⟩ := pre f fd e
      exact ⟨_, fdat, d.ps, h3, h5, h6, chD_len hc h1, fn_atK hc X Gn c hk ih.2 h1 (by rw [← h7]; exact hh) h4 hec hca⟩
/-! ### the end -/
/-- no list of the top's is among the facts -/
def noL (K : PySem.W.Frag) : Bool := K.all fun p => match p.2.cls with
  | .type n => !(n == "list")
  | _ => true
theorem noL_ok (n : noL K = true) {H : Hp} {a : Addr} {xs : List V} (h : SqL K H a xs) : Rd H a (.lst xs) := by
  rcases h with h | ⟨o, its, m, q, hc, _⟩
  · exact h
  · exfalso
    have : ∀ (l : PySem.W.Frag), (l.all fun p => match p.2.cls with
        | .type n => !(n == "list")
        | _ => true) = true → l.lookup a = some o → False := fun l => by
      induction l with
      | nil => intro _ z; cases z
      | cons p l ih =>
        obtain ⟨b, u⟩ := p
        intro z y
        simp only [List.all_cons, Bool.and_eq_true] at z
        rw [List.lookup_cons] at y
        split at y
        · cases y
          rw [hc] at z
          exact absurd z.1 (by decide)
        · exact ih z.2 y
    exact this K n q
def okG (fx : List (Str × Str × Bool)) (K : PySem.W.Frag) : Bool := noL K && fx.all (kiOk K)
def hookG (n : Nat) (fa : List He.Fa) (fn : List He.DefD) (fx : List (Str × Str × Bool)) : PySem.W.Hook where
  α := Bool × He.AlD
  obs := fun s => (okG fx (He.frG s.heap.get? (He.asD s.heap.get? n)), He.obsDG n fa fn s.heap.get?)
  val := fun _ => (true, He.valD fn)
  says := fun _ h => ∃ K : PySem.W.Frag, K.In h ∧ okG fx K = true ∧ He.SaysD fa fn K
  of := fun _ _ e => ⟨_, He.frG_in, congrArg (fun z : Bool × He.AlD => z.1) e, congrArg (fun z : Bool × He.AlD => z.2) e⟩
  keeps := fun _ _ _ ⟨K, hK, n, c⟩ k => ⟨K, PySem.W.Frag.In.keeps hK k, n, c⟩
def seeG (n : Nat) (fa : List He.Fa) (fn : List He.DefD) (fx : List (Str × Str × Bool)) (g : Addr → Option Obj) : Bool × He.AlD := (okG fx (He.frG g (He.asD g n)), He.obsDG n fa fn g)
theorem seeG_eq {n : Nat} {fa : List He.Fa} {fn : List He.DefD} {fx : List (Str × Str × Bool)} {g : Addr → Option Obj} {s : Shared} (e : ∀ a, g a = s.heap.get? a) : seeG n fa fn fx g = (hookG n fa fn fx).obs s := by
  have : g = s.heap.get? := funext e
  rw [this]
  rfl
theorem law_end {l : PySem.W.OpenLaw} {L : List Df} {C : List Kn} {W k m nn : Nat} {q : Program} {loose : List Str} {XP : (Str → Option Value) → Heap → Prop} {d : DefRec} {dl : Df} (hn : l.most = some 63) (hdf : d.params.defaults = []) (hr : Room (k + 1) callerA)
    (hc : chAll l.prog L C = true) (hB : AllB l.prog L) (hm : L[m]? = some dl) (hname : dl.name = d.name) (hps : dl.ps = [("script" : Str)]) (hnh : dl.hot = false)
    (plain : ∀ ns : List Int, ns.length ≤ 63 → (∀ z ∈ ns, Builtin.Int.intBits z ≤ 1048576) → callF (tab L) W (k + 1) m [.val (.lst (ns.map .int))] = .ok (.bl true) false []) :
    PySem.W.WalkO q loose XP (hookG nn (facts L C) (fns l.prog L) (fxs C)).says l.row.toRowW d [] (fun f vs => PySem.call f vs) := by
  refine Att.attach_callB hn hdf fun w s₀ s₁ mg mb fa o pm cd doc a vs ns Gr Y ho hd hcd hmg hobj hints hlen hbits hg => ?_
  obtain ⟨K, KX, okk, c⟩ := Y
  have okk := Bool.and_eq_true_iff.mp okk
  have nl := okk.1
  have hk := okk.2
  obtain ⟨fd, F⟩ := c.def_ m (d := dl.hd l.prog) (by show (L.map _)[m]? = _; rw [List.getElem?_map, hm]; rfl)
  have hT : (mk L C W K).T m = some dl.fd := by show (L[m]?).map _ = _; rw [hm]; rfl
  have ha : fa = He.ga K dl.name := by
    have e := He.glo_ok KX Gr.T.g (says_mem c (List.mem_append_left _ (List.mem_map_of_mem (f := fun d : Df => He.Fa.glo d.name) (List.mem_of_getElem? hm))))
    rw [hname, hmg] at e
    cases e
    rw [hname]
  subst ha
  have hpl := chD_len hc hm
  have bind : ∀ (s : Shared) (u : Value), BindsTo s fd ⟨[u], []⟩ [("script", u)] := fun s u => by
    have := FunD.bindsA (ps := dl.ps) F (hB.at dl (List.mem_of_getElem? hm)) s [u] (by rw [hps]; rfl)
    rw [hps] at this
    exact this
  refine law_call (sp := spF (mk L C W K) K (k + 1) m) (CX := L2.CX l.prog w) KX Gr.T.g Gr.T.b Gr.T.builtins Gr.T.nolimit hg hobj hints (Nat.le_trans hlen (by decide)) hr (fun base b1 b2 => ?_) bind (fun H hO hS => ?_) (fun _ _ _ ⟨_, _, _, _, _, _, _, _, _, _, _, _, z⟩ => z)
  · have := fn_at hc b1 b2 c hk (fns_ok (W := W) (w := w) (base := base) hc hB b1 b2 c hk k) hm hnh (toFun F)
    rw [hps] at this
    exact this
  · refine .inl ⟨H, [.val (.lst (ns.map .int))], .bl true, false, [], ?_, plain ns hlen hbits, ⟨dl.fd, hT, by rw [← hpl, hps]; rfl⟩, fun v H' S' g rv => ?_⟩
    · have rs : ∀ ns : List Int, Reps K (mk L C W K).fa H (ns.map V.int) (ns.map D.int) := fun ns => by
        induction ns with
        | nil => exact .nil
        | cons n ns ih => exact .cons (.int n) ih
      refine ⟨.refl, rfl, fun i d' e => ?_, fun i d' e => ?_, fun i j d1 d2 a' e => ?_⟩
      · cases i with
        | zero =>
          cases e
          exact ⟨_, rfl, .lst (noL_ok nl hS) (rs ns)⟩
        | succ i => cases e
      · cases i with
        | zero => cases e
        | succ i => cases e
      · cases i with
        | zero => cases e
        | succ i => cases e
    · cases rv
      rfl
end
end G

/-! plain law: running the interpreter by simp, from left to right: each frame waits for its first part -/
namespace G
open PySem
structure Mc where
  mf : Nat → Option (List Bool)
  cf : Nat → List SV → CR
  W : Nat
abbrev RE := R (D × Bool × En)
abbrev RO := R (Od × En)
section
variable (M : Mc)
def xE (e : Ex) (ρ : En) : RE := evE M.mf M.cf e ρ
def xO (e : Ex) (ρ : En) : RO := od e ρ (evE M.mf M.cf e ρ)
def xOs (es : List Ex) (ρ : En) : R (List Od × En) := evOs M.mf M.cf es ρ
def xVs (es : List Ex) (ρ : En) : R (List D × En) := evVs M.mf M.cf es ρ
def xB (e : Option Ex) (ρ : En) : R (Option Int × En) := evB M.mf M.cf e ρ
def xA (t : Bool) (es : List Ex) (ρ : En) : RE := evA M.mf M.cf t es ρ
def xI (e : Ex) (ρ : En) : R (List D × Option (Nat × List D) × En) := srcOf e ρ (evE M.mf M.cf e ρ)
def xS (s : Sm) (ρ : En) : R (Fl × En) := exS M.mf M.cf M.W s ρ
def xSs (s : List Sm) (ρ : En) : R (Fl × En) := exSs M.mf M.cf M.W s ρ
/-! names -/
def kNm (i : Nat) (v : Option (Option SV)) (ρ : En) : RE := match v with
    | some (some (.val d)) => .ok (d, false, ρ)
    | some (some (.own d)) => .ok (d, false, ρ.set i (some (.val d)))
    | _ => .bad
@[simp] theorem kNm_v (i : Nat) (d : D) (ρ : En) : kNm i (some (some (.val d))) ρ = .ok (d, false, ρ) := rfl
@[simp] theorem kNm_o (i : Nat) (d : D) (ρ : En) : kNm i (some (some (.own d))) ρ = .ok (d, false, ρ.set i (some (.val d))) := rfl
@[simp] theorem xE_nm (i : Nat) (ρ : En) : xE M (.nm i) ρ = kNm i ρ[i]? ρ := by simp only [xE, evE]; rfl
def kOn (i : Nat) (v : Option (Option SV)) (ρ : En) : RO := match v with
    | some (some _) => .ok (.s i, ρ)
    | _ => .bad
@[simp] theorem kOn_s (i : Nat) (d : SV) (ρ : En) : kOn i (some (some d)) ρ = .ok (.s i, ρ) := rfl
@[simp] theorem xO_nm (i : Nat) (ρ : En) : xO M (.nm i) ρ = kOn i ρ[i]? ρ := rfl
def kO (r : RE) : RO := r.bind fun x => .ok (.v x.1, x.2.2)
@[simp] theorem kO_ok (d : D) (f : Bool) (ρ : En) : kO (.ok (d, f, ρ)) = .ok (.v d, ρ) := rfl
@[simp] theorem xO_k (d : D) (ρ : En) : xO M (.k d) ρ = .ok (.v d, ρ) := by simp only [xO, od, evE]; rfl
@[simp] theorem xO_gc (x : List Nat) (d : D) (ρ : En) : xO M (.gc x d) ρ = .ok (.v d, ρ) := by simp only [xO, od, evE]; rfl
@[simp] theorem xO_tup (a) (ρ : En) : xO M (.tup a) ρ = kO (xE M (.tup a) ρ) := rfl
@[simp] theorem xO_lst (a) (ρ : En) : xO M (.lst a) ρ = kO (xE M (.lst a) ρ) := rfl
@[simp] theorem xO_bin (a b c) (ρ : En) : xO M (.bin a b c) ρ = kO (xE M (.bin a b c) ρ) := rfl
@[simp] theorem xO_neg (a) (ρ : En) : xO M (.neg a) ρ = kO (xE M (.neg a) ρ) := rfl
@[simp] theorem xO_cmp (a b c) (ρ : En) : xO M (.cmp a b c) ρ = kO (xE M (.cmp a b c) ρ) := rfl
@[simp] theorem xO_ch (a b c d e) (ρ : En) : xO M (.ch a b c d e) ρ = kO (xE M (.ch a b c d e) ρ) := rfl
@[simp] theorem xO_and (a) (ρ : En) : xO M (.and a) ρ = kO (xE M (.and a) ρ) := rfl
@[simp] theorem xO_or (a) (ρ : En) : xO M (.or a) ρ = kO (xE M (.or a) ρ) := rfl
@[simp] theorem xO_not (a) (ρ : En) : xO M (.not a) ρ = kO (xE M (.not a) ρ) := rfl
@[simp] theorem xO_ife (a b c) (ρ : En) : xO M (.ife a b c) ρ = kO (xE M (.ife a b c) ρ) := rfl
@[simp] theorem xO_ix (a b) (ρ : En) : xO M (.ix a b) ρ = kO (xE M (.ix a b) ρ) := rfl
@[simp] theorem xO_sl (a b c) (ρ : En) : xO M (.sl a b c) ρ = kO (xE M (.sl a b c) ρ) := rfl
@[simp] theorem xO_st (a b c) (ρ : En) : xO M (.st a b c) ρ = kO (xE M (.st a b c) ρ) := rfl
@[simp] theorem xO_call (a b) (ρ : En) : xO M (.call a b) ρ = kO (xE M (.call a b) ρ) := rfl
@[simp] theorem xO_bi (a b) (ρ : En) : xO M (.bi a b) ρ = kO (xE M (.bi a b) ρ) := rfl
@[simp] theorem xO_isi (a b) (ρ : En) : xO M (.isi a b) ρ = kO (xE M (.isi a b) ρ) := rfl
@[simp] theorem xO_mt (a b c) (ρ : En) : xO M (.mt a b c) ρ = kO (xE M (.mt a b c) ρ) := rfl
@[simp] theorem xO_mu (a b c) (ρ : En) : xO M (.mu a b c) ρ = kO (xE M (.mu a b c) ρ) := rfl
@[simp] theorem xO_itr (a b) (ρ : En) : xO M (.itr a b) ρ = kO (xE M (.itr a b) ρ) := rfl
@[simp] theorem xO_tupI (a b) (ρ : En) : xO M (.tupI a b) ρ = kO (xE M (.tupI a b) ρ) := rfl
@[simp] theorem xO_lc (a b c d e) (ρ : En) : xO M (.lc a b c d e) ρ = kO (xE M (.lc a b c d e) ρ) := rfl
@[simp] theorem der_v (ρ : En) (d : D) : der ρ (.v d) = some d := rfl
def kDer (v : Option (Option SV)) : Option D := match v with
  | some (some v) => some v.d
  | _ => none
@[simp] theorem kDer_v (d : D) : kDer (some (some (.val d))) = some d := rfl
@[simp] theorem kDer_o (d : D) : kDer (some (some (.own d))) = some d := rfl
@[simp] theorem der_s (ρ : En) (i : Nat) : der ρ (.s i) = kDer ρ[i]? := rfl
@[simp] theorem ders_nil (ρ : En) : ders ρ [] = some [] := rfl
def kDs (d : Option D) (r : Option (List D)) : Option (List D) := d.bind fun d => r.map (d :: ·)
@[simp] theorem kDs_some (d : D) (r : List D) : kDs (some d) (some r) = some (d :: r) := rfl
@[simp] theorem ders_cons (ρ : En) (o : Od) (os : List Od) : ders ρ (o :: os) = kDs (der ρ o) (ders ρ os) := rfl
/-! simple values -/
@[simp] theorem xE_k (d : D) (ρ : En) : xE M (.k d) ρ = .ok (d, false, ρ) := by simp only [xE, evE]
@[simp] theorem xE_gc (x : List Nat) (d : D) (ρ : En) : xE M (.gc x d) ρ = .ok (d, false, ρ) := by simp only [xE, evE]
def kTup (r : R (List D × En)) : RE := r.bind fun x => .ok (.tup x.1, false, x.2)
@[simp] theorem kTup_ok (ds : List D) (ρ : En) : kTup (.ok (ds, ρ)) = .ok (.tup ds, false, ρ) := rfl
@[simp] theorem xE_tup (es : List Ex) (ρ : En) : xE M (.tup es) ρ = kTup (xVs M es ρ) := by simp only [xE, evE]; rfl
def kLst (r : R (List D × En)) : RE := r.bind fun x => .ok (.lst x.1, true, x.2)
@[simp] theorem kLst_ok (ds : List D) (ρ : En) : kLst (.ok (ds, ρ)) = .ok (.lst ds, true, ρ) := rfl
@[simp] theorem xE_lst (es : List Ex) (ρ : En) : xE M (.lst es) ρ = kLst (xVs M es ρ) := by simp only [xE, evE]; rfl
@[simp] theorem xVs_nil (ρ : En) : xVs M [] ρ = .ok ([], ρ) := by simp only [xVs, evVs]
def kVs2 (d : D) (r : R (List D × En)) : R (List D × En) := r.bind fun y => .ok (d :: y.1, y.2)
def kVs (es : List Ex) (r : RE) : R (List D × En) := r.bind fun x => kVs2 x.1 (xVs M es x.2.2)
@[simp] theorem kVs2_ok (d : D) (ds : List D) (ρ : En) : kVs2 d (.ok (ds, ρ)) = .ok (d :: ds, ρ) := rfl
@[simp] theorem kVs_ok (es : List Ex) (d : D) (f : Bool) (ρ : En) : kVs M es (.ok (d, f, ρ)) = kVs2 d (xVs M es ρ) := rfl
@[simp] theorem xVs_cons (e : Ex) (es : List Ex) (ρ : En) : xVs M (e :: es) ρ = kVs M es (xE M e ρ) := by simp only [xVs, evVs]; rfl
@[simp] theorem xOs_nil (ρ : En) : xOs M [] ρ = .ok ([], ρ) := by simp only [xOs, evOs]
def kOs2 (d : Od) (r : R (List Od × En)) : R (List Od × En) := r.bind fun y => .ok (d :: y.1, y.2)
def kOs (es : List Ex) (r : RO) : R (List Od × En) := r.bind fun x => kOs2 x.1 (xOs M es x.2)
@[simp] theorem kOs2_ok (d : Od) (ds : List Od) (ρ : En) : kOs2 d (.ok (ds, ρ)) = .ok (d :: ds, ρ) := rfl
@[simp] theorem kOs_ok (es : List Ex) (d : Od) (ρ : En) : kOs M es (.ok (d, ρ)) = kOs2 d (xOs M es ρ) := rfl
@[simp] theorem xOs_cons (e : Ex) (es : List Ex) (ρ : En) : xOs M (e :: es) ρ = kOs M es (xO M e ρ) := by simp only [xOs, evOs]; rfl
/-! operators -/
def kV (z : Option (D × Bool)) (ρ : En) : RE := opt z fun z => .ok (z.1, z.2, ρ)
@[simp] theorem kV_some (d : D) (f : Bool) (ρ : En) : kV (some (d, f)) ρ = .ok (d, f, ρ) := rfl
def kB3 (op : Operator) (p q : Option D) (ρ : En) : RE := opt p fun p => opt q fun q => kV (binD op p q) ρ
def kB2 (op : Operator) (o : Od) (r : RO) : RE := r.bind fun y => kB3 op (der y.2 o) (der y.2 y.1) y.2
def kB1 (op : Operator) (b : Ex) (r : RO) : RE := r.bind fun x => kB2 op x.1 (xO M b x.2)
@[simp] theorem kB1_ok (op : Operator) (b : Ex) (o : Od) (ρ : En) : kB1 M op b (.ok (o, ρ)) = kB2 op o (xO M b ρ) := rfl
@[simp] theorem kB2_ok (op : Operator) (o o' : Od) (ρ : En) : kB2 op o (.ok (o', ρ)) = kB3 op (der ρ o) (der ρ o') ρ := rfl
@[simp] theorem kB3_some (op : Operator) (p q : D) (ρ : En) : kB3 op (some p) (some q) ρ = kV (binD op p q) ρ := rfl
@[simp] theorem xE_bin (op : Operator) (a b : Ex) (ρ : En) : xE M (.bin op a b) ρ = kB1 M op b (xO M a ρ) := by simp only [xE, evE]; rfl
def kNeg2 (d : Option D) (ρ : En) : RE := match d with
  | some (.int i) => .ok (.int (-i), false, ρ)
  | _ => .bad
def kNeg (r : RO) : RE := r.bind fun x => kNeg2 (der x.2 x.1) x.2
@[simp] theorem kNeg_ok (o : Od) (ρ : En) : kNeg (.ok (o, ρ)) = kNeg2 (der ρ o) ρ := rfl
@[simp] theorem kNeg2_ok (i : Int) (ρ : En) : kNeg2 (some (.int i)) ρ = .ok (.int (-i), false, ρ) := rfl
@[simp] theorem xE_neg (a : Ex) (ρ : En) : xE M (.neg a) ρ = kNeg (xO M a ρ) := by simp only [xE, evE]; rfl
def kBl (z : Option Bool) (ρ : En) : RE := opt z fun z => .ok (.bl z, false, ρ)
@[simp] theorem kBl_some (b : Bool) (ρ : En) : kBl (some b) ρ = .ok (.bl b, false, ρ) := rfl
def kC3 (op : CmpOp) (p q : Option D) (ρ : En) : RE := opt p fun p => opt q fun q => kBl (cmpD op p q) ρ
def kC2 (op : CmpOp) (o : Od) (r : RO) : RE := r.bind fun y => kC3 op (der y.2 o) (der y.2 y.1) y.2
def kC1 (op : CmpOp) (b : Ex) (r : RO) : RE := r.bind fun x => kC2 op x.1 (xO M b x.2)
@[simp] theorem kC1_ok (op : CmpOp) (b : Ex) (o : Od) (ρ : En) : kC1 M op b (.ok (o, ρ)) = kC2 op o (xO M b ρ) := rfl
@[simp] theorem kC2_ok (op : CmpOp) (o o' : Od) (ρ : En) : kC2 op o (.ok (o', ρ)) = kC3 op (der ρ o) (der ρ o') ρ := rfl
@[simp] theorem kC3_some (op : CmpOp) (p q : D) (ρ : En) : kC3 op (some p) (some q) ρ = kBl (cmpD op p q) ρ := rfl
@[simp] theorem xE_cmp (op : CmpOp) (a b : Ex) (ρ : En) : xE M (.cmp op a b) ρ = kC1 M op b (xO M a ρ) := by simp only [xE, evE]; rfl
def kH4 (op : CmpOp) (o : Od) (r : RO) : RE := r.bind fun u => opt (der u.2 o) fun q => opt (der u.2 u.1) fun r => kBl (cmpD op q r) u.2
def kH3 (o2 : CmpOp) (c : Ex) (o : Od) (z : Bool) (ρ : En) : RE := if z then kH4 o2 o (xO M c ρ) else .ok (.bl false, false, ρ)
def kH3' (o1 o2 : CmpOp) (c : Ex) (o : Od) (p q : Option D) (ρ : En) : RE := opt p fun p => opt q fun q => opt (cmpD o1 p q) fun z => kH3 M o2 c o z ρ
def kH2 (o1 o2 : CmpOp) (c : Ex) (o : Od) (r : RO) : RE := r.bind fun y => kH3' M o1 o2 c y.1 (der y.2 o) (der y.2 y.1) y.2
def kH1 (o1 o2 : CmpOp) (b c : Ex) (r : RO) : RE := r.bind fun x => kH2 M o1 o2 c x.1 (xO M b x.2)
def kH3b (o2 : CmpOp) (c : Ex) (o : Od) (z : Option Bool) (ρ : En) : RE := opt z fun z => kH3 M o2 c o z ρ
@[simp] theorem kH3b_some (o2 : CmpOp) (c : Ex) (o : Od) (z : Bool) (ρ : En) : kH3b M o2 c o (some z) ρ = kH3 M o2 c o z ρ := rfl
@[simp] theorem kH1_ok (o1 o2 : CmpOp) (b c : Ex) (o : Od) (ρ : En) : kH1 M o1 o2 b c (.ok (o, ρ)) = kH2 M o1 o2 c o (xO M b ρ) := rfl
@[simp] theorem kH2_ok (o1 o2 : CmpOp) (c : Ex) (o o' : Od) (ρ : En) : kH2 M o1 o2 c o (.ok (o', ρ)) = kH3' M o1 o2 c o' (der ρ o) (der ρ o') ρ := rfl
@[simp] theorem kH3'_some (o1 o2 : CmpOp) (c : Ex) (o : Od) (p q : D) (ρ : En) : kH3' M o1 o2 c o (some p) (some q) ρ = kH3b M o2 c o (cmpD o1 p q) ρ := rfl
@[simp] theorem kH3_true (o2 : CmpOp) (c : Ex) (o : Od) (ρ : En) : kH3 M o2 c o true ρ = kH4 o2 o (xO M c ρ) := rfl
@[simp] theorem kH3_false (o2 : CmpOp) (c : Ex) (o : Od) (ρ : En) : kH3 M o2 c o false ρ = .ok (.bl false, false, ρ) := rfl
@[simp] theorem kH4_ok (op : CmpOp) (o o' : Od) (ρ : En) : kH4 op o (.ok (o', ρ)) = kC3 op (der ρ o) (der ρ o') ρ := rfl
@[simp] theorem xE_ch (o1 o2 : CmpOp) (a b c : Ex) (ρ : En) : xE M (.ch o1 o2 a b c) ρ = kH1 M o1 o2 b c (xO M a ρ) := by simp only [xE, evE]; rfl
/-! and, or, not, if -/
def kA1' (d : Option D) (ρ : En) : RE := opt d fun d => .ok (d, false, ρ)
def kA1 (r : RO) : RE := r.bind fun x => kA1' (der x.2 x.1) (frz1 x.1 x.2)
@[simp] theorem kA1_ok (o : Od) (ρ : En) : kA1 (.ok (o, ρ)) = kA1' (der ρ o) (frz1 o ρ) := rfl
@[simp] theorem kA1'_some (d : D) (ρ : En) : kA1' (some d) ρ = .ok (d, false, ρ) := rfl
@[simp] theorem frz1_v (d : D) (ρ : En) : frz1 (.v d) ρ = ρ := rfl
def kA5 (isAnd : Bool) (es : List Ex) (o : Od) (d : D) (t : Bool) (ρ : En) : RE := if t = isAnd then xA M isAnd es ρ else .ok (d, false, frz1 o ρ)
def kA4 (isAnd : Bool) (es : List Ex) (o : Od) (d : D) (t : Option Bool) (ρ : En) : RE := opt t fun t => kA5 M isAnd es o d t ρ
def kA3 (isAnd : Bool) (es : List Ex) (o : Od) (d : Option D) (ρ : En) : RE := opt d fun d => kA4 M isAnd es o d (truD d) ρ
def kA2 (isAnd : Bool) (es : List Ex) (r : RO) : RE := r.bind fun x => kA3 M isAnd es x.1 (der x.2 x.1) x.2
@[simp] theorem kA2_ok (b : Bool) (es : List Ex) (o : Od) (ρ : En) : kA2 M b es (.ok (o, ρ)) = kA3 M b es o (der ρ o) ρ := rfl
@[simp] theorem kA3_some (b : Bool) (es : List Ex) (o : Od) (d : D) (ρ : En) : kA3 M b es o (some d) ρ = kA4 M b es o d (truD d) ρ := rfl
@[simp] theorem kA4_some (b : Bool) (es : List Ex) (o : Od) (d : D) (t : Bool) (ρ : En) : kA4 M b es o d (some t) ρ = kA5 M b es o d t ρ := rfl
@[simp] theorem kA5_go (b : Bool) (es : List Ex) (o : Od) (d : D) (ρ : En) : kA5 M b es o d b ρ = xA M b es ρ := by simp [kA5]
@[simp] theorem kA5_and (es : List Ex) (o : Od) (d : D) (ρ : En) : kA5 M true es o d false ρ = .ok (d, false, frz1 o ρ) := rfl
@[simp] theorem kA5_or (es : List Ex) (o : Od) (d : D) (ρ : En) : kA5 M false es o d true ρ = .ok (d, false, frz1 o ρ) := rfl
@[simp] theorem xA_one (b : Bool) (e : Ex) (ρ : En) : xA M b [e] ρ = kA1 (xO M e ρ) := by simp only [xA, evA]; rfl
@[simp] theorem xA_cons (b : Bool) (e f : Ex) (es : List Ex) (ρ : En) : xA M b (e :: f :: es) ρ = kA2 M b (f :: es) (xO M e ρ) := by simp only [xA, evA]; rfl
@[simp] theorem xE_and (es : List Ex) (ρ : En) : xE M (.and es) ρ = xA M true es ρ := by simp only [xE, evE]; rfl
@[simp] theorem xE_or (es : List Ex) (ρ : En) : xE M (.or es) ρ = xA M false es ρ := by simp only [xE, evE]; rfl
def tru (d : Option D) : Option Bool := d.bind truD
@[simp] theorem tru_bl (b : Bool) : tru (some (.bl b)) = some b := rfl
@[simp] theorem tru_int (b : Int) : tru (some (.int b)) = some (b != 0) := rfl
@[simp] theorem tru_tup (b : List D) : tru (some (.tup b)) = some (!b.isEmpty) := rfl
@[simp] theorem tru_lst (b : List D) : tru (some (.lst b)) = some (!b.isEmpty) := rfl
@[simp] theorem tru_str (b : List Nat) : tru (some (.str b)) = some (!b.isEmpty) := rfl
@[simp] theorem tru_non : tru (some .non) = some false := rfl
@[simp] theorem truD_bl (b : Bool) : truD (.bl b) = some b := rfl
def kNot2 (t : Option Bool) (ρ : En) : RE := opt t fun b => .ok (.bl (!b), false, ρ)
def kNot (r : RO) : RE := r.bind fun x => kNot2 (tru (der x.2 x.1)) x.2
@[simp] theorem kNot_ok (o : Od) (ρ : En) : kNot (.ok (o, ρ)) = kNot2 (tru (der ρ o)) ρ := rfl
@[simp] theorem kNot2_some (b : Bool) (ρ : En) : kNot2 (some b) ρ = .ok (.bl (!b), false, ρ) := rfl
@[simp] theorem xE_not (a : Ex) (ρ : En) : xE M (.not a) ρ = kNot (xO M a ρ) := by simp only [xE, evE]; rfl
def kIfe3 (a b : Ex) (t : Bool) (ρ : En) : RE := if t then xE M a ρ else xE M b ρ
def kIfe2 (a b : Ex) (t : Option Bool) (ρ : En) : RE := opt t fun t => kIfe3 M a b t ρ
def kIfe (a b : Ex) (r : RO) : RE := r.bind fun x => kIfe2 M a b (tru (der x.2 x.1)) x.2
@[simp] theorem kIfe_ok (a b : Ex) (o : Od) (ρ : En) : kIfe M a b (.ok (o, ρ)) = kIfe2 M a b (tru (der ρ o)) ρ := rfl
@[simp] theorem kIfe2_some (a b : Ex) (t : Bool) (ρ : En) : kIfe2 M a b (some t) ρ = kIfe3 M a b t ρ := rfl
@[simp] theorem kIfe3_true (a b : Ex) (ρ : En) : kIfe3 M a b true ρ = xE M a ρ := rfl
@[simp] theorem kIfe3_false (a b : Ex) (ρ : En) : kIfe3 M a b false ρ = xE M b ρ := rfl
@[simp] theorem xE_ife (c a b : Ex) (ρ : En) : xE M (.ife c a b) ρ = kIfe M a b (xO M c ρ) := by simp only [xE, evE]; rfl
/-! items, slices -/
def kIx4 (z : Option D) (ρ : En) : RE := opt z fun z => .ok (z, false, ρ)
def kIx3 (p q : Option D) (ρ : En) : RE := opt p fun p => opt q fun q => kIx4 (ixD p q) ρ
def kIx2 (o : Od) (r : RO) : RE := r.bind fun y => kIx3 (der y.2 o) (der y.2 y.1) y.2
def kIx1 (b : Ex) (r : RO) : RE := r.bind fun x => kIx2 x.1 (xO M b x.2)
@[simp] theorem kIx1_ok (b : Ex) (o : Od) (ρ : En) : kIx1 M b (.ok (o, ρ)) = kIx2 o (xO M b ρ) := rfl
@[simp] theorem kIx2_ok (o o' : Od) (ρ : En) : kIx2 o (.ok (o', ρ)) = kIx3 (der ρ o) (der ρ o') ρ := rfl
@[simp] theorem kIx3_some (p q : D) (ρ : En) : kIx3 (some p) (some q) ρ = kIx4 (ixD p q) ρ := rfl
@[simp] theorem kIx4_some (d : D) (ρ : En) : kIx4 (some d) ρ = .ok (d, false, ρ) := rfl
@[simp] theorem xE_ix (a b : Ex) (ρ : En) : xE M (.ix a b) ρ = kIx1 M b (xO M a ρ) := by simp only [xE, evE]; rfl
def kBd2 (d : Option D) (ρ : En) : R (Option Int × En) := match d with
  | some (.int i) => .ok (some i, ρ)
  | _ => .bad
def kBd (r : RO) : R (Option Int × En) := r.bind fun x => kBd2 (der x.2 x.1) x.2
@[simp] theorem kBd_ok (o : Od) (ρ : En) : kBd (.ok (o, ρ)) = kBd2 (der ρ o) ρ := rfl
@[simp] theorem kBd2_ok (i : Int) (ρ : En) : kBd2 (some (.int i)) ρ = .ok (some i, ρ) := rfl
@[simp] theorem xB_none (ρ : En) : xB M none ρ = .ok (none, ρ) := by simp only [xB, evB]
@[simp] theorem xB_some (e : Ex) (ρ : En) : xB M (some e) ρ = kBd (xO M e ρ) := by simp only [xB, evB]; rfl
def kSl4 (p : Option D) (l h : Option Int) (ρ : En) : RE := opt p fun p => kV (slD p l h) ρ
def kSl3 (o : Od) (l : Option Int) (r : R (Option Int × En)) : RE := r.bind fun h => kSl4 (der h.2 o) l h.1 h.2
def kSl2 (hi : Option Ex) (o : Od) (r : R (Option Int × En)) : RE := r.bind fun l => kSl3 o l.1 (xB M hi l.2)
def kSl1 (lo hi : Option Ex) (r : RO) : RE := r.bind fun x => kSl2 M hi x.1 (xB M lo x.2)
@[simp] theorem kSl1_ok (lo hi : Option Ex) (o : Od) (ρ : En) : kSl1 M lo hi (.ok (o, ρ)) = kSl2 M hi o (xB M lo ρ) := rfl
@[simp] theorem kSl2_ok (hi : Option Ex) (o : Od) (l : Option Int) (ρ : En) : kSl2 M hi o (.ok (l, ρ)) = kSl3 o l (xB M hi ρ) := rfl
@[simp] theorem kSl3_ok (o : Od) (l h : Option Int) (ρ : En) : kSl3 o l (.ok (h, ρ)) = kSl4 (der ρ o) l h ρ := rfl
@[simp] theorem kSl4_some (p : D) (l h : Option Int) (ρ : En) : kSl4 (some p) l h ρ = kV (slD p l h) ρ := rfl
@[simp] theorem xE_sl (a : Ex) (lo hi : Option Ex) (ρ : En) : xE M (.sl a lo hi) ρ = kSl1 M lo hi (xO M a ρ) := by simp only [xE, evE]; rfl
def kSt3 (p : Option D) (l : Option Int) (j : Int) (ρ : En) : RE := opt p fun p => kV (skD p l j) ρ
def kSt2 (j : Int) (o : Od) (r : R (Option Int × En)) : RE := r.bind fun l => kSt3 (der l.2 o) l.1 j l.2
def kSt1 (lo : Option Ex) (j : Int) (r : RO) : RE := r.bind fun x => kSt2 j x.1 (xB M lo x.2)
@[simp] theorem kSt1_ok (lo : Option Ex) (j : Int) (o : Od) (ρ : En) : kSt1 M lo j (.ok (o, ρ)) = kSt2 j o (xB M lo ρ) := rfl
@[simp] theorem kSt2_ok (j : Int) (o : Od) (l : Option Int) (ρ : En) : kSt2 j o (.ok (l, ρ)) = kSt3 (der ρ o) l j ρ := rfl
@[simp] theorem kSt3_some (p : D) (l : Option Int) (j : Int) (ρ : En) : kSt3 (some p) l j ρ = kV (skD p l j) ρ := rfl
@[simp] theorem xE_st (a : Ex) (lo : Option Ex) (j : Int) (ρ : En) : xE M (.st a lo j) ρ = kSt1 M lo j (xO M a ρ) := by simp only [xE, evE]; rfl
/-! calls -/
def kCa4 (f : Nat) (a : List SV) (l b : List Nat) (t : Bool) (ρ : En) : RE := if t then callR (M.cf f a) l b ρ else .bad
def kCa3 (f : Nat) (z : Option (List SV × List Nat × List Nat)) (ρ : En) : RE := opt z fun a => kCa4 M f a.1 a.2.1 a.2.2 (apart a.2.1 a.2.2) ρ
def kCa2 (f : Nat) (os : List Od) (ms : Option (List Bool)) (ρ : En) : RE := opt ms fun ms => kCa3 M f (mkArgs ρ os ms) ρ
def kCa1 (f : Nat) (r : R (List Od × En)) : RE := r.bind fun x => kCa2 M f x.1 (M.mf f) x.2
@[simp] theorem kCa1_ok (f : Nat) (os : List Od) (ρ : En) : kCa1 M f (.ok (os, ρ)) = kCa2 M f os (M.mf f) ρ := rfl
@[simp] theorem kCa2_some (f : Nat) (os : List Od) (ms : List Bool) (ρ : En) : kCa2 M f os (some ms) ρ = kCa3 M f (mkArgs ρ os ms) ρ := rfl
@[simp] theorem kCa3_some (f : Nat) (a : List SV) (l b : List Nat) (ρ : En) : kCa3 M f (some (a, l, b)) ρ = kCa4 M f a l b (apart l b) ρ := rfl
@[simp] theorem kCa4_true (f : Nat) (a : List SV) (l b : List Nat) (ρ : En) : kCa4 M f a l b true ρ = callR (M.cf f a) l b ρ := rfl
def kCf4 (f : Nat) (a : List SV) (d : D) (l b : List Nat) (t : Prop) [Decidable t] (ρ : En) : RE := if t then callRf (M.cf f (a ++ [.own d])) l b ρ else .bad
def kCf3 (f n : Nat) (d : D) (ms : List Bool) (z : Option (List SV × List Nat × List Nat)) (ρ : En) : RE := opt z fun a => kCf4 M f a.1 d a.2.1 a.2.2 (ms[n]? = some true ∧ apart a.2.1 a.2.2 = true) ρ
def kCf2 (f : Nat) (os : List Od) (d : D) (ms : Option (List Bool)) (ρ : En) : RE := opt ms fun ms => kCf3 M f os.length d ms (mkArgs ρ os ms) ρ
def kCf1 (f : Nat) (os : List Od) (r : RE) : RE := r.bind fun y => if y.2.1 then kCf2 M f os y.1 (M.mf f) y.2.2 else .bad
def kCf0 (f : Nat) (e : Ex) (r : R (List Od × En)) : RE := r.bind fun x => kCf1 M f x.1 (xE M e x.2)
@[simp] theorem kCf0_ok (f : Nat) (e : Ex) (os : List Od) (ρ : En) : kCf0 M f e (.ok (os, ρ)) = kCf1 M f os (xE M e ρ) := rfl
@[simp] theorem kCf1_ok (f : Nat) (os : List Od) (d : D) (ρ : En) : kCf1 M f os (.ok (d, true, ρ)) = kCf2 M f os d (M.mf f) ρ := rfl
@[simp] theorem kCf2_some (f : Nat) (os : List Od) (d : D) (ms : List Bool) (ρ : En) : kCf2 M f os d (some ms) ρ = kCf3 M f os.length d ms (mkArgs ρ os ms) ρ := rfl
@[simp] theorem kCf3_some (f n : Nat) (d : D) (ms : List Bool) (a : List SV) (l b : List Nat) (ρ : En) : kCf3 M f n d ms (some (a, l, b)) ρ = kCf4 M f a d l b (ms[n]? = some true ∧ apart l b = true) ρ := rfl
@[simp] theorem kCf4_true (f : Nat) (a : List SV) (d : D) (l b : List Nat) (t : Prop) [Decidable t] (h : t) (ρ : En) : kCf4 M f a d l b t ρ = callRf (M.cf f (a ++ [.own d])) l b ρ := if_pos h
@[simp] theorem xE_callf (f : Nat) (es : List Ex) (e : Ex) (ρ : En) : xE M (.callf f es e) ρ = kCf0 M f e (xOs M es ρ) := by simp only [xE, evE]; rfl
@[simp] theorem xE_call (f : Nat) (es : List Ex) (ρ : En) : xE M (.call f es) ρ = kCa1 M f (xOs M es ρ) := by simp only [xE, evE]; rfl
@[simp] theorem callR_plain (d : D) (fr : Bool) (ρ : En) : callR (.ok d fr []) [] [] ρ = .ok (d, fr, ρ) := rfl
@[simp] theorem mkArgs_nil (ρ : En) (ms : List Bool) : mkArgs ρ [] ms = some ([], [], []) := by cases ms <;> rfl
def kMv (d : D) (z : Option (List SV × List Nat × List Nat)) : Option (List SV × List Nat × List Nat) := z.map fun (a, l, b) => (.val d :: a, l, b)
@[simp] theorem kMv_some (d : D) (a : List SV) (l b : List Nat) : kMv d (some (a, l, b)) = some (.val d :: a, l, b) := rfl
@[simp] theorem mkArgs_v (ρ : En) (d : D) (os : List Od) (ms : List Bool) : mkArgs ρ (.v d :: os) (false :: ms) = kMv d (mkArgs ρ os ms) := by simp only [mkArgs]; rfl
def kMs (i : Nat) (v : Option (Option SV)) (m : Bool) (z : Option (List SV × List Nat × List Nat)) : Option (List SV × List Nat × List Nat) := match v, m with
    | some (some (.own d)), true => z.map fun (a, l, b) => (.own d :: a, i :: l, b)
    | some (some (.own d)), false => z.map fun (a, l, b) => (.val d :: a, l, i :: b)
    | some (some (.val d)), false => z.map fun (a, l, b) => (.val d :: a, l, b)
    | _, _ => none
@[simp] theorem kMs_ot (i : Nat) (d : D) (a : List SV) (l b : List Nat) : kMs i (some (some (.own d))) true (some (a, l, b)) = some (.own d :: a, i :: l, b) := rfl
@[simp] theorem kMs_of (i : Nat) (d : D) (a : List SV) (l b : List Nat) : kMs i (some (some (.own d))) false (some (a, l, b)) = some (.val d :: a, l, i :: b) := rfl
@[simp] theorem kMs_vf (i : Nat) (d : D) (a : List SV) (l b : List Nat) : kMs i (some (some (.val d))) false (some (a, l, b)) = some (.val d :: a, l, b) := rfl
@[simp] theorem mkArgs_s (ρ : En) (i : Nat) (m : Bool) (os : List Od) (ms : List Bool) : mkArgs ρ (.s i :: os) (m :: ms) = kMs i ρ[i]? m (mkArgs ρ os ms) := by
  unfold kMs
  rcases h : ρ[i]? with _ | _ | ⟨d⟩ | ⟨d⟩ <;> cases m <;> simp [mkArgs, h]
@[simp] theorem apart_nil (b : List Nat) : apart [] b = true := rfl
def kBi2 (b : Bi) (ds : Option (List D)) (ρ : En) : RE := opt ds fun ds => kV (biD b ds) ρ
def kBi1 (b : Bi) (r : R (List Od × En)) : RE := r.bind fun x => kBi2 b (ders x.2 x.1) x.2
@[simp] theorem kBi1_ok (b : Bi) (os : List Od) (ρ : En) : kBi1 b (.ok (os, ρ)) = kBi2 b (ders ρ os) ρ := rfl
@[simp] theorem kBi2_some (b : Bi) (ds : List D) (ρ : En) : kBi2 b (some ds) ρ = kV (biD b ds) ρ := rfl
def kItr2 (z : Option (List D)) (ρ : En) : RE := opt z fun z => .ok (.lst z, false, ρ)
@[simp] theorem kItr2_some (z : List D) (ρ : En) : kItr2 (some z) ρ = .ok (.lst z, false, ρ) := rfl
def kItr1 (b : Bi) (r : R (List D × En)) : RE := r.bind fun x => kItr2 (itD b x.1) x.2
@[simp] theorem kItr1_ok (b : Bi) (ds : List D) (ρ : En) : kItr1 b (.ok (ds, ρ)) = kItr2 (itD b ds) ρ := rfl
def kTup2 (z : Option (List D)) (ρ : En) : RE := opt z fun z => .ok (.tup z, false, ρ)
@[simp] theorem kTup2_some (z : List D) (ρ : En) : kTup2 (some z) ρ = .ok (.tup z, false, ρ) := rfl
def kTupI1 (b : Bi) (r : R (List D × En)) : RE := r.bind fun x => kTup2 (itT b x.1) x.2
@[simp] theorem kTupI1_ok (b : Bi) (ds : List D) (ρ : En) : kTupI1 b (.ok (ds, ρ)) = kTup2 (itT b ds) ρ := rfl
@[simp] theorem xE_tupI (b : Bi) (es : List Ex) (ρ : En) : xE M (.tupI b es) ρ = kTupI1 b (xVs M es ρ) := by simp only [xE, evE]; rfl
theorem itT_rg1 {n : Int} (h : smallI n = true) (h2 : n.toNat ≤ line) : itT .range [.int n] = some (rangeL 0 n.toNat) := by
  show (if smallI n && decide (n.toNat ≤ line) then some (rangeL 0 n.toNat) else none) = _
  rw [h, decide_eq_true h2]; rfl
theorem itT_rg2 {a b : Int} (h : smallI a = true) (h1 : smallI b = true) (h2 : (b - a).toNat ≤ line) : itT .range [.int a, .int b] = some (rangeL a (b - a).toNat) := by
  show (if smallI a && smallI b && decide ((b - a).toNat ≤ line) then some (rangeL a (b - a).toNat) else none) = _
  rw [h, h1, decide_eq_true h2]; rfl
theorem itD_rg2 {a b : Int} (h : smallI a = true) (h1 : smallI b = true) : itD .range [.int a, .int b] = some (rangeL a (b - a).toNat) := by
  show (if smallI a && smallI b then some (rangeL a (b - a).toNat) else none) = _
  rw [h, h1]; rfl
@[simp] theorem itT_revL {x : List D} (h : lets x.reverse = false) : itT .rev [.lst x] = some x.reverse := by simp [itT, h]
@[simp] theorem xE_itr (b : Bi) (es : List Ex) (ρ : En) : xE M (.itr b es) ρ = kItr1 b (xVs M es ρ) := by simp only [xE, evE]; rfl
theorem zok_l : ∀ {x : List D} (y : List D), (∀ d ∈ x, lett d = false) → zok x y = true
  | [], [], _ => rfl
  | [], _ :: _, _ => rfl
  | _ :: _, [], _ => rfl
  | d :: x, e :: y, h => by
    simp only [zok, h d List.mem_cons_self, Bool.false_and, Bool.not_false, Bool.true_and]
    exact zok_l y fun a ha => h a (List.mem_cons_of_mem _ ha)
@[simp] theorem itD_zipT {x y : List D} (h : zok x y = true) : itD .zip [.tup x, .tup y] = some (zipL x y) := by simp only [itD, h, if_true]
@[simp] theorem itD_zipL {x y : List D} (h : zok x y = true) : itD .zip [.lst x, .lst y] = some (zipL x y) := by simp only [itD, h, if_true]
@[simp] theorem itD_enum (x : List D) : itD .enum [.lst x] = some (enumL 0 x) := rfl
@[simp] theorem itD_revL (x : List D) : itD .rev [.lst x] = some x.reverse := rfl
@[simp] theorem itD_revT (x : List D) : itD .rev [.tup x] = some x.reverse := rfl
@[simp] theorem xE_bi (b : Bi) (es : List Ex) (ρ : En) : xE M (.bi b es) ρ = kBi1 b (xOs M es ρ) := by simp only [xE, evE]; rfl
def kIs3 (ts : List Nat) (p : D) (t : Bool) (ρ : En) : RE := if t then .ok (.bl (ts.any (isT1 p)), false, ρ) else .bad
def kIs2 (ts : List Nat) (p : Option D) (ρ : En) : RE := opt p fun p => kIs3 ts p (tyOk p) ρ
def kIs1 (ts : List Nat) (r : RO) : RE := r.bind fun x => kIs2 ts (der x.2 x.1) x.2
@[simp] theorem kIs1_ok (ts : List Nat) (o : Od) (ρ : En) : kIs1 ts (.ok (o, ρ)) = kIs2 ts (der ρ o) ρ := rfl
@[simp] theorem kIs2_some (ts : List Nat) (p : D) (ρ : En) : kIs2 ts (some p) ρ = kIs3 ts p (tyOk p) ρ := rfl
@[simp] theorem kIs3_true (ts : List Nat) (p : D) (ρ : En) : kIs3 ts p true ρ = .ok (.bl (ts.any (isT1 p)), false, ρ) := rfl
@[simp] theorem xE_isi (a : Ex) (ts : List Nat) (ρ : En) : xE M (.isi a ts) ρ = kIs1 ts (xO M a ρ) := by simp only [xE, evE]; rfl
def kMt4 (m : Nat) (p : D) (q : Option D) (ds : Option (List D)) (ρ : En) : RE := opt ds fun ds => if q = some p then kV (mtD m p ds) ρ else .bad
def kMt3 (m : Nat) (p : D) (o : Od) (r : R (List Od × En)) : RE := r.bind fun y => kMt4 m p (der y.2 o) (ders y.2 y.1) y.2
def kMt2 (m : Nat) (es : List Ex) (o : Od) (p : Option D) (ρ : En) : RE := opt p fun p => kMt3 m p o (xOs M es ρ)
def kMt1 (m : Nat) (es : List Ex) (r : RO) : RE := r.bind fun x => kMt2 M m es x.1 (der x.2 x.1) x.2
@[simp] theorem kMt1_ok (m : Nat) (es : List Ex) (o : Od) (ρ : En) : kMt1 M m es (.ok (o, ρ)) = kMt2 M m es o (der ρ o) ρ := rfl
@[simp] theorem kMt2_some (m : Nat) (es : List Ex) (o : Od) (p : D) (ρ : En) : kMt2 M m es o (some p) ρ = kMt3 m p o (xOs M es ρ) := rfl
@[simp] theorem kMt3_ok (m : Nat) (p : D) (o : Od) (os : List Od) (ρ : En) : kMt3 m p o (.ok (os, ρ)) = kMt4 m p (der ρ o) (ders ρ os) ρ := rfl
@[simp] theorem kMt4_some (m : Nat) (p : D) (ds : List D) (ρ : En) : kMt4 m p (some p) (some ds) ρ = kV (mtD m p ds) ρ := by
  show (if some p = some p then kV (mtD m p ds) ρ else .bad) = _
  rw [if_pos rfl]
@[simp] theorem xE_mt (m : Nat) (a : Ex) (es : List Ex) (ρ : En) : xE M (.mt m a es) ρ = kMt1 M m es (xO M a ρ) := by simp only [xE, evE]; rfl
def kMu3 (i : Nat) (z : Option (D × D)) (ρ : En) : RE := opt z fun z => .ok (z.1, false, ρ.set i (some (.own z.2)))
def kMu2 (m i : Nat) (ds : List D) (v : Option (Option SV)) (ρ : En) : RE := match v with
  | some (some (.own d)) => kMu3 i (muD m d ds) ρ
  | _ => .bad
def kMu1 (m i : Nat) (r : R (List D × En)) : RE := r.bind fun x => kMu2 m i x.1 x.2[i]? x.2
def kMu0 (m i : Nat) (es : List Ex) (t : Bool) (ρ : En) : RE := if t then kMu1 m i (xVs M es ρ) else .bad
@[simp] theorem kMu0_true (m i : Nat) (es : List Ex) (ρ : En) : kMu0 M m i es true ρ = kMu1 m i (xVs M es ρ) := rfl
@[simp] theorem kMu1_ok (m i : Nat) (ds : List D) (ρ : En) : kMu1 m i (.ok (ds, ρ)) = kMu2 m i ds ρ[i]? ρ := rfl
@[simp] theorem kMu2_own (m i : Nat) (ds : List D) (d : D) (ρ : En) : kMu2 m i ds (some (some (.own d))) ρ = kMu3 i (muD m d ds) ρ := rfl
@[simp] theorem kMu3_some (i : Nat) (d d' : D) (ρ : En) : kMu3 i (some (d, d')) ρ = .ok (d, false, ρ.set i (some (.own d'))) := rfl
@[simp] theorem isOwn_own (d : D) : isOwn (some (some (.own d))) = true := rfl
@[simp] theorem isOwn_val (d : D) : isOwn (some (some (.val d))) = false := rfl
@[simp] theorem isOwn_none : isOwn (some none) = false := rfl
@[simp] theorem xE_mu (m i : Nat) (es : List Ex) (ρ : En) : xE M (.mu m i es) ρ = kMu0 M m i es (isOwn ρ[i]?) ρ := by
  simp only [xE, evE]
  unfold kMu0
  split
  · unfold kMu1 xVs
    congr
  · rfl
/-! going over -/
def kIn (i : Nat) (v : Option (Option SV)) (ρ : En) : R (List D × Option (Nat × List D) × En) := match v with
    | some (some (.own (.lst ds))) => .ok (ds, some (i, ds), ρ)
    | some (some (.val d)) => opt (itemsD d) fun ds => .ok (ds, none, ρ)
    | _ => .bad
@[simp] theorem kIn_own (i : Nat) (ds : List D) (ρ : En) : kIn i (some (some (.own (.lst ds)))) ρ = .ok (ds, some (i, ds), ρ) := rfl
@[simp] theorem kIn_lst (i : Nat) (ds : List D) (ρ : En) : kIn i (some (some (.val (.lst ds)))) ρ = .ok (ds, none, ρ) := rfl
@[simp] theorem kIn_tup (i : Nat) (ds : List D) (ρ : En) : kIn i (some (some (.val (.tup ds)))) ρ = .ok (ds, none, ρ) := rfl
@[simp] theorem xI_nm (i : Nat) (ρ : En) : xI M (.nm i) ρ = kIn i ρ[i]? ρ := rfl
def kI (r : RE) : R (List D × Option (Nat × List D) × En) := r.bind fun x => opt (itemsD x.1) fun ds => .ok (ds, none, x.2.2)
@[simp] theorem kI_lst (ds : List D) (f : Bool) (ρ : En) : kI (.ok (.lst ds, f, ρ)) = .ok (ds, none, ρ) := rfl
@[simp] theorem kI_tup (ds : List D) (f : Bool) (ρ : En) : kI (.ok (.tup ds, f, ρ)) = .ok (ds, none, ρ) := rfl
@[simp] theorem xI_bi (b : Bi) (es : List Ex) (ρ : En) : xI M (.bi b es) ρ = kI (xE M (.bi b es) ρ) := rfl
@[simp] theorem xI_bin (a b c) (ρ : En) : xI M (.bin a b c) ρ = kI (xE M (.bin a b c) ρ) := rfl
@[simp] theorem xI_ix (a b) (ρ : En) : xI M (.ix a b) ρ = kI (xE M (.ix a b) ρ) := rfl
@[simp] theorem xI_st (a b c) (ρ : En) : xI M (.st a b c) ρ = kI (xE M (.st a b c) ρ) := rfl
@[simp] theorem xI_sl (a b c) (ρ : En) : xI M (.sl a b c) ρ = kI (xE M (.sl a b c) ρ) := rfl
@[simp] theorem xI_call (a b) (ρ : En) : xI M (.call a b) ρ = kI (xE M (.call a b) ρ) := rfl
@[simp] theorem xI_tup (a) (ρ : En) : xI M (.tup a) ρ = kI (xE M (.tup a) ρ) := rfl
@[simp] theorem xI_lst (a) (ρ : En) : xI M (.lst a) ρ = kI (xE M (.lst a) ρ) := rfl
@[simp] theorem xI_itr (a b) (ρ : En) : xI M (.itr a b) ρ = kI (xE M (.itr a b) ρ) := rfl
@[simp] theorem xI_tupI (a b) (ρ : En) : xI M (.tupI a b) ρ = kI (xE M (.tupI a b) ρ) := rfl
@[simp] theorem xI_lc (a b c d e) (ρ : En) : xI M (.lc a b c d e) ρ = kI (xE M (.lc a b c d e) ρ) := rfl
@[simp] theorem xI_mt (a b c) (ρ : En) : xI M (.mt a b c) ρ = kI (xE M (.mt a b c) ρ) := rfl
/-- one turn of a comprehension -/
def kTn2 (elt : Ex) (t : Bool) (ρ : En) : R (Option D × En) := if t then (xE M elt ρ).bind fun z => .ok (some z.1, z.2.2) else .ok (none, ρ)
def kTn1 (elt : Ex) (c : Option Ex) (ρ : En) : R (Option D × En) := match c with
  | none => kTn2 M elt true ρ
  | some c => (xO M c ρ).bind fun x => opt (tru (der x.2 x.1)) fun t => kTn2 M elt t x.2
def turn (elt : Ex) (tg : Tg) (c : Option Ex) (d : D) (ρ : En) : R (Option D × En) := opt (asgT tg (.val d) ρ) fun ρ2 => kTn1 M elt c ρ2
def kLc3 (own : List Nat) (ρ : En) (r : R (List D × En)) : RE := r.bind fun r => .ok (.lst r.1, true, back ρ r.2 own)
def kLc2 (own : List Nat) (elt : Ex) (tg : Tg) (c : Option Ex) (ds : List D) (g : Option (Nat × List D)) (t : Bool) (ρ : En) : RE := if t then .bad else kLc3 own ρ (lcL g own (turn M elt tg c) ds (wip ρ own))
def kLc1 (own : List Nat) (elt : Ex) (tg : Tg) (c : Option Ex) (r : R (List D × Option (Nat × List D) × En)) : RE := r.bind fun s => kLc2 M own elt tg c s.1 s.2.1 (own.any (fun i => isOwn (s.2.2[i]?)) || decide (line ≤ s.1.length)) s.2.2
@[simp] theorem kLc1_ok (own : List Nat) (elt : Ex) (tg : Tg) (c : Option Ex) (ds : List D) (g : Option (Nat × List D)) (ρ : En) : kLc1 M own elt tg c (.ok (ds, g, ρ)) = kLc2 M own elt tg c ds g (own.any (fun i => isOwn (ρ[i]?)) || decide (line ≤ ds.length)) ρ := rfl
@[simp] theorem kLc2_false (own : List Nat) (elt : Ex) (tg : Tg) (c : Option Ex) (ds : List D) (g : Option (Nat × List D)) (ρ : En) : kLc2 M own elt tg c ds g false ρ = kLc3 own ρ (lcL g own (turn M elt tg c) ds (wip ρ own)) := rfl
@[simp] theorem kLc3_ok (own : List Nat) (ρ ρ' : En) (ds : List D) : kLc3 own ρ (.ok (ds, ρ')) = .ok (.lst ds, true, back ρ ρ' own) := rfl
theorem bind_assoc' {α β γ : Type} (r : R α) (f : α → R β) (g : β → R γ) : (r.bind f).bind g = r.bind fun x => (f x).bind g := by cases r <;> rfl
theorem opt_bind {α β γ : Type} (r : Option α) (f : α → R β) (g : β → R γ) : (opt r f).bind g = opt r fun x => (f x).bind g := by cases r <;> rfl
@[simp] theorem xE_lc (own : List Nat) (elt : Ex) (tg : Tg) (it : Ex) (c : Option Ex) (ρ : En) : xE M (.lc own elt tg it c) ρ = kLc1 M own elt tg c (xI M it ρ) := by
  cases c with
  | none =>
    simp only [xE, evE]
    rfl
  | some c =>
    have e : (fun d ρ1 => opt (asgT tg (.val d) ρ1) fun ρ2 => ((od c ρ2 (evE M.mf M.cf c ρ2)).bind fun x => opt ((der x.2 x.1).bind truD) fun t => R.ok (t, x.2)).bind fun t =>
          if t.1 then (evE M.mf M.cf elt t.2).bind fun z => .ok (some z.1, z.2.2) else .ok (none, t.2)) = turn M elt tg (some c) := by
      funext d ρ1
      unfold turn
      congr
      funext ρ2
      simp only [bind_assoc', opt_bind]
      rfl
    simp only [xE, evE]
    rw [e]
    rfl
/-! statements -/
def kSeq (r : List Sm) (x : R (Fl × En)) : R (Fl × En) := x.bind fun x => match x.1 with
    | .nx => xSs M r x.2
    | f => .ok (f, x.2)
@[simp] theorem kSeq_nx (r : List Sm) (ρ : En) : kSeq M r (.ok (.nx, ρ)) = xSs M r ρ := rfl
@[simp] theorem kSeq_rt (r : List Sm) (d : D) (fr : Bool) (ρ : En) : kSeq M r (.ok (.rt d fr, ρ)) = .ok (.rt d fr, ρ) := rfl
@[simp] theorem xSs_nil (ρ : En) : xSs M [] ρ = .ok (.nx, ρ) := by simp only [xSs, exSs]
@[simp] theorem xSs_cons (s : Sm) (r : List Sm) (ρ : En) : xSs M (s :: r) ρ = kSeq M r (xS M s ρ) := by simp only [xSs, exSs]; rfl
def svO (ow fr : Bool) (d : D) : SV := if ow && fr then .own d else .val d
@[simp] theorem svO_t (d : D) : svO true true d = .own d := rfl
@[simp] theorem svO_f (fr : Bool) (d : D) : svO false fr d = .val d := rfl
@[simp] theorem svO_tf (d : D) : svO true false d = .val d := rfl
def kAs2 (ρ : Option En) : R (Fl × En) := opt ρ fun ρ' => .ok (.nx, ρ')
@[simp] theorem kAs2_some (ρ : En) : kAs2 (some ρ) = .ok (.nx, ρ) := rfl
def kAs (tg : Tg) (ow : Bool) (r : RE) : R (Fl × En) := r.bind fun x => kAs2 (asgT tg (svO ow x.2.1 x.1) x.2.2)
@[simp] theorem kAs_ok (tg : Tg) (ow fr : Bool) (d : D) (ρ : En) : kAs tg ow (.ok (d, fr, ρ)) = kAs2 (asgT tg (svO ow fr d) ρ) := rfl
@[simp] theorem xS_asg (tg : Tg) (ow : Bool) (e : Ex) (ρ : En) : xS M (.asg tg ow e) ρ = kAs tg ow (xE M e ρ) := by simp only [xS, exS]; rfl
def kTg (t : Bool) (ρ : En) : Option En := if t then some ρ else none
@[simp] theorem kTg_true (ρ : En) : kTg true ρ = some ρ := rfl
@[simp] theorem asgT_nm (i : Nat) (v : SV) (ρ : En) : asgT (.nm i) v ρ = kTg (decide (i < ρ.length)) (ρ.set i (some v)) := by simp only [asgT, kTg, decide_eq_true_eq]
@[simp] theorem asgT_tup (ts : List Tg) (ds : List D) (ρ : En) : asgT (.tup ts) (.val (.tup ds)) ρ = asgT.asgTs ts ds ρ := by simp only [asgT, SV.d]
@[simp] theorem asgT_tupL (ts : List Tg) (ds : List D) (ρ : En) : asgT (.tup ts) (.val (.lst ds)) ρ = asgT.asgTs ts ds ρ := by simp only [asgT, SV.d]
@[simp] theorem asgTs_nil (ρ : En) : asgT.asgTs [] [] ρ = some ρ := by simp only [asgT.asgTs]
def kTs (ts : List Tg) (ds : List D) (z : Option En) : Option En := z.bind fun ρ => asgT.asgTs ts ds ρ
@[simp] theorem kTs_some (ts : List Tg) (ds : List D) (ρ : En) : kTs ts ds (some ρ) = asgT.asgTs ts ds ρ := rfl
@[simp] theorem asgTs_cons (t : Tg) (ts : List Tg) (d : D) (ds : List D) (ρ : En) : asgT.asgTs (t :: ts) (d :: ds) ρ = kTs ts ds (asgT t (.val d) ρ) := by simp only [asgT.asgTs]; rfl
def kSi3 (i : Nat) (xs : List D) (d : D) (n : Option Nat) (ρ : En) : R (Fl × En) := opt n fun n => .ok (.nx, ρ.set i (some (.own (.lst (xs.set n d)))))
def kSi2 (i : Nat) (d : D) (v : Option (Option SV)) (j : Option D) (ρ : En) : R (Fl × En) := match v, j with
      | some (some (.own (.lst xs))), some (.int k) => kSi3 i xs d (ixn xs.length k) ρ
      | _, _ => .bad
def kSi1 (i : Nat) (d : D) (r : RO) : R (Fl × En) := r.bind fun y => kSi2 i d y.2[i]? (der y.2 y.1) y.2
def kSi0 (i : Nat) (j : Ex) (d : D) (t : Bool) (ρ : En) : R (Fl × En) := if t then kSi1 i d (xO M j ρ) else .bad
def kSi (i : Nat) (j : Ex) (r : RE) : R (Fl × En) := r.bind fun x => kSi0 M i j x.1 (isOwn x.2.2[i]?) x.2.2
@[simp] theorem kSi_ok (i : Nat) (j : Ex) (d : D) (f : Bool) (ρ : En) : kSi M i j (.ok (d, f, ρ)) = kSi0 M i j d (isOwn ρ[i]?) ρ := rfl
@[simp] theorem kSi0_true (i : Nat) (j : Ex) (d : D) (ρ : En) : kSi0 M i j d true ρ = kSi1 i d (xO M j ρ) := rfl
@[simp] theorem kSi1_ok (i : Nat) (d : D) (o : Od) (ρ : En) : kSi1 i d (.ok (o, ρ)) = kSi2 i d ρ[i]? (der ρ o) ρ := rfl
@[simp] theorem kSi2_ok (i : Nat) (d : D) (xs : List D) (k : Int) (ρ : En) : kSi2 i d (some (some (.own (.lst xs)))) (some (.int k)) ρ = kSi3 i xs d (ixn xs.length k) ρ := rfl
@[simp] theorem kSi3_some (i : Nat) (xs : List D) (d : D) (n : Nat) (ρ : En) : kSi3 i xs d (some n) ρ = .ok (.nx, ρ.set i (some (.own (.lst (xs.set n d))))) := rfl
@[simp] theorem xS_seti (i : Nat) (j e : Ex) (ρ : En) : xS M (.seti i j e) ρ = kSi M i j (xE M e ρ) := by simp only [xS, exS]; rfl
def kAu3 (i : Nat) (z : Option (D × Bool)) (ρ : En) : R (Fl × En) := opt z fun z => kAs2 (asgT (.nm i) (.val z.1) ρ)
def kAu2 (i : Nat) (op : Operator) (a : Int) (b : Option D) (ρ : En) : R (Fl × En) := match b with
  | some (.int b) => kAu3 i (binD op (.int a) (.int b)) ρ
  | _ => .bad
def kAu1 (i : Nat) (op : Operator) (a : Int) (r : RO) : R (Fl × En) := r.bind fun y => kAu2 i op a (der y.2 y.1) y.2
def kAu (i : Nat) (op : Operator) (e : Ex) (v : Option (Option SV)) (ρ : En) : R (Fl × En) := match v with
  | some (some (.val (.int a))) => kAu1 i op a (xO M e ρ)
  | _ => .bad
@[simp] theorem kAu_ok (i : Nat) (op : Operator) (e : Ex) (a : Int) (ρ : En) : kAu M i op e (some (some (.val (.int a)))) ρ = kAu1 i op a (xO M e ρ) := rfl
@[simp] theorem kAu1_ok (i : Nat) (op : Operator) (a : Int) (o : Od) (ρ : En) : kAu1 i op a (.ok (o, ρ)) = kAu2 i op a (der ρ o) ρ := rfl
@[simp] theorem kAu2_ok (i : Nat) (op : Operator) (a b : Int) (ρ : En) : kAu2 i op a (some (.int b)) ρ = kAu3 i (binD op (.int a) (.int b)) ρ := rfl
@[simp] theorem kAu3_ok (i : Nat) (d : D) (f : Bool) (ρ : En) : kAu3 i (some (d, f)) ρ = kAs2 (asgT (.nm i) (.val d) ρ) := rfl
@[simp] theorem xS_aug (i : Nat) (op : Operator) (e : Ex) (ρ : En) : xS M (.aug i op e) ρ = kAu M i op e ρ[i]? ρ := by
  simp only [xS, exS]
  rcases ρ[i]? with _ | _ | d | d <;> first | rfl | (cases d <;> rfl)
def kEx (r : RE) : R (Fl × En) := r.bind fun x => .ok (.nx, x.2.2)
@[simp] theorem kEx_ok (d : D) (f : Bool) (ρ : En) : kEx (.ok (d, f, ρ)) = .ok (.nx, ρ) := rfl
@[simp] theorem xS_ex (e : Ex) (ρ : En) : xS M (.ex e) ρ = kEx (xE M e ρ) := by simp only [xS, exS]; rfl
def kRn (i : Nat) (v : Option (Option SV)) (ρ : En) : R (Fl × En) := match v with
      | some (some (.own d)) => .ok (.rt d true, ρ.set i none)
      | some (some (.val d)) => .ok (.rt d false, ρ)
      | _ => .bad
@[simp] theorem kRn_o (i : Nat) (d : D) (ρ : En) : kRn i (some (some (.own d))) ρ = .ok (.rt d true, ρ.set i none) := rfl
@[simp] theorem kRn_v (i : Nat) (d : D) (ρ : En) : kRn i (some (some (.val d))) ρ = .ok (.rt d false, ρ) := rfl
@[simp] theorem xS_ret_nm (i : Nat) (ρ : En) : xS M (.ret (.nm i)) ρ = kRn i ρ[i]? ρ := by simp only [xS, exS]; rfl
def kRt (r : RE) : R (Fl × En) := r.bind fun x => .ok (.rt x.1 x.2.1, x.2.2)
@[simp] theorem kRt_ok (d : D) (f : Bool) (ρ : En) : kRt (.ok (d, f, ρ)) = .ok (.rt d f, ρ) := rfl
@[simp] theorem xS_ret_k (a) (ρ : En) : xS M (.ret (.k a)) ρ = kRt (xE M (.k a) ρ) := by simp only [xS, exS]; rfl
@[simp] theorem xS_ret_gc (a b) (ρ : En) : xS M (.ret (.gc a b)) ρ = kRt (xE M (.gc a b) ρ) := by simp only [xS, exS]; rfl
@[simp] theorem xS_ret_tup (a) (ρ : En) : xS M (.ret (.tup a)) ρ = kRt (xE M (.tup a) ρ) := by simp only [xS, exS]; rfl
@[simp] theorem xS_ret_lst (a) (ρ : En) : xS M (.ret (.lst a)) ρ = kRt (xE M (.lst a) ρ) := by simp only [xS, exS]; rfl
@[simp] theorem xS_ret_bin (a b c) (ρ : En) : xS M (.ret (.bin a b c)) ρ = kRt (xE M (.bin a b c) ρ) := by simp only [xS, exS]; rfl
@[simp] theorem xS_ret_neg (a) (ρ : En) : xS M (.ret (.neg a)) ρ = kRt (xE M (.neg a) ρ) := by simp only [xS, exS]; rfl
@[simp] theorem xS_ret_cmp (a b c) (ρ : En) : xS M (.ret (.cmp a b c)) ρ = kRt (xE M (.cmp a b c) ρ) := by simp only [xS, exS]; rfl
@[simp] theorem xS_ret_ch (a b c d e) (ρ : En) : xS M (.ret (.ch a b c d e)) ρ = kRt (xE M (.ch a b c d e) ρ) := by simp only [xS, exS]; rfl
@[simp] theorem xS_ret_and (a) (ρ : En) : xS M (.ret (.and a)) ρ = kRt (xE M (.and a) ρ) := by simp only [xS, exS]; rfl
@[simp] theorem xS_ret_or (a) (ρ : En) : xS M (.ret (.or a)) ρ = kRt (xE M (.or a) ρ) := by simp only [xS, exS]; rfl
@[simp] theorem xS_ret_not (a) (ρ : En) : xS M (.ret (.not a)) ρ = kRt (xE M (.not a) ρ) := by simp only [xS, exS]; rfl
@[simp] theorem xS_ret_ife (a b c) (ρ : En) : xS M (.ret (.ife a b c)) ρ = kRt (xE M (.ife a b c) ρ) := by simp only [xS, exS]; rfl
@[simp] theorem xS_ret_ix (a b) (ρ : En) : xS M (.ret (.ix a b)) ρ = kRt (xE M (.ix a b) ρ) := by simp only [xS, exS]; rfl
@[simp] theorem xS_ret_sl (a b c) (ρ : En) : xS M (.ret (.sl a b c)) ρ = kRt (xE M (.sl a b c) ρ) := by simp only [xS, exS]; rfl
@[simp] theorem xS_ret_st (a b c) (ρ : En) : xS M (.ret (.st a b c)) ρ = kRt (xE M (.st a b c) ρ) := by simp only [xS, exS]; rfl
@[simp] theorem xS_ret_call (a b) (ρ : En) : xS M (.ret (.call a b)) ρ = kRt (xE M (.call a b) ρ) := by simp only [xS, exS]; rfl
@[simp] theorem xS_ret_bi (a b) (ρ : En) : xS M (.ret (.bi a b)) ρ = kRt (xE M (.bi a b) ρ) := by simp only [xS, exS]; rfl
@[simp] theorem xS_ret_isi (a b) (ρ : En) : xS M (.ret (.isi a b)) ρ = kRt (xE M (.isi a b) ρ) := by simp only [xS, exS]; rfl
@[simp] theorem xS_ret_mt (a b c) (ρ : En) : xS M (.ret (.mt a b c)) ρ = kRt (xE M (.mt a b c) ρ) := by simp only [xS, exS]; rfl
@[simp] theorem xS_ret_itr (a b) (ρ : En) : xS M (.ret (.itr a b)) ρ = kRt (xE M (.itr a b) ρ) := by simp only [xS, exS]; rfl
@[simp] theorem xS_ret_tupI (a b) (ρ : En) : xS M (.ret (.tupI a b)) ρ = kRt (xE M (.tupI a b) ρ) := by simp only [xS, exS]; rfl
@[simp] theorem xS_ret_lc (a b c d e) (ρ : En) : xS M (.ret (.lc a b c d e)) ρ = kRt (xE M (.lc a b c d e) ρ) := by simp only [xS, exS]; rfl
def kIf (a b : List Sm) (t : Bool) (ρ : En) : R (Fl × En) := if t then xSs M a ρ else xSs M b ρ
def kIf2 (a b : List Sm) (t : Option Bool) (ρ : En) : R (Fl × En) := opt t fun t => kIf M a b t ρ
def kIf1 (a b : List Sm) (r : RO) : R (Fl × En) := r.bind fun x => kIf2 M a b (tru (der x.2 x.1)) x.2
@[simp] theorem kIf1_ok (a b : List Sm) (o : Od) (ρ : En) : kIf1 M a b (.ok (o, ρ)) = kIf2 M a b (tru (der ρ o)) ρ := rfl
@[simp] theorem kIf2_some (a b : List Sm) (t : Bool) (ρ : En) : kIf2 M a b (some t) ρ = kIf M a b t ρ := rfl
@[simp] theorem kIf_true (a b : List Sm) (ρ : En) : kIf M a b true ρ = xSs M a ρ := rfl
@[simp] theorem kIf_false (a b : List Sm) (ρ : En) : kIf M a b false ρ = xSs M b ρ := rfl
@[simp] theorem xS_ife (c : Ex) (a b : List Sm) (ρ : En) : xS M (.ife c a b) ρ = kIf1 M a b (xO M c ρ) := by simp only [xS, exS]; rfl
/-- a while loop, n turns left -/
def xW (c : Ex) (b : List Sm) (n : Nat) (ρ : En) : R (Fl × En) := whileL (fun ρ => (xO M c ρ).bind fun x => opt (tru (der x.2 x.1)) fun t => .ok (t, x.2)) (fun ρ => xSs M b ρ) n ρ
@[simp] theorem xS_whl (c : Ex) (b : List Sm) (ρ : En) : xS M (.whl c b) ρ = xW M c b M.W ρ := by simp only [xS, exS]; rfl
def kW3 (c : Ex) (b : List Sm) (n : Nat) (r : R (Fl × En)) : R (Fl × En) := r.bind fun x => match x.1 with
      | .nx => xW M c b n x.2
      | f => .ok (f, x.2)
def kW2 (c : Ex) (b : List Sm) (n : Nat) (t : Bool) (ρ : En) : R (Fl × En) := if t then kW3 M c b n (xSs M b ρ) else .ok (.nx, ρ)
def kW1 (c : Ex) (b : List Sm) (n : Nat) (t : Option Bool) (ρ : En) : R (Fl × En) := opt t fun t => kW2 M c b n t ρ
def kW0 (c : Ex) (b : List Sm) (n : Nat) (r : RO) : R (Fl × En) := r.bind fun x => kW1 M c b n (tru (der x.2 x.1)) x.2
@[simp] theorem kW0_ok (c : Ex) (b : List Sm) (n : Nat) (o : Od) (ρ : En) : kW0 M c b n (.ok (o, ρ)) = kW1 M c b n (tru (der ρ o)) ρ := rfl
@[simp] theorem kW1_some (c : Ex) (b : List Sm) (n : Nat) (t : Bool) (ρ : En) : kW1 M c b n (some t) ρ = kW2 M c b n t ρ := rfl
@[simp] theorem kW2_true (c : Ex) (b : List Sm) (n : Nat) (ρ : En) : kW2 M c b n true ρ = kW3 M c b n (xSs M b ρ) := rfl
@[simp] theorem kW2_false (c : Ex) (b : List Sm) (n : Nat) (ρ : En) : kW2 M c b n false ρ = .ok (.nx, ρ) := rfl
@[simp] theorem kW3_nx (c : Ex) (b : List Sm) (n : Nat) (ρ : En) : kW3 M c b n (.ok (.nx, ρ)) = xW M c b n ρ := rfl
@[simp] theorem kW3_rt (c : Ex) (b : List Sm) (n : Nat) (d : D) (f : Bool) (ρ : En) : kW3 M c b n (.ok (.rt d f, ρ)) = .ok (.rt d f, ρ) := rfl
/-- a turn of a while loop (to be rewritten by hand) -/
theorem xW_succ (c : Ex) (b : List Sm) (n : Nat) (ρ : En) : xW M c b (n + 1) ρ = kW0 M c b n (xO M c ρ) := by
  simp only [xW, whileL, bind_assoc', opt_bind]
  rfl
/-- a for loop -/
def xF (g : Option (Nat × List D)) (tg : Tg) (b : List Sm) (ds : List D) (ρ : En) : R (Fl × En) := forL g tg (fun ρ => xSs M b ρ) ds ρ
def kF (tg : Tg) (b : List Sm) (r : R (List D × Option (Nat × List D) × En)) : R (Fl × En) := r.bind fun s => xF M s.2.1 tg b s.1 s.2.2
@[simp] theorem kF_ok (tg : Tg) (b : List Sm) (ds : List D) (g : Option (Nat × List D)) (ρ : En) : kF M tg b (.ok (ds, g, ρ)) = xF M g tg b ds ρ := rfl
@[simp] theorem xS_for (tg : Tg) (it : Ex) (b : List Sm) (ρ : En) : xS M (.for tg it b) ρ = kF M tg b (xI M it ρ) := by simp only [xS, exS]; rfl
def kF2 (g : Option (Nat × List D)) (tg : Tg) (b : List Sm) (ds : List D) (r : R (Fl × En)) : R (Fl × En) := r.bind fun x => match x.1 with
      | .nx => xF M g tg b ds x.2
      | f => .ok (f, x.2)
def kF1 (g : Option (Nat × List D)) (tg : Tg) (b : List Sm) (ds : List D) (z : Option En) : R (Fl × En) := opt z fun ρ => kF2 M g tg b ds (xSs M b ρ)
def kF0 (g : Option (Nat × List D)) (tg : Tg) (b : List Sm) (d : D) (ds : List D) (t : Bool) (ρ : En) : R (Fl × En) := if t then kF1 M g tg b ds (asgT tg (.val d) ρ) else .bad
@[simp] theorem kF0_true (g : Option (Nat × List D)) (tg : Tg) (b : List Sm) (d : D) (ds : List D) (ρ : En) : kF0 M g tg b d ds true ρ = kF1 M g tg b ds (asgT tg (.val d) ρ) := rfl
@[simp] theorem kF1_some (g : Option (Nat × List D)) (tg : Tg) (b : List Sm) (ds : List D) (ρ : En) : kF1 M g tg b ds (some ρ) = kF2 M g tg b ds (xSs M b ρ) := rfl
@[simp] theorem kF2_nx (g : Option (Nat × List D)) (tg : Tg) (b : List Sm) (ds : List D) (ρ : En) : kF2 M g tg b ds (.ok (.nx, ρ)) = xF M g tg b ds ρ := rfl
@[simp] theorem kF2_rt (g : Option (Nat × List D)) (tg : Tg) (b : List Sm) (ds : List D) (d : D) (f : Bool) (ρ : En) : kF2 M g tg b ds (.ok (.rt d f, ρ)) = .ok (.rt d f, ρ) := rfl
@[simp] theorem guard_none (ρ : En) : guard none ρ = true := rfl
theorem xF_cons (g : Option (Nat × List D)) (tg : Tg) (b : List Sm) (d : D) (ds : List D) (ρ : En) : xF M g tg b (d :: ds) ρ = kF0 M g tg b d ds (guard g ρ) ρ := by
  unfold xF kF0
  rw [forL]
  rfl
@[simp] theorem xF_nil (tg : Tg) (b : List Sm) (ρ : En) : xF M none tg b [] ρ = .ok (.nx, ρ) := by simp only [xF, forL, guard_none, if_true]
theorem xF_nil_g (g : Option (Nat × List D)) (tg : Tg) (b : List Sm) (ρ : En) (h : guard g ρ = true) : xF M g tg b [] ρ = .ok (.nx, ρ) := by simp only [xF, forL, h, if_true]
@[simp] theorem xS_pas (ρ : En) : xS M .pas ρ = .ok (.nx, ρ) := by simp only [xS, exS]
end
/-! ### calls of defs -/
def mkM (T : Nat → Option Fd) (W n : Nat) : Mc := ⟨fun g => (T g).map Fd.mu, callF T W n, W⟩
@[simp] theorem mk_cf (T : Nat → Option Fd) (W n : Nat) : (mkM T W n).cf = callF T W n := rfl
@[simp] theorem mk_W (T : Nat → Option Fd) (W n : Nat) : (mkM T W n).W = W := rfl
theorem call_eq {T : Nat → Option Fd} {W n f : Nat} {args : List SV} {fd : Fd} (h : T f = some fd) (h1 : args.length = fd.ps) (h2 : matchA args fd.mu = true) :
    callF T W (n + 1) f args = fin fd (xSs (mkM T W n) fd.body (args.map some ++ List.replicate (fd.ns - fd.ps) none)) := by
  simp [callF, h, h1, h2, xSs, mkM]
def kFin (o : Option (List D)) (d : D) (fr : Bool) : CR := match o with
    | some o => .ok d fr o
    | none => .bad
@[simp] theorem kFin_some (o : List D) (d : D) (fr : Bool) : kFin (some o) d fr = .ok d fr o := rfl
@[simp] theorem fin_rt (f : Fd) (d : D) (fr : Bool) (ρ : En) : fin f (.ok (.rt d fr, ρ)) = kFin (outs ρ 0 f.mu) d fr := rfl
@[simp] theorem fin_nx (f : Fd) (ρ : En) : fin f (.ok (.nx, ρ)) = kFin (outs ρ 0 f.mu) .non false := rfl
@[simp] theorem outs_nil (ρ : En) (i : Nat) : outs ρ i [] = some [] := rfl
@[simp] theorem outs_f (ρ : En) (i : Nat) (ms : List Bool) : outs ρ i (false :: ms) = outs ρ (i + 1) ms := rfl
def kOut (v : Option (Option SV)) (o : Option (List D)) : Option (List D) := match v with
      | some (some (.own d)) => o.map (d :: ·)
      | _ => none
@[simp] theorem kOut_own (d : D) (o : List D) : kOut (some (some (.own d))) (some o) = some (d :: o) := rfl
@[simp] theorem outs_t (ρ : En) (i : Nat) (ms : List Bool) : outs ρ i (true :: ms) = kOut ρ[i]? (outs ρ (i + 1) ms) := by
  simp only [outs, if_true]
  rcases ρ[i]? with _ | _ | ⟨d⟩ | ⟨d⟩ <;> rfl
/-! ### operations -/
theorem mul_ok {i j : Int} (h : i.natAbs < 2 ^ 200) (h' : j.natAbs < 2 ^ 200) : mulD (.int i) (.int j) = some (.int (i * j), false) := by
  have l : ∀ n : Nat, n < 2 ^ 200 → n.log2 < 200 := fun n hn => by
    by_cases z : n = 0
    · subst z; decide
    · exact (Nat.log2_lt z).mpr hn
  have a := l _ h
  have b := l _ h'
  simp only [mulD]
  rw [if_pos (by omega)]
@[simp] theorem bin_add (a b : Int) : binD .Add (.int a) (.int b) = some (.int (a + b), false) := rfl
@[simp] theorem bin_sub (a b : Int) : binD .Sub (.int a) (.int b) = some (.int (a - b), false) := rfl
theorem bin_mul {i j : Int} (h : i.natAbs < 2 ^ 200) (h' : j.natAbs < 2 ^ 200) : binD .Mult (.int i) (.int j) = some (.int (i * j), false) := mul_ok h h'
theorem bin_mod {a b : Int} (h : 0 < b) : binD .Mod (.int a) (.int b) = some (.int (a % b), false) := by simp [binD, modD, h]
theorem bin_div {a b : Int} (h : 0 < b) (h' : b.natAbs < 2 ^ 200) : binD .FloorDiv (.int a) (.int b) = some (.int (a / b), false) := by
  have : b.natAbs.log2 < 200 := (Nat.log2_lt (by omega)).mpr h'
  simp only [binD, divD]
  rw [if_pos ⟨h, by omega⟩]
@[simp] theorem cmp_lt (a b : Int) : cmpD .Lt (.int a) (.int b) = some (decide (a < b)) := by simp [cmpD, ltC, cmpable, pl, dep, cmpb, ltB]
@[simp] theorem cmp_gt (a b : Int) : cmpD .Gt (.int a) (.int b) = some (decide (b < a)) := rfl
@[simp] theorem cmp_le (a b : Int) : cmpD .LtE (.int a) (.int b) = some (decide (a ≤ b)) := rfl
@[simp] theorem cmp_ge (a b : Int) : cmpD .GtE (.int a) (.int b) = some (decide (b ≤ a)) := rfl
@[simp] theorem cmp_eq (a b : Int) : cmpD .Eq (.int a) (.int b) = some (decide (a = b)) := by
  simp [cmpD, eqC, cmpable, pl, dep, eqv]
  rw [Bool.eq_iff_iff]; simp
@[simp] theorem cmp_ne (a b : Int) : cmpD .NotEq (.int a) (.int b) = some (!decide (a = b)) := by
  simp [cmpD, eqC, cmpable, pl, dep, eqv]
  rw [Bool.eq_iff_iff]; simp
@[simp] theorem len_lst (x : List D) : biD .len [.lst x] = some (.int x.length, false) := rfl
@[simp] theorem len_tup (x : List D) : biD .len [.tup x] = some (.int x.length, false) := rfl
@[simp] theorem len_str (x : List Nat) : biD .len [.str x] = some (.int x.length, false) := rfl
@[simp] theorem tuple_lst (x : List D) : biD .tuple [.lst x] = some (.tup x, false) := rfl
theorem bi_range {n : Int} (h : smallI n = true) : biD .range [.int n] = some (.lst (rangeL 0 n.toNat), false) := by simp [biD, rangeD, h]
theorem small_of {n : Int} (h : -(2 ^ 62) ≤ n) (h' : n < 2 ^ 62) : smallI n = true := by simp only [smallI, Bool.and_eq_true, decide_eq_true_eq]; exact ⟨h, h'⟩
@[simp] theorem sl_lst (xs : List D) (lo hi : Option Int) : slD (.lst xs) lo hi = some (.lst (cut xs lo hi), true) := rfl
@[simp] theorem sl_tup (xs : List D) (lo hi : Option Int) : slD (.tup xs) lo hi = some (.tup (cut xs lo hi), false) := rfl
@[simp] theorem sl_str (xs : List Nat) (lo hi : Option Int) : slD (.str xs) lo hi = some (.str (cut xs lo hi), false) := rfl
theorem ixn_at {n : Nat} {i : Int} (h0 : 0 ≤ i) (h : i.toNat < n) : ixn n i = some i.toNat := by
  unfold ixn
  rw [if_pos h0, if_pos (by omega)]
theorem ix_lst {xs : List D} {i : Int} {d : D} (h0 : 0 ≤ i) (h : xs[i.toNat]? = some d) : ixD (.lst xs) (.int i) = some d := by
  have hl := (List.getElem?_eq_some_iff.mp h).1
  simp [ixD, ixn_at h0 hl, h]
theorem ix_tup {xs : List D} {i : Int} {d : D} (h0 : 0 ≤ i) (h : xs[i.toNat]? = some d) : ixD (.tup xs) (.int i) = some d := by
  have hl := (List.getElem?_eq_some_iff.mp h).1
  simp [ixD, ixn_at h0 hl, h]
theorem ix_str {xs : List Nat} {i : Int} {c : Nat} (h0 : 0 ≤ i) (h : xs[i.toNat]? = some c) : ixD (.str xs) (.int i) = some (.str [c]) := by
  have hl := (List.getElem?_eq_some_iff.mp h).1
  simp [ixD, ixn_at h0 hl, h]
theorem app_ok {xs : List D} {d : D} (h : xs.length < 1000000) : muD 0 (.lst xs) [d] = some (.non, .lst (xs ++ [d])) := by
  have : xs.length < line := by unfold line; omega
  simp [muD, appD, this]
/-- a comprehension of no guard whose turns give f -/
theorem lcL_map {own : List Nat} {tn : D → En → R (Option D × En)} {f : D → D} {ρ : En} : ∀ {ds : List D}, (∀ d ∈ ds, ∃ ρ', tn d ρ = .ok (some (f d), ρ') ∧ wip ρ' own = ρ) → lcL none own tn ds ρ = .ok (ds.map f, ρ)
  | [], _ => rfl
  | d :: ds, h => by
    obtain ⟨ρ', e1, e2⟩ := h d List.mem_cons_self
    have ih := lcL_map (ds := ds) fun x hx => h x (List.mem_cons_of_mem _ hx)
    unfold lcL
    rw [if_pos (guard_none ρ), e1]
    show (lcL none own tn ds (wip ρ' own)).bind _ = _
    rw [e2, ih]
    rfl
theorem lcL_mapG {own : List Nat} {g : Option (Nat × List D)} {tn : D → En → R (Option D × En)} {f : D → D} {ρ : En} (hg : guard g ρ = true) : ∀ {ds : List D}, (∀ d ∈ ds, ∃ ρ', tn d ρ = .ok (some (f d), ρ') ∧ wip ρ' own = ρ) → lcL g own tn ds ρ = .ok (ds.map f, ρ)
  | [], _ => by unfold lcL; rw [if_pos hg]; rfl
  | d :: ds, h => by
    obtain ⟨ρ', e1, e2⟩ := h d List.mem_cons_self
    have ih := lcL_mapG hg (ds := ds) fun x hx => h x (List.mem_cons_of_mem _ hx)
    unfold lcL
    rw [if_pos hg, e1]
    show (lcL g own tn ds (wip ρ' own)).bind _ = _
    rw [e2, ih]
    rfl
@[simp] theorem turn_nm (M : Mc) (elt : Ex) (i : Nat) (c : Option Ex) (d : D) (ρ : En) : turn M elt (.nm i) c d ρ = opt (kTg (decide (i < ρ.length)) (ρ.set i (some (.val d)))) fun ρ2 => kTn1 M elt c ρ2 := by
  unfold turn
  rw [asgT_nm]
@[simp] theorem opt_mk {α β : Type} (a : α) (f : α → R β) : opt (some a) f = f a := rfl
@[simp] theorem bind_mk {α β : Type} (a : α) (f : α → R β) : (R.ok a).bind f = f a := rfl
def kTn3 (r : RE) : R (Option D × En) := r.bind fun z => .ok (some z.1, z.2.2)
@[simp] theorem kTn3_ok (d : D) (f : Bool) (ρ : En) : kTn3 (.ok (d, f, ρ)) = .ok (some d, ρ) := rfl
@[simp] theorem kTn1_none (M : Mc) (elt : Ex) (ρ : En) : kTn1 M elt none ρ = kTn3 (xE M elt ρ) := rfl
def kTn4 (M : Mc) (elt : Ex) (t : Option Bool) (ρ : En) : R (Option D × En) := opt t fun t => kTn2 M elt t ρ
def kTn5 (M : Mc) (elt : Ex) (r : RO) : R (Option D × En) := r.bind fun x => kTn4 M elt (tru (der x.2 x.1)) x.2
@[simp] theorem kTn1_some (M : Mc) (elt c : Ex) (ρ : En) : kTn1 M elt (some c) ρ = kTn5 M elt (xO M c ρ) := rfl
@[simp] theorem kTn5_ok (M : Mc) (elt : Ex) (o : Od) (ρ : En) : kTn5 M elt (.ok (o, ρ)) = kTn4 M elt (tru (der ρ o)) ρ := rfl
@[simp] theorem kTn4_some (M : Mc) (elt : Ex) (t : Bool) (ρ : En) : kTn4 M elt (some t) ρ = kTn2 M elt t ρ := rfl
@[simp] theorem kTn2_true (M : Mc) (elt : Ex) (ρ : En) : kTn2 M elt true ρ = kTn3 (xE M elt ρ) := rfl
@[simp] theorem kTn2_false (M : Mc) (elt : Ex) (ρ : En) : kTn2 M elt false ρ = .ok (none, ρ) := rfl
theorem rgL_len : ∀ (n : Nat) (i : Int), (rangeL i n).length = n
  | 0, _ => rfl
  | n + 1, i => by simp [rangeL, rgL_len n]
theorem rgL_mem : ∀ {n : Nat} {i : Int} {d : D}, d ∈ rangeL i n → ∃ j : Int, d = .int j ∧ i ≤ j ∧ j < i + n
  | 0, _, _, h => by cases h
  | n + 1, i, d, h => by
    rcases List.mem_cons.mp h with rfl | h
    · exact ⟨i, rfl, by omega, by omega⟩
    · obtain ⟨j, e, h1, h2⟩ := rgL_mem h
      exact ⟨j, e, by omega, by omega⟩
theorem small_int {n : Int} (h : 0 ≤ n) (h' : n ≤ 1000000) : smallI n = true := by
  have e : (2 : Int) ^ 62 = 4611686018427387904 := by decide +kernel
  simp only [smallI, e, Bool.and_eq_true, decide_eq_true_eq]
  constructor <;> omega
theorem lcL_ex {P : D → Prop} {own : List Nat} {g : Option (Nat × List D)} {tn : D → En → R (Option D × En)} {ρ : En} (hg : guard g ρ = true) : ∀ {ds : List D}, (∀ d ∈ ds, ∃ e ρ', P e ∧ tn d ρ = .ok (some e, ρ') ∧ wip ρ' own = ρ) → ∃ es, es.length = ds.length ∧ (∀ e ∈ es, P e) ∧ lcL g own tn ds ρ = .ok (es, ρ)
  | [], _ => ⟨[], rfl, (by intro _ h; cases h), (by unfold lcL; rw [if_pos hg])⟩
  | d :: ds, h => by
    obtain ⟨e, ρ', p, e1, e2⟩ := h d List.mem_cons_self
    obtain ⟨es, q1, q2, q3⟩ := lcL_ex hg (ds := ds) fun x hx => h x (List.mem_cons_of_mem _ hx)
    refine ⟨e :: es, by simp [q1], fun x hx => ?_, ?_⟩
    · rcases List.mem_cons.mp hx with rfl | hx
      · exact p
      · exact q2 x hx
    · unfold lcL
      rw [if_pos hg, e1]
      show (lcL g own tn ds (wip ρ' own)).bind _ = _
      rw [e2, q3]
      rfl
theorem strs_map : ∀ ys : List (List Nat), strsD (ys.map .str) = some ys
  | [] => rfl
  | y :: ys => by simp [strsD, strs_map ys]
theorem map_of {α : Type} {f : α → D} : ∀ {es : List D}, (∀ e ∈ es, ∃ y, e = f y) → ∃ ys : List α, es = ys.map f
  | [], _ => ⟨[], rfl⟩
  | e :: es, h => by
    obtain ⟨y, rfl⟩ := h e List.mem_cons_self
    obtain ⟨ys, rfl⟩ := map_of fun x hx => h x (List.mem_cons_of_mem _ hx)
    exact ⟨y :: ys, rfl⟩
theorem map_ofP {α : Type} {P : α → Prop} {f : α → D} : ∀ {es : List D}, (∀ e ∈ es, ∃ y, e = f y ∧ P y) → ∃ ys : List α, es = ys.map f ∧ ∀ y ∈ ys, P y
  | [], _ => ⟨[], rfl, (by intro _ h; cases h)⟩
  | e :: es, h => by
    obtain ⟨y, rfl, p⟩ := h e List.mem_cons_self
    obtain ⟨ys, rfl, q⟩ := map_ofP fun x hx => h x (List.mem_cons_of_mem _ hx)
    exact ⟨y :: ys, rfl, fun z hz => by
      rcases List.mem_cons.mp hz with rfl | hz
      · exact p
      · exact q z hz⟩
theorem join_ok {s : List Nat} {ys : List (List Nat)} (h : ∀ y ∈ ys, y.length ≤ 1000) (h1 : ys.length ≤ 1000) (h2 : s.length ≤ 1000) : mtD 0 (.str s) [.lst (ys.map .str)] = some (.str (joinL s ys), false) := by
  have sm : ∀ ys : List (List Nat), (∀ y ∈ ys, y.length ≤ 1000) → (ys.map List.length).sum ≤ ys.length * 1000 := fun ys => by
    induction ys with
    | nil => intro _; simp
    | cons y ys ih =>
      intro h
      have a := h y List.mem_cons_self
      have b := ih fun z hz => h z (List.mem_cons_of_mem _ hz)
      simp only [List.map_cons, List.sum_cons, List.length_cons]
      omega
  have a := sm ys h
  have b : ys.length * s.length ≤ 1000 * 1000 := Nat.mul_le_mul h1 h2
  have c : ys.length * 1000 ≤ 1000 * 1000 := Nat.mul_le_mul h1 (Nat.le_refl _)
  have e : line = 16777216 := rfl
  simp only [mtD, joinD, strs_map, Option.bind_some]
  rw [if_pos (by omega)]
end G

/-! plain law: exceptions through the frames -/
namespace G
open PySem
section
variable (M : Mc)
@[simp] theorem xO_callx (a b) (ρ : En) : xO M (.callx a b) ρ = kO (xE M (.callx a b) ρ) := rfl
@[simp] theorem xO_isx (a b) (ρ : En) : xO M (.isx a b) ρ = kO (xE M (.isx a b) ρ) := rfl
@[simp] theorem xS_ret_callx (a b) (ρ : En) : xS M (.ret (.callx a b)) ρ = kRt (xE M (.callx a b) ρ) := by simp only [xS, exS]; rfl
@[simp] theorem xS_ret_isx (a b) (ρ : En) : xS M (.ret (.isx a b)) ρ = kRt (xE M (.isx a b) ρ) := by simp only [xS, exS]; rfl
def kX4 (f : Nat) (a : List SV) (l b : List Nat) (t : Bool) (ρ : En) : RE := if t then callX (M.cf f a) l b ρ else .bad
def kX3 (f : Nat) (a : Option (List SV × List Nat × List Nat)) (ρ : En) : RE := opt a fun a => kX4 M f a.1 a.2.1 a.2.2 (apart a.2.1 a.2.2) ρ
def kX2 (f : Nat) (ms : Option (List Bool)) (os : List Od) (ρ : En) : RE := opt ms fun ms => kX3 M f (mkArgs ρ os ms) ρ
def kX1 (f : Nat) (r : R (List Od × En)) : RE := r.bind fun x => kX2 M f (M.mf f) x.1 x.2
@[simp] theorem kX1_ok (f : Nat) (os : List Od) (ρ : En) : kX1 M f (.ok (os, ρ)) = kX2 M f (M.mf f) os ρ := rfl
@[simp] theorem kX2_some (f : Nat) (ms : List Bool) (os : List Od) (ρ : En) : kX2 M f (some ms) os ρ = kX3 M f (mkArgs ρ os ms) ρ := rfl
@[simp] theorem kX3_some (f : Nat) (a : List SV) (l b : List Nat) (ρ : En) : kX3 M f (some (a, l, b)) ρ = kX4 M f a l b (apart l b) ρ := rfl
@[simp] theorem kX4_true (f : Nat) (a : List SV) (l b : List Nat) (ρ : En) : kX4 M f a l b true ρ = callX (M.cf f a) l b ρ := rfl
@[simp] theorem xE_callx (f : Nat) (es : List Ex) (ρ : En) : xE M (.callx f es) ρ = kX1 M f (xOs M es ρ) := by
  simp only [xE, evE]
  rfl
@[simp] theorem callX_ok (d : D) (fr : Bool) (o : List D) (l b : List Nat) (ρ : En) : callX (.ok d fr o) l b ρ = callR (.ok d fr o) l b ρ := rfl
@[simp] theorem callX_exc (c : Nat) (b : List Nat) (ρ : En) : callX (.exc c []) [] b ρ = .exc c ρ := rfl
def kIx (yes : List Nat) (v : Option (Option SV)) (ρ : En) : RE := match v with
    | some (some (.val (.ins c []))) => .ok (.bl (yes.contains c), false, ρ)
    | _ => .bad
@[simp] theorem kIx_ins (yes : List Nat) (c : Nat) (ρ : En) : kIx yes (some (some (.val (.ins c [])))) ρ = .ok (.bl (yes.contains c), false, ρ) := rfl
@[simp] theorem xE_isx (i : Nat) (yes : List Nat) (ρ : En) : xE M (.isx i yes) ρ = kIx yes ρ[i]? ρ := by
  simp only [xE, evE]; rfl
/-! exceptions -/
@[simp] theorem kAs_exc (tg : Tg) (ow : Bool) (c : Nat) (ρ : En) : kAs tg ow (.exc c ρ) = .exc c ρ := rfl
@[simp] theorem kEx_exc (c : Nat) (ρ : En) : kEx (.exc c ρ) = .exc c ρ := rfl
@[simp] theorem kRt_exc (c : Nat) (ρ : En) : kRt (.exc c ρ) = .exc c ρ := rfl
@[simp] theorem kSeq_exc (r : List Sm) (c : Nat) (ρ : En) : kSeq M r (.exc c ρ) = .exc c ρ := rfl
@[simp] theorem kO_exc (c : Nat) (ρ : En) : kO (.exc c ρ) = .exc c ρ := rfl
@[simp] theorem kC1_exc (op : CmpOp) (b : Ex) (c : Nat) (ρ : En) : kC1 M op b (.exc c ρ) = .exc c ρ := rfl
@[simp] theorem kC2_exc (op : CmpOp) (o : Od) (c : Nat) (ρ : En) : kC2 op o (.exc c ρ) = .exc c ρ := rfl
@[simp] theorem kVs_exc (es : List Ex) (c : Nat) (ρ : En) : kVs M es (.exc c ρ) = .exc c ρ := rfl
@[simp] theorem kVs2_exc (d : D) (c : Nat) (ρ : En) : kVs2 d (.exc c ρ) = .exc c ρ := rfl
@[simp] theorem kTup_exc (c : Nat) (ρ : En) : kTup (.exc c ρ) = .exc c ρ := rfl
@[simp] theorem kF2_exc (g : Option (Nat × List D)) (tg : Tg) (b : List Sm) (ds : List D) (c : Nat) (ρ : En) : kF2 M g tg b ds (.exc c ρ) = .exc c ρ := rfl
@[simp] theorem kW3_exc (c : Ex) (b : List Sm) (n : Nat) (x : Nat) (ρ : En) : kW3 M c b n (.exc x ρ) = .exc x ρ := rfl
def kFinX (o : Option (List D)) (c : Nat) : CR := match o with
    | some o => .exc c o
    | none => .bad
@[simp] theorem kFinX_some (o : List D) (c : Nat) : kFinX (some o) c = .exc c o := rfl
@[simp] theorem fin_exc (f : Fd) (c : Nat) (ρ : En) : fin f (.exc c ρ) = kFinX (outs ρ 0 f.mu) c := rfl
@[simp] theorem xO_callf (a b c) (ρ : En) : xO M (.callf a b c) ρ = kO (xE M (.callf a b c) ρ) := rfl
@[simp] theorem xS_ret_callf (a b c) (ρ : En) : xS M (.ret (.callf a b c)) ρ = kRt (xE M (.callf a b c) ρ) := by simp only [xS, exS]; rfl
def kRv (c : Nat) (r : RE) : R (Fl × En) := r.bind fun x => .exc c x.2.2
@[simp] theorem kRv_ok (c : Nat) (d : D) (fr : Bool) (ρ : En) : kRv c (.ok (d, fr, ρ)) = .exc c ρ := rfl
@[simp] theorem xS_raiv (c : Nat) (e : Ex) (ρ : En) : xS M (.raiv c e) ρ = kRv c (xE M e ρ) := by simp only [xS, exS]; rfl
@[simp] theorem kMu1_exc (m i : Nat) (c : Nat) (ρ : En) : kMu1 m i (.exc c ρ) = .exc c ρ := rfl
@[simp] theorem xS_rai (c : Nat) (ρ : En) : xS M (.rai c) ρ = .exc c ρ := by simp only [xS, exS]
def kT5 (f : Fl) (t : Bool) (ρ : En) : R (Fl × En) := if t then .ok (f, ρ) else .bad
def kT4 (i : Nat) (r : R (Fl × En)) : R (Fl × En) := match r with
  | .ok x => kT5 x.1 ((x.2.set i none).all noInsV && noInsF x.1) (x.2.set i none)
  | _ => .bad
def kT3 (i c : Nat) (u : List Sm) (t : Bool) (ρ : En) : R (Fl × En) := if t then kT4 i (xSs M u (ρ.set i (some (.val (.ins c []))))) else .bad
def kT2 (i c : Nat) (u : List Sm) (t : Bool) (ρ : En) : R (Fl × En) := if t then kT3 M i c u (decide (i < ρ.length) && ρ.all noInsV) ρ else .exc c ρ
def kT1 (i : Nat) (hs : List Nat) (u : List Sm) (r : R (Fl × En)) : R (Fl × En) := match r with
  | .exc c ρ => kT2 M i c u (hs.contains c) ρ
  | r => r
@[simp] theorem kT1_ok (i : Nat) (hs : List Nat) (u : List Sm) (x : Fl × En) : kT1 M i hs u (.ok x) = .ok x := rfl
@[simp] theorem kT1_exc (i : Nat) (hs : List Nat) (u : List Sm) (c : Nat) (ρ : En) : kT1 M i hs u (.exc c ρ) = kT2 M i c u (hs.contains c) ρ := rfl
@[simp] theorem kT2_true (i c : Nat) (u : List Sm) (ρ : En) : kT2 M i c u true ρ = kT3 M i c u (decide (i < ρ.length) && ρ.all noInsV) ρ := rfl
@[simp] theorem kT2_false (i c : Nat) (u : List Sm) (ρ : En) : kT2 M i c u false ρ = .exc c ρ := rfl
@[simp] theorem kT3_true (i c : Nat) (u : List Sm) (ρ : En) : kT3 M i c u true ρ = kT4 i (xSs M u (ρ.set i (some (.val (.ins c []))))) := rfl
@[simp] theorem kT4_ok (i : Nat) (f : Fl) (ρ : En) : kT4 i (.ok (f, ρ)) = kT5 f ((ρ.set i none).all noInsV && noInsF f) (ρ.set i none) := rfl
@[simp] theorem noInsF_nx : noInsF .nx = true := rfl
@[simp] theorem noInsF_rt (d : D) (fr : Bool) : noInsF (.rt d fr) = noIns d := rfl
@[simp] theorem kT5_true (f : Fl) (ρ : En) : kT5 f true ρ = .ok (f, ρ) := rfl
@[simp] theorem xS_tri (b : List Sm) (i : Nat) (hs : List Nat) (u : List Sm) (ρ : En) : xS M (.tri b i hs u) ρ = kT1 M i hs u (xSs M b ρ) := by
  simp only [xS, exS, xSs]
  unfold kT1
  cases exSs M.mf M.cf M.W b ρ with
  | ok x => rfl
  | bad => rfl
  | exc c ρ1 =>
    simp only [kT2, kT3]
    split
    · split
      · simp only [xSs]
        cases exSs M.mf M.cf M.W u (ρ1.set i (some (.val (.ins c [])))) with
        | ok x => rfl
        | exc _ _ => rfl
        | bad => rfl
      · rfl
    · rfl
theorem pl_noIns : ∀ {d : D}, pl d = true → noIns d = true
  | .non, _ => rfl
  | .bl _, _ => rfl
  | .int _, _ => rfl
  | .str _, _ => rfl
  | .tup xs, h => pls_noIns (ds := xs) (by simpa [pl] using h)
  | .lst xs, h => pls_noIns (ds := xs) (by simpa [pl] using h)
  | .dic _ _, h => by cases h
  | .ins _ _, h => by cases h
  | .fn _, h => by cases h
  | .cls _, h => by cases h
where pls_noIns : ∀ {ds : List D}, plL ds = true → noInsL ds = true
  | [], _ => rfl
  | d :: ds, h => by
    simp only [plL, Bool.and_eq_true] at h
    simp only [noInsL, Bool.and_eq_true]
    exact ⟨pl_noIns h.1, pls_noIns h.2⟩
@[simp] theorem noInsV_none : noInsV none = true := rfl
@[simp] theorem noInsV_val (d : D) : noInsV (some (.val d)) = noIns d := rfl
@[simp] theorem noInsV_own (d : D) : noInsV (some (.own d)) = noIns d := rfl
@[simp] theorem noIns_non : noIns .non = true := rfl
@[simp] theorem noIns_bl (b : Bool) : noIns (.bl b) = true := rfl
@[simp] theorem noIns_int (i : Int) : noIns (.int i) = true := rfl
@[simp] theorem noIns_str (x : List Nat) : noIns (.str x) = true := rfl
@[simp] theorem noIns_tup (xs : List D) : noIns (.tup xs) = noInsL xs := rfl
@[simp] theorem noIns_lst (xs : List D) : noIns (.lst xs) = noInsL xs := rfl
@[simp] theorem noInsL_nil : noInsL [] = true := rfl
@[simp] theorem noInsL_cons (x : D) (xs : List D) : noInsL (x :: xs) = (noIns x && noInsL xs) := rfl
end
end G

namespace G
@[simp] theorem pow18 : binD .Pow (.int 10) (.int 18) = some (.int 1000000000000000000, false) := by simp [binD, powD]
abbrev signs : List Nat := [97, 98, 99, 100, 101, 102, 103, 104, 105, 106, 107, 108, 109, 110, 111, 112, 113, 114, 115, 116, 117, 118, 119, 120, 121, 122]
theorem sign_at (v : Int) : ∃ c, signs[(v % 26).toNat]? = some c := by
  have h : (v % 26).toNat < signs.length := by
    show (v % 26).toNat < 26
    omega
  exact ⟨_, List.getElem?_eq_getElem h⟩
theorem cut_at (xs : List Int) (lo hi : Int) (h0 : 0 ≤ lo) (h : lo ≤ hi) (h1 : hi ≤ xs.length) : cut (xs.map D.int) (some lo) (some hi) = ((xs.drop lo.toNat).take (hi - lo).toNat).map D.int := by
  have b1 : bnd (xs.map D.int).length 0 (some lo) = lo.toNat := by
    simp only [bnd, List.length_map]
    rw [if_neg (by omega)]
    omega
  have b2 : bnd (xs.map D.int).length (xs.map D.int).length (some hi) = hi.toNat := by
    simp only [bnd, List.length_map]
    rw [if_neg (by omega)]
    omega
  unfold cut
  rw [b1, b2, List.map_take, List.map_drop]
  congr 1
  omega
/-- a letter -/
def ltr (p : List Nat × Int) : D := .tup [.str p.1, .int p.2]
abbrev rowS : List Nat := [114, 111, 119]
abbrev heapS : List Nat := [104, 101, 97, 112]
/-- a road: its order, its room -/
inductive Rd : D → List Nat → Option Int → Prop
  | mk (o : List Nat) (m : Option Int) (b : Bool) : (o = rowS ∨ o = heapS) → (∀ k, m = some k → 1 ≤ k ∧ k ≤ 3) → Rd (.tup [.str o, (match m with | none => .non | some k => .int k), .bl b]) o m
@[simp] theorem cmp_eq_str (a b : List Nat) : cmpD .Eq (.str a) (.str b) = some (decide (a = b)) := by
  simp [cmpD, eqC, cmpable, pl, dep, eqv]
  rw [Bool.eq_iff_iff]; simp
@[simp] theorem cmp_ne_str (a b : List Nat) : cmpD .NotEq (.str a) (.str b) = some (!decide (a = b)) := by
  simp [cmpD, eqC, cmpable, pl, dep, eqv]
  rw [Bool.eq_iff_iff]; simp
@[simp] theorem cmp_eq_bl (a b : Bool) : cmpD .Eq (.bl a) (.bl b) = some (a == b) := by
  simp [cmpD, eqC, cmpable, pl, dep, eqv]
@[simp] theorem cmp_ne_bl (a b : Bool) : cmpD .NotEq (.bl a) (.bl b) = some (!(a == b)) := by
  simp [cmpD, eqC, cmpable, pl, dep, eqv]
@[simp] theorem cmp_is_non (a : D) : cmpD .Is a .non = some (isNon a) := by
  cases a <;> rfl
@[simp] theorem cmp_isnot_non (a : D) : cmpD .IsNot a .non = some (!isNon a) := by
  cases a <;> rfl
/-- none, truths, ints, texts, tuples of such -/
inductive Pln : D → Nat → Prop
  | non (n : Nat) : Pln .non n
  | bl (b : Bool) (n : Nat) : Pln (.bl b) n
  | int (i : Int) (n : Nat) : Pln (.int i) n
  | str (x : List Nat) (n : Nat) : Pln (.str x) n
  | tup (xs : List D) (n : Nat) : (∀ x ∈ xs, Pln x n) → xs.length ≤ 1000000 → Pln (.tup xs) (n + 1)
/-! ### the order of letters -/
def lt2 (p q : List Nat × Int) : Prop := p.1 < q.1 ∨ (p.1 = q.1 ∧ p.2 < q.2)
theorem ltB_ltr (p q : List Nat × Int) : ltB (ltr p) (ltr q) = true ↔ lt2 p q := by
  simp only [ltr, ltB, ltBL, eqv, lt2]
  by_cases h : p.1 = q.1
  · by_cases h' : p.2 = q.2
    · simp [h, h', List.lt_irrefl]
    · simp [h, h', List.lt_irrefl]
  · have : (p.1 == q.1) = false := by simpa using h
    simp [this, h]
theorem lt2_irr (p : List Nat × Int) : ¬ lt2 p p := by
  rintro (h | ⟨_, h⟩)
  · exact List.lt_irrefl _ h
  · omega
theorem lt2_tr {p q r : List Nat × Int} (h : lt2 p q) (h' : lt2 q r) : lt2 p r := by
  rcases h with h | ⟨e, h⟩
  · rcases h' with h' | ⟨e', h'⟩
    · exact .inl (List.lt_trans h h')
    · exact .inl (e' ▸ h)
  · rcases h' with h' | ⟨e', h'⟩
    · exact .inl (e ▸ h')
    · exact .inr ⟨e.trans e', by omega⟩
theorem lt2_tot {p q : List Nat × Int} (h : ¬ lt2 p q) (h' : ¬ lt2 q p) : p = q := by
  simp only [lt2, not_or, not_and] at h h'
  have e : p.1 = q.1 := List.le_antisymm (List.not_lt.mp h'.1) (List.not_lt.mp h.1)
  have e2 : p.2 = q.2 := by
    have a := h.2 e
    have b := h'.2 e.symm
    omega
  exact Prod.ext e e2
instance (p q : List Nat × Int) : Decidable (lt2 p q) := decidable_of_iff _ (ltB_ltr p q)
theorem ltB_dec (p q : List Nat × Int) : ltB (ltr p) (ltr q) = decide (lt2 p q) := by
  rw [Bool.eq_iff_iff, ltB_ltr]; simp
def ins2 (x : List Nat × Int) : List (List Nat × Int) → List (List Nat × Int)
  | [] => [x]
  | y :: ys => if lt2 y x then y :: ins2 x ys else x :: y :: ys
def sort2 : List (List Nat × Int) → List (List Nat × Int)
  | [] => []
  | x :: xs => ins2 x (sort2 xs)
theorem insR_map (x : List Nat × Int) : ∀ l : List (List Nat × Int), insR (ltr x) (l.map ltr) = (ins2 x l).map ltr
  | [] => rfl
  | y :: ys => by
    simp only [List.map_cons, insR, ins2, ltB_dec, decide_eq_true_eq]
    split
    · rw [insR_map x ys]; rfl
    · rfl
theorem sortR_map : ∀ l : List (List Nat × Int), sortR (l.map ltr) = (sort2 l).map ltr
  | [] => rfl
  | x :: xs => by
    simp only [List.map_cons, sortR, sort2, sortR_map xs, insR_map]
theorem ins2_len (x : List Nat × Int) : ∀ l : List (List Nat × Int), (ins2 x l).length = l.length + 1
  | [] => rfl
  | y :: ys => by
    unfold ins2
    split
    · simp [ins2_len x ys]
    · rfl
theorem sort2_len : ∀ l : List (List Nat × Int), (sort2 l).length = l.length
  | [] => rfl
  | x :: xs => by
    show (ins2 x (sort2 xs)).length = _
    rw [ins2_len, sort2_len xs]; rfl
/-- sorted -/
def Up (l : List (List Nat × Int)) : Prop := l.Pairwise fun x y => ¬ lt2 y x
theorem ins2_mem {x z : List Nat × Int} : ∀ {l : List (List Nat × Int)}, z ∈ ins2 x l → z = x ∨ z ∈ l
  | [], h => .inl (by simpa [ins2] using h)
  | y :: ys, h => by
    unfold ins2 at h
    split at h
    · rcases List.mem_cons.mp h with rfl | h
      · exact .inr List.mem_cons_self
      · exact (ins2_mem h).imp id (List.mem_cons_of_mem _)
    · rcases List.mem_cons.mp h with rfl | h
      · exact .inl rfl
      · exact .inr h
theorem ins2_up {x : List Nat × Int} : ∀ {l : List (List Nat × Int)}, Up l → Up (ins2 x l)
  | [], _ => List.pairwise_singleton _ _
  | y :: ys, h => by
    obtain ⟨h1, h2⟩ := List.pairwise_cons.mp h
    unfold ins2
    split
    · rename_i q
      refine List.pairwise_cons.mpr ⟨fun z hz => ?_, ins2_up h2⟩
      rcases ins2_mem hz with rfl | hz
      · exact fun z => lt2_irr _ (lt2_tr q z)
      · exact h1 z hz
    · rename_i q
      refine List.pairwise_cons.mpr ⟨fun z hz => ?_, h⟩
      rcases List.mem_cons.mp hz with rfl | hz
      · exact q
      · intro c
        by_cases e : lt2 x y
        · exact h1 z hz (lt2_tr c e)
        · exact h1 z hz ((lt2_tot e q) ▸ c)
theorem sort2_up : ∀ l : List (List Nat × Int), Up (sort2 l)
  | [] => List.Pairwise.nil
  | x :: xs => ins2_up (sort2_up xs)
/-- where risen puts a letter -/
def rise (p : List Nat × Int) : List (List Nat × Int) → Nat
  | [] => 0
  | q :: qs => if lt2 q p then rise p qs + 1 else 0
theorem rise_ok (p : List Nat × Int) : ∀ {qs : List (List Nat × Int)}, Up qs → sort2 (qs ++ [p]) = qs.take (rise p qs) ++ p :: qs.drop (rise p qs)
  | [], _ => rfl
  | q :: qs, h => by
    obtain ⟨h1, h2⟩ := List.pairwise_cons.mp h
    have ih := rise_ok p h2
    show ins2 q (sort2 (qs ++ [p])) = _
    rw [ih]
    have rc : rise p (q :: qs) = if lt2 q p then rise p qs + 1 else 0 := rfl
    rw [rc]
    have ins_front : ∀ l : List (List Nat × Int), (∀ z r, l = z :: r → ¬ lt2 z q) → ins2 q l = q :: l := fun l hl => by
      cases l with
      | nil => rfl
      | cons z r => unfold ins2; rw [if_neg (hl z r rfl)]
    by_cases c : lt2 q p
    · rw [if_pos c, ins_front]
      · rfl
      · intro z r e
        cases k : rise p qs with
        | zero =>
          rw [k] at e
          simp only [List.take_zero, List.nil_append] at e
          cases e
          exact fun c' => lt2_irr _ (lt2_tr c c')
        | succ k' =>
          cases qs with
          | nil => simp [rise] at k
          | cons y ys =>
            rw [k] at e
            simp only [List.take_succ_cons, List.cons_append] at e
            cases e
            exact h1 _ List.mem_cons_self
    · rw [if_neg c]
      have r0 : rise p qs = 0 := by
        match qs, h1 with
        | [], _ => rfl
        | y :: ys, h1 =>
          have nc : ¬ lt2 y p := fun c' => by
            by_cases e : lt2 p q
            · exact h1 y List.mem_cons_self (lt2_tr c' e)
            · exact h1 y List.mem_cons_self ((lt2_tot c e) ▸ c')
          show (if lt2 y p then rise p ys + 1 else 0) = 0
          rw [if_neg nc]
      rw [r0]
      simp only [List.take_zero, List.nil_append, List.drop_zero]
      unfold ins2
      split
      · have := ins_front qs fun z r e => by subst e; exact h1 z List.mem_cons_self
        rw [this]
      · rename_i e
        rw [lt2_tot e c]
theorem pl_ltr (l : List (List Nat × Int)) : plL (l.map ltr) = true ∧ depL (l.map ltr) ≤ 1 := by
  induction l with
  | nil => exact ⟨rfl, by simp [depL]⟩
  | cons x l ih => 
    constructor
    · simp [plL, pl, ltr, ih.1]
    · simp only [List.map_cons, depL, dep, ltr]
      have := ih.2
      omega
theorem all_ltr (l : List (List Nat × Int)) : allCmp (l.map ltr) = true ∧ srtK (l.map ltr) = true := by
  obtain ⟨h1, h2⟩ := pl_ltr l
  constructor
  · simp only [allCmp, h1, Bool.true_and, Bool.and_eq_true, decide_eq_true_eq, List.all_eq_true]
    refine ⟨by omega, fun x hx y hy => ?_⟩
    obtain ⟨p, _, rfl⟩ := List.mem_map.mp hx
    obtain ⟨q, _, rfl⟩ := List.mem_map.mp hy
    simp [ltr, cmpb, cmpbL]
  · have : (l.map ltr).all (fstK 2) = true := by
      rw [List.all_eq_true]
      intro x hx
      obtain ⟨p, _, rfl⟩ := List.mem_map.mp hx
      rfl
    simp [srtK, this]
theorem sort_lst (l : List (List Nat × Int)) : biD .sorted [.lst (l.map ltr)] = some (.lst ((sort2 l).map ltr), true) := by
  obtain ⟨h1, h2⟩ := all_ltr l
  simp only [biD, sortedD, h1, h2, Bool.and_self, if_true, sortR_map]
theorem sort_tup (l : List (List Nat × Int)) : biD .sorted [.tup (l.map ltr)] = some (.lst ((sort2 l).map ltr), true) := by
  obtain ⟨h1, h2⟩ := all_ltr l
  simp only [biD, sortedD, h1, h2, Bool.and_self, if_true, sortR_map]
theorem add_tup (l m : List (List Nat × Int)) (h : l.length + m.length ≤ 1000) : binD .Add (.tup (l.map ltr)) (.tup (m.map ltr)) = some (.tup ((l ++ m).map ltr), false) := by
  have e : line = 16777216 := rfl
  simp only [binD, addD, List.length_map, List.map_append]
  rw [if_pos (by omega)]
theorem lt_ltr (p q : List Nat × Int) : cmpD .Lt (ltr p) (ltr q) = some (decide (lt2 p q)) := by
  have : cmpable (ltr p) (ltr q) = true := by simp [cmpable, ltr, pl, plL, dep, depL]
  have c : cmpb (ltr p) (ltr q) = true := by simp [ltr, cmpb, cmpbL]
  simp only [cmpD, ltC, this, c, Bool.and_self, if_true, ltB_dec]
theorem rise_le (p : List Nat × Int) : ∀ l : List (List Nat × Int), rise p l ≤ l.length
  | [] => Nat.le_refl _
  | q :: qs => by
    have := rise_le p qs
    simp only [rise, List.length_cons]
    split <;> omega
theorem pln_ltr (l : List (List Nat × Int)) (h : l.length ≤ 1000) : Pln (.tup (l.map ltr)) 3 := by
  refine .tup _ _ (fun x hx => ?_) (by simp; omega)
  obtain ⟨p, _, rfl⟩ := List.mem_map.mp hx
  exact .tup _ _ (fun y hy => by
    rcases List.mem_cons.mp hy with rfl | hy
    · exact .str _ _
    · rcases List.mem_cons.mp hy with rfl | hy
      · exact .int _ _
      · cases hy) (by simp)
theorem heap_row : ¬ heapS = rowS := by decide
end G
namespace G
abbrev Pt := List Nat × Int
theorem ltr_inj {p q : Pt} (h : ltr p = ltr q) : p = q := by
  simp only [ltr, D.tup.injEq, List.cons.injEq, D.str.injEq, D.int.injEq, and_true] at h
  exact Prod.ext h.1 h.2
theorem eqv_ltr (p q : Pt) : eqv (ltr p) (ltr q) = decide (p = q) := by
  rw [Bool.eq_iff_iff]
  simp only [ltr, eqv, eqvL, Bool.and_true, Bool.and_eq_true, beq_iff_eq, decide_eq_true_eq]
  exact ⟨fun h => Prod.ext h.1 h.2, fun h => by rw [h]; exact ⟨rfl, rfl⟩⟩
theorem cmpable_ltr (p q : Pt) : cmpable (ltr p) (ltr q) = true := by simp [cmpable, ltr, pl, plL, dep, depL]
theorem cmp_eq_ltr (p q : Pt) : cmpD .Eq (ltr p) (ltr q) = some (decide (p = q)) := by
  simp only [cmpD, eqC, cmpable_ltr, if_true, eqv_ltr]
theorem cmp_ne_ltr (p q : Pt) : cmpD .NotEq (ltr p) (ltr q) = some (!decide (p = q)) := by
  simp only [cmpD, eqC, cmpable_ltr, if_true, eqv_ltr, Option.map_some]
theorem inD_ltr (p : Pt) : ∀ zs : List Pt, inD (ltr p) (zs.map ltr) = decide (p ∈ zs)
  | [] => rfl
  | z :: zs => by
    rw [List.map_cons, show inD (ltr p) (ltr z :: zs.map ltr) = (eqv (ltr z) (ltr p) || inD (ltr p) (zs.map ltr)) from rfl, eqv_ltr, inD_ltr p zs, Bool.eq_iff_iff]
    simp only [Bool.or_eq_true, decide_eq_true_eq, List.mem_cons]
    exact ⟨fun h => h.imp Eq.symm id, fun h => h.imp Eq.symm id⟩
theorem in_ltr (p : Pt) (zs : List Pt) : cmpD .In (ltr p) (.tup (zs.map ltr)) = some (decide (p ∈ zs)) := by
  obtain ⟨h1, h2⟩ := pl_ltr zs
  have d1 : dep (D.tup (zs.map ltr)) ≤ 60 := by
    show depL (zs.map ltr) + 1 ≤ 60
    exact Nat.le_trans (Nat.succ_le_succ h2) (by decide)
  have d2 : dep (ltr p) ≤ 60 := by
    show depL [D.str p.1, D.int p.2] + 1 ≤ 60
    simp [depL, dep]
  have c : cmpable (ltr p) (.tup (zs.map ltr)) = true := by
    have p1 : pl (ltr p) = true := by simp [ltr, pl, plL]
    have p2 : pl (D.tup (zs.map ltr)) = true := h1
    simp only [cmpable, p1, p2, decide_eq_true d1, decide_eq_true d2, Bool.and_self]
  show (if cmpable (ltr p) (.tup (zs.map ltr)) then some (inD (ltr p) (zs.map ltr)) else none) = _
  rw [if_pos c, inD_ltr]
theorem cut_take {α β : Type} (f : α → β) (l : List α) (k : Nat) : cut (l.map f) none (some (k : Int)) = (l.take k).map f := by
  simp only [cut, bnd, List.length_map, List.map_take]
  rw [if_neg (by omega)]
  simp
theorem cut_drop {α β : Type} (f : α → β) (l : List α) (k : Nat) : cut (l.map f) (some (k : Int)) none = (l.drop k).map f := by
  simp only [cut, bnd, List.length_map, List.map_drop]
  rw [if_neg (by omega)]
  by_cases h : k ≤ l.length
  · have : min (k : Int).toNat l.length = k := by omega
    rw [this, List.take_of_length_le (by simp)]
  · have : min (k : Int).toNat l.length = l.length := by omega
    rw [this, Nat.sub_self, List.take_zero, List.drop_eq_nil_of_le (by simp; omega)]
theorem cut_mid {α β : Type} (f : α → β) (l : List α) (a b : Nat) (h : a ≤ b) (h1 : b ≤ l.length) : cut (l.map f) (some (a : Int)) (some (b : Int)) = ((l.drop a).take (b - a)).map f := by
  have b1 : bnd (l.map f).length 0 (some (a : Int)) = a := by
    simp only [bnd, List.length_map]
    rw [if_neg (by omega)]
    omega
  have b2 : bnd (l.map f).length (l.map f).length (some (b : Int)) = b := by
    simp only [bnd, List.length_map]
    rw [if_neg (by omega)]
    omega
  unfold cut
  rw [b1, b2, List.map_take, List.map_drop]
theorem cut_back {α β : Type} (f : α → β) (l : List α) (k : Nat) (hk : 0 < k) : cut (l.map f) (some (-(k : Int))) none = (l.drop (l.length - k)).map f := by
  have e : bnd (l.map f).length 0 (some (-(k : Int))) = l.length - k := by
    simp only [bnd, List.length_map]
    rw [if_pos (by omega)]
    omega
  unfold cut
  rw [e, show bnd (l.map f).length (l.map f).length none = (l.map f).length from rfl, List.map_drop, List.take_of_length_le (by simp)]
theorem bools_map : ∀ bs : List Bool, bools (bs.map D.bl) = some bs
  | [] => rfl
  | b :: bs => by simp [bools, bools_map bs]
theorem bi_all (bs : List Bool) : biD .all [.lst (bs.map .bl)] = some (.bl (bs.all id), false) := by
  simp [biD, allD, bools_map]
theorem bi_any (bs : List Bool) : biD .any [.lst (bs.map .bl)] = some (.bl (bs.any id), false) := by
  simp [biD, anyD, bools_map]
theorem intsD_map : ∀ bs : List Int, intsD (bs.map D.int) = some bs
  | [] => rfl
  | b :: bs => by simp [intsD, intsD_map bs]
/-- a comprehension over range(n) -/
theorem lcL_range {own : List Nat} {tn : D → En → R (Option D × En)} {ρ : En} (g : Nat → D) : ∀ (m i : Nat), (∀ j, i ≤ j → j < i + m → ∃ ρ', tn (.int (j : Int)) ρ = .ok (some (g j), ρ') ∧ wip ρ' own = ρ) → lcL none own tn (rangeL (i : Int) m) ρ = .ok ((List.range' i m).map g, ρ)
  | 0, i, _ => rfl
  | m + 1, i, h => by
    obtain ⟨ρ', e1, e2⟩ := h i (Nat.le_refl _) (by omega)
    have ih := lcL_range (tn := tn) g m (i + 1) fun j h1 h2 => h j (by omega) (by omega)
    have e : rangeL (i : Int) (m + 1) = .int i :: rangeL ((i + 1 : Nat) : Int) m := rfl
    rw [e]
    unfold lcL
    rw [if_pos (guard_none ρ), e1]
    show (lcL none own tn _ (wip ρ' own)).bind _ = _
    rw [e2, ih]
    rfl
/-- a comprehension over mapped things -/
theorem lcL_of {α : Type} {own : List Nat} {tn : D → En → R (Option D × En)} {ρ : En} (f g : α → D) : ∀ (l : List α), (∀ a ∈ l, ∃ ρ', tn (f a) ρ = .ok (some (g a), ρ') ∧ wip ρ' own = ρ) → lcL none own tn (l.map f) ρ = .ok (l.map g, ρ)
  | [], _ => rfl
  | a :: l, h => by
    obtain ⟨ρ', e1, e2⟩ := h a List.mem_cons_self
    have ih := lcL_of (tn := tn) f g l fun x hx => h x (List.mem_cons_of_mem _ hx)
    rw [List.map_cons]
    unfold lcL
    rw [if_pos (guard_none ρ), e1]
    show (lcL none own tn _ (wip ρ' own)).bind _ = _
    rw [e2, ih]
    rfl
/-! ### words within words -/
section
variable {α : Type} [DecidableEq α]
def idx (x : α) : List α → Nat
  | [] => 0
  | y :: ys => if y = x then 0 else idx x ys + 1
def wit : List α → List α → Int → Option (List Int)
  | _, [], _ => some []
  | [], _ :: _, _ => none
  | y :: ys, x :: xs, at_ => if y = x then (wit ys xs (at_ + 1)).map (at_ :: ·) else wit ys (x :: xs) (at_ + 1)
def rch : List α → List α → Nat
  | _, [] => 0
  | [], _ :: _ => 0
  | y :: ys, x :: xs => if y = x then rch ys xs + 1 else rch ys (x :: xs)
theorem idx_le (x : α) : ∀ ys : List α, idx x ys ≤ ys.length
  | [] => Nat.le_refl _
  | y :: ys => by
    have := idx_le x ys
    simp only [idx, List.length_cons]
    split <;> omega
@[simp] theorem wit_nil (ys : List α) (a : Int) : wit ys [] a = some [] := by cases ys <;> rfl
@[simp] theorem rch_nil (ys : List α) : rch ys ([] : List α) = 0 := by cases ys <;> rfl
theorem wit_idx (x : α) (xs : List α) : ∀ (ys : List α) (a : Int), wit ys (x :: xs) a = if idx x ys = ys.length then none else (wit (ys.drop (idx x ys + 1)) xs (a + idx x ys + 1)).map ((a + idx x ys) :: ·)
  | [], a => rfl
  | y :: ys, a => by
    have ih := wit_idx x xs ys (a + 1)
    by_cases h : y = x
    · simp [wit, idx, h]
    · have e0 : idx x (y :: ys) = idx x ys + 1 := by simp [idx, h]
      have e2 : wit (y :: ys) (x :: xs) a = wit ys (x :: xs) (a + 1) := by simp [wit, h]
      rw [e2, ih, e0]
      have e1 : a + 1 + (idx x ys : Int) = a + ((idx x ys + 1 : Nat) : Int) := by omega
      rw [e1]
      simp
theorem wit_rch : ∀ (ys xs : List α) (a : Int), (wit ys xs a).isSome = decide (rch ys xs = xs.length)
  | ys, [], a => by simp
  | [], x :: xs, a => by simp [wit, rch]
  | y :: ys, x :: xs, a => by
    simp only [wit, rch]
    by_cases h : y = x
    · have ih := wit_rch ys xs (a + 1)
      simp [h, ih]
    · have ih := wit_rch ys (x :: xs) (a + 1)
      simp [h, ih]
theorem rch_le : ∀ (ys xs : List α), rch ys xs ≤ xs.length
  | ys, [] => by simp
  | [], x :: xs => by simp [rch]
  | y :: ys, x :: xs => by
    simp only [rch]
    split
    · have := rch_le ys xs
      simp; omega
    · exact rch_le ys (x :: xs)
/-- places as they ought to be -/
inductive Ok (m : List α) : Int → List α → List Int → Prop
  | nil (l : Int) : Ok m l [] []
  | cons {l p : Int} {x : α} {xs : List α} {ps : List Int} : l < p → p < m.length → m[p.toNat]? = some x → (∀ j : Nat, l < j → (j : Int) < p → m[j]? ≠ some x) → Ok m p xs ps → Ok m l (x :: xs) (p :: ps)
theorem wit_ok (m : List α) : ∀ (xs : List α) (a : Nat) (ps : List Int), a ≤ m.length → wit (m.drop a) xs a = some ps → Ok m (a - 1) xs ps
  | [], a, ps, _, h => by
    simp at h
    subst h
    exact .nil _
  | x :: xs, a, ps, ha, h => by
    rw [wit_idx] at h
    split at h
    · cases h
    · rename_i ne
      have le := idx_le x (m.drop a)
      rw [List.length_drop] at ne le
      obtain ⟨qs, h1, rfl⟩ := Option.map_eq_some_iff.mp h
      have hit : ∀ (l : List α), idx x l ≠ l.length → l[idx x l]? = some x ∧ ∀ j, j < idx x l → l[j]? ≠ some x := by
        intro l
        induction l with
        | nil => intro z; exact absurd rfl z
        | cons y ys ih =>
          intro z
          simp only [idx] at z ⊢
          by_cases e : y = x
          · rw [if_pos e]
            exact ⟨by simp [e], fun j hj => absurd hj (Nat.not_lt_zero _)⟩
          · rw [if_neg e] at z ⊢
            obtain ⟨i1, i2⟩ := ih (fun q => z (by simp [q]))
            refine ⟨by simpa using i1, fun j hj => ?_⟩
            cases j with
            | zero => simpa using e
            | succ j => simpa using i2 j (by omega)
      obtain ⟨i1, i2⟩ := hit (m.drop a) (by rw [List.length_drop]; exact ne)
      generalize idx x (m.drop a) = k at *
      rw [List.drop_drop] at h1
      have e1 : ((a : Int) + k + 1) = ((a + (k + 1) : Nat) : Int) := by omega
      rw [e1] at h1
      have ih := wit_ok m xs (a + (k + 1)) qs (by omega) h1
      have e2 : (((a + (k + 1) : Nat) : Int) - 1) = (a : Int) + k := by omega
      rw [e2] at ih
      refine .cons (by omega) (by omega) ?_ (fun j h1 h2 => ?_) ih
      · rw [List.getElem?_drop] at i1
        have : ((a : Int) + k).toNat = a + k := by omega
        rw [this]
        exact i1
      · have := i2 (j - a) (by omega)
        rw [List.getElem?_drop] at this
        have e : a + (j - a) = j := by omega
        rw [e] at this
        exact this
theorem Ok.len {m : List α} {l : Int} {xs : List α} {ps : List Int} (h : Ok m l xs ps) : ps.length = xs.length := by
  induction h <;> simp_all
end
end G
namespace G
abbrev rowD (l : List Pt) : D := .tup (l.map ltr)
theorem ln_ok {l : List D} (h : l.length ≤ 10000) : decide (line ≤ l.length) = false := by
  have : line = 16777216 := rfl
  simp only [decide_eq_false_iff_not]
  omega
/-- a comprehension with a test over range(n) -/
theorem lcL_filt {own : List Nat} {tn : D → En → R (Option D × En)} {ρ : En} (c : Nat → Bool) (g : Nat → D) : ∀ (m i : Nat), (∀ j, i ≤ j → j < i + m → ∃ ρ', tn (.int (j : Int)) ρ = .ok (if c j then some (g j) else none, ρ') ∧ wip ρ' own = ρ) →
    lcL none own tn (rangeL (i : Int) m) ρ = .ok (((List.range' i m).filter c).map g, ρ)
  | 0, i, _ => rfl
  | m + 1, i, h => by
    obtain ⟨ρ', e1, e2⟩ := h i (Nat.le_refl _) (by omega)
    have ih := lcL_filt (tn := tn) c g m (i + 1) fun j h1 h2 => h j (by omega) (by omega)
    have e : rangeL (i : Int) (m + 1) = .int i :: rangeL ((i + 1 : Nat) : Int) m := rfl
    rw [e]
    unfold lcL
    rw [if_pos (guard_none ρ), e1]
    show (lcL none own tn _ (wip ρ' own)).bind _ = _
    rw [e2, ih, List.range'_succ]
    by_cases z : c i = true
    · rw [List.filter_cons_of_pos z, if_pos z]; rfl
    · rw [List.filter_cons_of_neg z, if_neg z]; rfl
/-- the same over mapped things -/
theorem lcL_filt_of {α : Type} {own : List Nat} {tn : D → En → R (Option D × En)} {ρ : En} (f : α → D) (c : α → Bool) (g : α → D) : ∀ (l : List α), (∀ a ∈ l, ∃ ρ', tn (f a) ρ = .ok (if c a then some (g a) else none, ρ') ∧ wip ρ' own = ρ) →
    lcL none own tn (l.map f) ρ = .ok ((l.filter c).map g, ρ)
  | [], _ => rfl
  | a :: l, h => by
    obtain ⟨ρ', e1, e2⟩ := h a List.mem_cons_self
    have ih := lcL_filt_of (tn := tn) f c g l fun x hx => h x (List.mem_cons_of_mem _ hx)
    rw [List.map_cons]
    unfold lcL
    rw [if_pos (guard_none ρ), e1]
    show (lcL none own tn _ (wip ρ' own)).bind _ = _
    rw [e2, ih]
    by_cases z : c a = true
    · rw [List.filter_cons_of_pos z, if_pos z]; rfl
    · rw [List.filter_cons_of_neg z, if_neg z]; rfl
/-- the places behind no like one -/
def fa (l : List Pt) : List Nat := (List.range' 0 l.length).filter fun i => decide (i = 0) || decide (l[i - 1]? ≠ l[i]?)
theorem fa_lt {l : List Pt} {i : Nat} (h : i ∈ fa l) : i < l.length := by
  have := (List.mem_filter.mp h).1
  simp at this
  exact this
theorem fa_zero {l : List Pt} (h : 0 < l.length) : 0 ∈ fa l := List.mem_filter.mpr ⟨by simp; exact h, by simp⟩
theorem fa_nil : fa [] = [] := rfl
theorem fa_one (p : Pt) : fa [p] = [0] := rfl
theorem fa_pos (l : List Pt) : 0 < (fa l).length ↔ 0 < l.length := by
  constructor
  · intro h
    exact Nat.lt_of_le_of_lt (Nat.zero_le _) (fa_lt (List.getElem_mem h))
  · intro h
    exact List.length_pos_of_mem (fa_zero h)
theorem eqvL_ltr : ∀ a b : List Pt, eqvL (a.map ltr) (b.map ltr) = decide (a = b)
  | [], [] => rfl
  | [], _ :: _ => by simp [eqvL]
  | _ :: _, [] => by simp [eqvL]
  | x :: a, y :: b => by
    rw [List.map_cons, List.map_cons, show eqvL (ltr x :: a.map ltr) (ltr y :: b.map ltr) = (eqv (ltr x) (ltr y) && eqvL (a.map ltr) (b.map ltr)) from rfl, eqv_ltr, eqvL_ltr a b, Bool.eq_iff_iff]
    simp
theorem cmpable_lst (a b : List Pt) : cmpable (.lst (a.map ltr)) (.lst (b.map ltr)) = true := by
  obtain ⟨h1, h2⟩ := pl_ltr a
  obtain ⟨h3, h4⟩ := pl_ltr b
  have d1 : dep (D.lst (a.map ltr)) ≤ 60 := Nat.le_trans (Nat.succ_le_succ h2) (by decide)
  have d2 : dep (D.lst (b.map ltr)) ≤ 60 := Nat.le_trans (Nat.succ_le_succ h4) (by decide)
  have p1 : pl (D.lst (a.map ltr)) = true := h1
  have p2 : pl (D.lst (b.map ltr)) = true := h3
  simp only [cmpable, p1, p2, decide_eq_true d1, decide_eq_true d2, Bool.and_self]
theorem cmpable_tup (a b : List Pt) : cmpable (.tup (a.map ltr)) (.tup (b.map ltr)) = true := by
  obtain ⟨h1, h2⟩ := pl_ltr a
  obtain ⟨h3, h4⟩ := pl_ltr b
  have d1 : dep (D.tup (a.map ltr)) ≤ 60 := Nat.le_trans (Nat.succ_le_succ h2) (by decide)
  have d2 : dep (D.tup (b.map ltr)) ≤ 60 := Nat.le_trans (Nat.succ_le_succ h4) (by decide)
  have p1 : pl (D.tup (a.map ltr)) = true := h1
  have p2 : pl (D.tup (b.map ltr)) = true := h3
  simp only [cmpable, p1, p2, decide_eq_true d1, decide_eq_true d2, Bool.and_self]
theorem cmp_eq_lst (a b : List Pt) : cmpD .Eq (.lst (a.map ltr)) (.lst (b.map ltr)) = some (decide (a = b)) := by
  show (if cmpable _ _ then some (eqvL _ _) else none) = _
  rw [if_pos (cmpable_lst a b), eqvL_ltr]
theorem cmp_ne_lst (a b : List Pt) : cmpD .NotEq (.lst (a.map ltr)) (.lst (b.map ltr)) = some (!decide (a = b)) := by
  show Option.map _ (if cmpable _ _ then some (eqvL _ _) else none) = _
  rw [if_pos (cmpable_lst a b), eqvL_ltr]
  rfl
theorem cmp_eq_tup (a b : List Pt) : cmpD .Eq (.tup (a.map ltr)) (.tup (b.map ltr)) = some (decide (a = b)) := by
  show (if cmpable _ _ then some (eqvL _ _) else none) = _
  rw [if_pos (cmpable_tup a b), eqvL_ltr]
theorem cmp_ne_tup (a b : List Pt) : cmpD .NotEq (.tup (a.map ltr)) (.tup (b.map ltr)) = some (!decide (a = b)) := by
  show Option.map _ (if cmpable _ _ then some (eqvL _ _) else none) = _
  rw [if_pos (cmpable_tup a b), eqvL_ltr]
  rfl
theorem add_lst (l m : List Pt) (h : l.length + m.length ≤ 1000) : binD .Add (.lst (l.map ltr)) (.lst (m.map ltr)) = some (.lst ((l ++ m).map ltr), true) := by
  have e : line = 16777216 := rfl
  simp only [binD, addD, List.length_map, List.map_append]
  rw [if_pos (by omega)]
theorem ins2_comm (x y : Pt) : ∀ l : List Pt, ins2 x (ins2 y l) = ins2 y (ins2 x l)
  | [] => by
    simp only [ins2]
    by_cases a : lt2 y x <;> by_cases b : lt2 x y <;> simp [a, b]
    all_goals first | exact absurd (lt2_tr a b) (lt2_irr _) | exact ⟨(lt2_tot a b), (lt2_tot a b).symm⟩ | exact ⟨(lt2_tot a b).symm, lt2_tot a b⟩
  | z :: zs => by
    have ih := ins2_comm x y zs
    have u : ∀ (p q : Pt) (l : List Pt), ins2 p (q :: l) = if lt2 q p then q :: ins2 p l else p :: q :: l := fun _ _ _ => rfl
    by_cases a : lt2 z y <;> by_cases b : lt2 z x
    · rw [u y, if_pos a, u x, if_pos b, u x, if_pos b, u y, if_pos a, ih]
    · have c : lt2 x y := by
        by_cases c : lt2 x z
        · exact lt2_tr c a
        · exact (lt2_tot b c) ▸ a
      rw [u y, if_pos a, u x, if_neg b, u x, if_neg b, u y, if_pos c, u y, if_pos a]
    · have c : lt2 y x := by
        by_cases c : lt2 y z
        · exact lt2_tr c b
        · exact (lt2_tot a c) ▸ b
      rw [u y, if_neg a, u x y, if_pos c, u x z, if_pos b, u y, if_neg a]
    · rw [u y z, if_neg a, u x z, if_neg b, u x y, u y x, u x z, if_neg b, u y z, if_neg a]
      by_cases c : lt2 y x
      · have d : ¬ lt2 x y := fun d => lt2_irr _ (lt2_tr c d)
        rw [if_pos c, if_neg d]
      · by_cases d : lt2 x y
        · rw [if_neg c, if_pos d]
        · rw [if_neg c, if_neg d, lt2_tot c d]
theorem sort2_perm {a b : List Pt} (h : a.Perm b) : sort2 a = sort2 b := by
  induction h with
  | nil => rfl
  | cons x _ ih => show ins2 x _ = ins2 x _; rw [ih]
  | swap x y l => exact ins2_comm y x (sort2 l)
  | trans _ _ ih1 ih2 => exact ih1.trans ih2
theorem ins2_perm (x : Pt) : ∀ l : List Pt, (ins2 x l).Perm (x :: l)
  | [] => List.Perm.refl _
  | y :: ys => by
    unfold ins2
    split
    · exact ((ins2_perm x ys).cons y).trans (List.Perm.swap x y ys)
    · exact List.Perm.refl _
theorem sort2_self : ∀ l : List Pt, (sort2 l).Perm l
  | [] => List.Perm.refl _
  | x :: xs => (ins2_perm x (sort2 xs)).trans ((sort2_self xs).cons x)
theorem sort2_of_up : ∀ {l : List Pt}, Up l → sort2 l = l
  | [], _ => rfl
  | x :: xs, h => by
    obtain ⟨h1, h2⟩ := List.pairwise_cons.mp h
    show ins2 x (sort2 xs) = _
    rw [sort2_of_up h2]
    cases xs with
    | nil => rfl
    | cons y ys => unfold ins2; rw [if_neg (h1 y List.mem_cons_self)]
theorem wit_sub {α : Type} [DecidableEq α] : ∀ {ys xs : List α} (a : Int), xs.Sublist ys → (wit ys xs a).isSome = true
  | ys, [], a, _ => by simp
  | [], x :: xs, a, h => by cases h
  | y :: ys, x :: xs, a, h => by
    by_cases e : y = x
    · subst e
      have := wit_sub (a + 1) (List.cons_sublist_cons.mp h)
      simp [wit, this]
    · have h' : (x :: xs).Sublist ys := by
        cases h with
        | cons _ h => exact h
        | cons_cons _ h => exact absurd rfl e
      have := wit_sub (a + 1) h'
      simp [wit, e, this]
end G
namespace G
@[simp] theorem list_tup (x : List D) : biD .list [.tup x] = some (.lst x, true) := rfl
@[simp] theorem list_lst (x : List D) : biD .list [.lst x] = some (.lst x, true) := rfl
@[simp] theorem tuple_tup (x : List D) : biD .tuple [.tup x] = some (.tup x, false) := rfl
theorem fa_one_of (l : List Pt) : fa (l.take 1) = if l = [] then [] else [0] := by
  cases l with
  | nil => rfl
  | cons p l => rfl
theorem mod_nat {a : Int} {k : Nat} (h : 0 < k) : ∃ t : Nat, a % k = t ∧ t < k := by
  have b1 := Int.emod_nonneg a (show (k : Int) ≠ 0 by omega)
  have b2 := Int.emod_lt_of_pos a (show (0 : Int) < k by omega)
  exact ⟨(a % k).toNat, by omega, by omega⟩
theorem up_sub {a b : List Pt} (h : a.Sublist b) (u : Up b) : Up a := List.Pairwise.sublist h u
end G

/-! plain law: rows of words, and each once in their order -/
namespace G
abbrev Row := List (List Pt)
abbrev rwD (A : Row) : D := .tup (A.map rowD)
theorem map_inj {α : Type} {f : α → D} (h : ∀ a b, f a = f b → a = b) : ∀ {l m : List α}, l.map f = m.map f → l = m
  | [], [], _ => rfl
  | [], _ :: _, e => by cases e
  | _ :: _, [], e => by cases e
  | x :: l, y :: m, e => by
    simp only [List.map_cons, List.cons.injEq] at e
    rw [h x y e.1, map_inj h e.2]
theorem rowD_inj {a b : List Pt} (h : rowD a = rowD b) : a = b := map_inj (fun _ _ => ltr_inj) (D.tup.inj h)
theorem rwD_inj {a b : Row} (h : rwD a = rwD b) : a = b := map_inj (fun _ _ => rowD_inj) (D.tup.inj h)
theorem eqvL_map {α : Type} [DecidableEq α] {f : α → D} (h : ∀ a b, eqv (f a) (f b) = decide (a = b)) : ∀ l m : List α, eqvL (l.map f) (m.map f) = decide (l = m)
  | [], [] => rfl
  | [], _ :: _ => by simp [eqvL]
  | _ :: _, [] => by simp [eqvL]
  | x :: l, y :: m => by
    rw [List.map_cons, List.map_cons, show eqvL (f x :: l.map f) (f y :: m.map f) = (eqv (f x) (f y) && eqvL (l.map f) (m.map f)) from rfl, h, eqvL_map h l m, Bool.eq_iff_iff]
    simp
theorem eqv_rowD (a b : List Pt) : eqv (rowD a) (rowD b) = decide (a = b) := eqvL_ltr a b
theorem eqv_rwD (a b : Row) : eqv (rwD a) (rwD b) = decide (a = b) := eqvL_map eqv_rowD a b
theorem cmpbL_map {α : Type} {f : α → D} (h : ∀ a b, cmpb (f a) (f b) = true) : ∀ l m : List α, cmpbL (l.map f) (m.map f) = true
  | [], _ => rfl
  | _ :: _, [] => rfl
  | x :: l, y :: m => by
    rw [List.map_cons, List.map_cons, show cmpbL (f x :: l.map f) (f y :: m.map f) = ((eqv (f x) (f y) || cmpb (f x) (f y)) && cmpbL (l.map f) (m.map f)) from rfl, h, cmpbL_map h l m]
    simp
theorem cmpb_ltr (p q : Pt) : cmpb (ltr p) (ltr q) = true := by simp [ltr, cmpb, cmpbL]
theorem cmpb_rowD (a b : List Pt) : cmpb (rowD a) (rowD b) = true := cmpbL_map cmpb_ltr a b
theorem cmpb_rwD (a b : Row) : cmpb (rwD a) (rwD b) = true := cmpbL_map cmpb_rowD a b
/-- plain, so deep, a key -/
def nice (n : Nat) (d : D) : Prop := pl d = true ∧ dep d ≤ n ∧ kb d = true
theorem nice_ltr (p : Pt) : nice 1 (ltr p) := ⟨by simp [ltr, pl, plL], by simp [ltr, dep, depL], by simp [ltr, kb, kbL]⟩
theorem nice_tup {n : Nat} {ds : List D} (h : ∀ d ∈ ds, nice n d) : nice (n + 1) (.tup ds) :=
  ⟨plL_iff.mpr fun d hd => (h d hd).1, Nat.succ_le_succ (depL_iff.mpr fun d hd => (h d hd).2.1), kbL_iff.mpr fun d hd => (h d hd).2.2⟩
theorem nice_map {α : Type} {n : Nat} {f : α → D} (h : ∀ a, nice n (f a)) (l : List α) : nice (n + 1) (.tup (l.map f)) := nice_tup fun d hd => by
  obtain ⟨a, _, rfl⟩ := List.mem_map.mp hd
  exact h a
theorem nice_rowD (a : List Pt) : nice 2 (rowD a) := nice_map nice_ltr a
theorem nice_rwD (a : Row) : nice 3 (rwD a) := nice_map nice_rowD a
/-- things of one form, as a set may have them -/
theorem setOk_of {α : Type} [DecidableEq α] {f : α → D} {n : Nat} (hn : n ≤ 8) (n1 : ∀ a, nice n (f a)) (e1 : ∀ a b, eqv (f a) (f b) = decide (a = b)) (c1 : ∀ a b, cmpb (f a) (f b) = true) {l : List α} (hl : (dedup (l.map f)).length + 1 < capD (l.map f)) (hk : srtK (l.map f) = true)
    (ht : ((l.map f).all (fun x => tyK x == 3) || (l.map f).all fun x => tyK x == 1 || tyK x == 2) = true) : setOk (l.map f) = true := by
  have mem : ∀ d ∈ l.map f, nice n d := fun d hd => by obtain ⟨a, _, rfl⟩ := List.mem_map.mp hd; exact n1 a
  have h1 : allCmp (l.map f) = true := by
    simp only [allCmp, Bool.and_eq_true, decide_eq_true_eq, plL_iff, depL_iff, List.all_eq_true]
    refine ⟨⟨fun d hd => (mem d hd).1, fun d hd => by have := (mem d hd).2.1; omega⟩, fun x hx y hy => ?_⟩
    obtain ⟨a, _, rfl⟩ := List.mem_map.mp hx
    obtain ⟨b, _, rfl⟩ := List.mem_map.mp hy
    exact c1 a b
  have h2 : sameD (l.map f) = true := by
    refine List.all_eq_true.mpr fun x hx => List.all_eq_true.mpr fun y hy => ?_
    obtain ⟨a, _, rfl⟩ := List.mem_map.mp hx
    obtain ⟨b, _, rfl⟩ := List.mem_map.mp hy
    rw [e1]
    by_cases e : a = b
    · simp [e]
    · simp [e]
  simp only [setOk, h1, hk, h2, ht, Bool.true_and, Bool.and_true, Bool.and_eq_true, decide_eq_true_eq]
  exact ⟨⟨kbL_iff.mpr fun d hd => (mem d hd).2.2, depL_iff.mpr fun d hd => by have := (mem d hd).2.1; omega⟩, hl⟩
theorem sortR_self {l : List D} (a : allCmp l = true) (s : SrtO.Srtd ltQ l) : sortR l = l := by
  simp only [allCmp, Bool.and_eq_true, plL_iff, List.all_eq_true] at a
  exact (sortR_uniq (fun x hx y hy => ltB_key y x (a.1.1 y hy) (a.1.1 x hx) (a.2 y hy x hx)) s (SrtO.Stb.refl l)).symm
theorem sortR_srtd {l : List D} (a : allCmp l = true) : SrtO.Srtd ltQ (sortR l) ∧ (sortR l).Perm l := by
  simp only [allCmp, Bool.and_eq_true, plL_iff, List.all_eq_true] at a
  rw [sortR_eq l fun x hx y hy => ltB_key y x (a.1.1 y hy) (a.1.1 x hx) (a.2 y hy x hx)]
  obtain ⟨h1, h2⟩ := isort_ok ltQ_swo l
  exact ⟨h1, h2.perm⟩
/-- the things of l, each once, rising: any list that is so is it -/
theorem sorset_is {α : Type} [DecidableEq α] {f : α → D} (inj : ∀ a b, f a = f b → a = b) (e1 : ∀ a b, eqv (f a) (f b) = decide (a = b)) {l m : List α} (ok : setOk (l.map f) = true) (mm : ∀ a, a ∈ m ↔ a ∈ l) (nd : m.Nodup) (s : SrtO.Srtd ltQ (m.map f)) :
    sortR (dedup (l.map f)) = m.map f := by
  have ok' := ok
  simp only [setOk, Bool.and_eq_true, decide_eq_true_eq] at ok'
  obtain ⟨⟨⟨⟨⟨⟨o1, o2⟩, o3⟩, o4⟩, o5⟩, o6⟩, o7⟩ := ok'
  have dd : (dedup (l.map f)).Nodup := dedup_nd fun x hx => by
    obtain ⟨a, _, rfl⟩ := List.mem_map.mp hx
    rw [e1]; simp
  have ndm : (m.map f).Nodup := List.pairwise_map.mpr (nd.imp fun {a b} h e => h (inj a b e))
  have pm : (dedup (l.map f)).Perm (m.map f) := (List.perm_ext_iff_of_nodup dd ndm).mpr fun d => by
    constructor
    · intro h
      obtain ⟨a, ha, rfl⟩ := List.mem_map.mp (dedup_sub h)
      exact List.mem_map_of_mem ((mm a).mpr ha)
    · intro h
      obtain ⟨a, ha, rfl⟩ := List.mem_map.mp h
      exact dedup_mem (same_iff o6) (List.mem_map_of_mem ((mm a).mp ha))
  have sub : ∀ d ∈ m.map f, d ∈ l.map f := fun d hd => dedup_sub (pm.mem_iff.mpr hd)
  have am := allCmp_sub sub o1
  rw [sortR_perm pm dd am fun x hx y hy => same_iff o6 x (sub x hx) y (sub y hy), sortR_self am s]
theorem sorset_ex {α : Type} [DecidableEq α] {f : α → D} (inj : ∀ a b, f a = f b → a = b) (e1 : ∀ a b, eqv (f a) (f b) = decide (a = b)) {l : List α} (ok : setOk (l.map f) = true) :
    ∃ m : List α, sortR (dedup (l.map f)) = m.map f ∧ (∀ a, a ∈ m ↔ a ∈ l) ∧ m.Nodup ∧ SrtO.Srtd ltQ (m.map f) := by
  have ok' := ok
  simp only [setOk, Bool.and_eq_true, decide_eq_true_eq] at ok'
  obtain ⟨⟨⟨⟨⟨⟨o1, o2⟩, o3⟩, o4⟩, o5⟩, o6⟩, o7⟩ := ok'
  have dd : (dedup (l.map f)).Nodup := dedup_nd fun x hx => by
    obtain ⟨a, _, rfl⟩ := List.mem_map.mp hx
    rw [e1]; simp
  obtain ⟨s1, s2⟩ := sortR_srtd (allCmp_sub (fun y hy => dedup_sub hy) o1 : allCmp (dedup (l.map f)) = true)
  obtain ⟨m, hm⟩ := map_of (f := f) (es := sortR (dedup (l.map f))) fun e he => by
    obtain ⟨a, _, rfl⟩ := List.mem_map.mp (dedup_sub (s2.mem_iff.mp he))
    exact ⟨a, rfl⟩
  have ndm : (m.map f).Nodup := by rw [← hm]; exact s2.nodup_iff.mpr dd
  refine ⟨m, hm, fun a => ⟨fun h => ?_, fun h => ?_⟩, L2.nodup_of_map ndm, by rw [← hm]; exact s1⟩
  · have := s2.mem_iff.mp (by rw [hm]; exact List.mem_map_of_mem h)
    obtain ⟨b, hb, e⟩ := List.mem_map.mp (dedup_sub this)
    rw [← inj b a e]; exact hb
  · have := s2.mem_iff.mpr (dedup_mem (same_iff o6) (List.mem_map_of_mem (f := f) h))
    rw [hm] at this
    obtain ⟨b, hb, e⟩ := List.mem_map.mp this
    rw [← inj b a e]; exact hb
theorem bi_sorset_l {l : List D} (h : setOk l = true) : biD .sorset [.lst l] = some (.lst (sortR (dedup l)), true) := by
  simp only [biD, sorsetD, h, if_true]
theorem bi_sorset_t {l : List D} (h : setOk l = true) : biD .sorset [.tup l] = some (.lst (sortR (dedup l)), true) := by
  simp only [biD, sorsetD, h, if_true]
theorem bi_lenset_l {l : List D} (h : setOk l = true) : biD .lenset [.lst l] = some (.int (dedup l).length, false) := by
  simp only [biD, lensetD, h, if_true]
theorem cap_few {l : List D} (h : l.length + 1 < 64) : (dedup l).length + 1 < capD l := by
  have := dedup_len l
  unfold capD
  split <;> omega
theorem cap_many {l : List D} (h : l.length + 1 < 1000) (n : l ≠ []) (hs : l.all (fun x => tyK x == 1 || tyK x == 2) = true) : (dedup l).length + 1 < capD l := by
  have := dedup_len l
  unfold capD
  rw [if_neg]
  · omega
  · intro c
    cases l with
    | nil => exact n rfl
    | cons x l =>
      have a := List.all_eq_true.mp c x List.mem_cons_self
      have b := List.all_eq_true.mp hs x List.mem_cons_self
      simp only [Bool.or_eq_true, beq_iff_eq] at a b
      omega
theorem ok_rows {L : List Row} (hl : L.length < 63) (hr : ∀ A ∈ L, A ≠ []) : setOk (L.map rwD) = true := by
  refine setOk_of (n := 3) (by decide) nice_rwD eqv_rwD cmpb_rwD (cap_few (by simp; omega)) ?_ ?_
  · have : (L.map rwD).all (fstK 3) = true := by
      refine List.all_eq_true.mpr fun d hd => ?_
      obtain ⟨A, hA, rfl⟩ := List.mem_map.mp hd
      cases A with
      | nil => exact absurd rfl (hr _ hA)
      | cons a A => rfl
    simp [srtK, this]
  · have : (L.map rwD).all (fun x => tyK x == 3) = true := by
      refine List.all_eq_true.mpr fun d hd => ?_
      obtain ⟨A, _, rfl⟩ := List.mem_map.mp hd
      rfl
    rw [this]; rfl
/-- the rows, each once, rising -/
noncomputable def SS (L : List Row) : List Row := by
  classical exact if h : setOk (L.map rwD) = true then (sorset_ex (fun _ _ => rwD_inj) eqv_rwD h).choose else []
theorem SS_ok {L : List Row} (h : setOk (L.map rwD) = true) : sortR (dedup (L.map rwD)) = (SS L).map rwD ∧ (∀ a, a ∈ SS L ↔ a ∈ L) ∧ (SS L).Nodup ∧ SrtO.Srtd ltQ ((SS L).map rwD) := by
  unfold SS
  rw [dif_pos h]
  exact (sorset_ex (fun _ _ => rwD_inj) eqv_rwD h).choose_spec
theorem SS_is {L M : List Row} (ok : setOk (L.map rwD) = true) (mm : ∀ a, a ∈ M ↔ a ∈ L) (nd : M.Nodup) (s : SrtO.Srtd ltQ (M.map rwD)) : SS L = M := by
  have h1 := (SS_ok ok).1
  rw [sorset_is (fun _ _ => rwD_inj) eqv_rwD ok mm nd s] at h1
  exact (map_inj (fun _ _ => rwD_inj) h1).symm
theorem cmp_ne_of {α : Type} [DecidableEq α] {f : α → D} {n : Nat} (hn : n ≤ 60) (n1 : ∀ a, nice n (f a)) (e1 : ∀ a b, eqv (f a) (f b) = decide (a = b)) (a b : α) : cmpD .NotEq (f a) (f b) = some (!decide (a = b)) := by
  have c : cmpable (f a) (f b) = true := by
    have d1 : dep (f a) ≤ 60 := Nat.le_trans (n1 a).2.1 hn
    have d2 : dep (f b) ≤ 60 := Nat.le_trans (n1 b).2.1 hn
    simp only [cmpable, (n1 a).1, (n1 b).1, decide_eq_true d1, decide_eq_true d2, Bool.and_self]
  show Option.map _ (if cmpable _ _ then some (eqv _ _) else none) = _
  rw [if_pos c, e1]; rfl
theorem cmp_eq_of {α : Type} [DecidableEq α] {f : α → D} {n : Nat} (hn : n ≤ 60) (n1 : ∀ a, nice n (f a)) (e1 : ∀ a b, eqv (f a) (f b) = decide (a = b)) (a b : α) : cmpD .Eq (f a) (f b) = some (decide (a = b)) := by
  have c : cmpable (f a) (f b) = true := by
    have d1 : dep (f a) ≤ 60 := Nat.le_trans (n1 a).2.1 hn
    have d2 : dep (f b) ≤ 60 := Nat.le_trans (n1 b).2.1 hn
    simp only [cmpable, (n1 a).1, (n1 b).1, decide_eq_true d1, decide_eq_true d2, Bool.and_self]
  show (if cmpable _ _ then some (eqv _ _) else none) = _
  rw [if_pos c, e1]
/-- the same, going over a list that is watched -/
theorem lcL_filt_ofG {α : Type} {own : List Nat} {g : Option (Nat × List D)} {tn : D → En → R (Option D × En)} {ρ : En} (hg : guard g ρ = true) (f : α → D) (c : α → Bool) (h : α → D) : ∀ (l : List α), (∀ a ∈ l, ∃ ρ', tn (f a) ρ = .ok (if c a then some (h a) else none, ρ') ∧ wip ρ' own = ρ) →
    lcL g own tn (l.map f) ρ = .ok ((l.filter c).map h, ρ)
  | [], _ => by show lcL g own tn [] ρ = _; unfold lcL; rw [if_pos hg]; rfl
  | a :: l, q => by
    obtain ⟨ρ', e1, e2⟩ := q a List.mem_cons_self
    have ih := lcL_filt_ofG hg f c h l fun x hx => q x (List.mem_cons_of_mem _ hx)
    rw [List.map_cons]
    unfold lcL
    rw [if_pos hg, e1]
    show (lcL g own tn _ (wip ρ' own)).bind _ = _
    rw [e2, ih]
    by_cases z : c a = true
    · rw [List.filter_cons_of_pos z, if_pos z]; rfl
    · rw [List.filter_cons_of_neg z, if_neg z]; rfl
theorem callR_flat {d : D} {fr : Bool} {b : List Nat} {ρ : En} (h : topFlat d fr = true) : callR (.ok d fr []) [] b ρ = .ok (d, fr, ρ) := by
  simp [callR, h, putAll]
theorem zip_rows : ∀ A B : Row, zipL (A.map rowD) (B.map rowD) = (A.zip B).map fun p => .tup [rowD p.1, rowD p.2]
  | [], _ => by simp [zipL]
  | _ :: _, [] => by simp [zipL]
  | a :: A, b :: B => by simp [zipL, zip_rows A B]
/-- within, road by road -/
def bs (A B : Row) : List Bool := (A.zip B).map fun p => (wit p.2 p.1 0).isSome
def inn (A B : Row) : Bool := (bs A B).all id
theorem bs_due : ∀ (A B : Row), A.length = B.length → (List.range' 0 A.length).map (fun j => decide (rch (B[j]?.getD []) (A[j]?.getD []) = (A[j]?.getD []).length)) = bs A B := by
  intro A B h
  refine List.ext_getElem (by simp [bs]; omega) fun j h1 h2 => ?_
  have c : j < A.length := by simpa using h1
  have c2 : j < B.length := by omega
  simp [bs, wit_rch, c, c2]
theorem pln_rowD (l : List Pt) (h : l.length ≤ 1000) : Pln (rowD l) 3 := pln_ltr l h
theorem pln_rows {L : List Row} (hl : L.length ≤ 1000) (h : ∀ A ∈ L, A.length ≤ 1000 ∧ ∀ l ∈ A, l.length ≤ 1000) : Pln (.tup (L.map rwD)) 5 := by
  refine .tup _ _ (fun x hx => ?_) (by simp; omega)
  obtain ⟨A, hA, rfl⟩ := List.mem_map.mp hx
  obtain ⟨h1, h2⟩ := h A hA
  refine .tup _ _ (fun y hy => ?_) (by simp; omega)
  obtain ⟨l, hl, rfl⟩ := List.mem_map.mp hy
  exact pln_rowD l (h2 l hl)
end G

/-! plain law: programs and worlds as data -/
namespace G
@[simp] theorem callR_lent (d : D) (fr : Bool) (o : D) (i : Nat) (ρ : En) : callR (.ok d fr [o]) [i] [] ρ = .ok (d, fr, ρ.set i (some (.own o))) := rfl
@[simp] theorem apart_one (i : Nat) : apart [i] [] = true := rfl
theorem bin_mulB {i j : Int} (h : i.natAbs < 2 ^ 3000) (h' : j.natAbs < 2 ^ 3000) : binD .Mult (.int i) (.int j) = some (.int (i * j), false) := by
  have k : ∀ a : Nat, a < 2 ^ 3000 → a.log2 < 3000 := fun a ha => by
    by_cases z : a = 0
    · subst z; decide
    · exact (Nat.log2_lt z).mpr ha
  have c : i.natAbs.log2 + j.natAbs.log2 < 134217720 := by have := k _ h; have := k _ h'; omega
  show mulD (.int i) (.int j) = _
  simp only [mulD, if_pos c]
theorem bin_divB {a b : Int} (h : 0 < b) (h' : b < 1000000000) : binD .FloorDiv (.int a) (.int b) = some (.int (a / b), false) := bin_div h (by omega)
/-- a comprehension whose turns move a state along -/
theorem lcL_st {σ : Type} {P : D → Prop} {own : List Nat} {tn : D → En → R (Option D × En)} (env : σ → En) : ∀ {ds : List D}, (∀ d ∈ ds, ∀ v, ∃ e ρ' v', P e ∧ tn d (env v) = .ok (some e, ρ') ∧ wip ρ' own = env v') → ∀ v, ∃ es v', es.length = ds.length ∧ (∀ e ∈ es, P e) ∧ lcL none own tn ds (env v) = .ok (es, env v')
  | [], _, v => ⟨[], v, rfl, fun _ h => (nomatch h), rfl⟩
  | d :: ds, h, v => by
    obtain ⟨e, ρ', v1, p, e1, e2⟩ := h d List.mem_cons_self v
    obtain ⟨es, v2, q1, q2, q3⟩ := lcL_st env (ds := ds) (fun x hx => h x (List.mem_cons_of_mem _ hx)) v1
    refine ⟨e :: es, v2, by simp [q1], fun x hx => ?_, ?_⟩
    · rcases List.mem_cons.mp hx with rfl | hx
      · exact p
      · exact q2 x hx
    · unfold lcL
      rw [if_pos (guard_none _), e1]
      show (lcL none own tn ds (wip ρ' own)).bind _ = _
      rw [e2, q3]
      rfl
/-! ### words -/
def WordOk (w : List Nat) : Prop := 1 ≤ w.length ∧ w.length ≤ 8 ∧ ∀ c ∈ w, 97 ≤ c ∧ c ≤ 122
theorem eqv_str (a b : List Nat) : eqv (.str a) (.str b) = decide (a = b) := by
  show (a == b) = _
  rw [Bool.eq_iff_iff]; simp
theorem nice_str (a : List Nat) : nice 0 (.str a) := ⟨rfl, Nat.le_refl _, rfl⟩
theorem nice_int (a : Int) : nice 0 (.int a) := ⟨rfl, Nat.le_refl _, rfl⟩
theorem str_inj (a b : List Nat) (h : D.str a = .str b) : a = b := D.str.inj h
theorem inD_map {α : Type} [DecidableEq α] {f : α → D} (e1 : ∀ a b, eqv (f a) (f b) = decide (a = b)) (x : α) : ∀ l : List α, inD (f x) (l.map f) = decide (x ∈ l)
  | [] => rfl
  | y :: l => by
    rw [List.map_cons, show inD (f x) (f y :: l.map f) = (eqv (f y) (f x) || inD (f x) (l.map f)) from rfl, e1, inD_map e1 x l, Bool.eq_iff_iff]
    simp only [Bool.or_eq_true, decide_eq_true_eq, List.mem_cons]
    exact ⟨fun h => h.imp Eq.symm id, fun h => h.imp Eq.symm id⟩
theorem cmpable_in {α : Type} {f : α → D} {n : Nat} (hn : n ≤ 50) (n1 : ∀ a, nice n (f a)) (x : α) (l : List α) : cmpable (f x) (.lst (l.map f)) = true ∧ cmpable (f x) (.tup (l.map f)) = true := by
  have p : plL (l.map f) = true := plL_iff.mpr fun d hd => by obtain ⟨a, _, rfl⟩ := List.mem_map.mp hd; exact (n1 a).1
  have q : depL (l.map f) ≤ n := depL_iff.mpr fun d hd => by obtain ⟨a, _, rfl⟩ := List.mem_map.mp hd; exact (n1 a).2.1
  have d1 : dep (f x) ≤ 60 := Nat.le_trans (n1 x).2.1 (by omega)
  have d2 : dep (.lst (l.map f)) ≤ 60 := Nat.le_trans (Nat.succ_le_succ q) (by omega)
  have d3 : dep (.tup (l.map f)) ≤ 60 := d2
  have p2 : pl (.lst (l.map f)) = true := p
  have p3 : pl (.tup (l.map f)) = true := p
  constructor
  · simp only [cmpable, (n1 x).1, p2, decide_eq_true d1, decide_eq_true d2, Bool.and_self]
  · simp only [cmpable, (n1 x).1, p3, decide_eq_true d1, decide_eq_true d3, Bool.and_self]
theorem in_strs (x : List Nat) (l : List (List Nat)) : cmpD .In (.str x) (.lst (l.map .str)) = some (decide (x ∈ l)) := by
  have c := (cmpable_in (f := D.str) (n := 0) (by decide) nice_str x l).1
  have e : inC (.str x) (.lst (l.map .str)) = if cmpable (.str x) (.lst (l.map .str)) then some (inD (.str x) (l.map .str)) else none := by
    cases x with
    | nil => rfl
    | cons a x => cases x <;> rfl
  show inC (.str x) (.lst (l.map .str)) = _
  rw [e, if_pos c, inD_map eqv_str]
  exact congrArg some (by rw [Bool.eq_iff_iff]; simp only [decide_eq_true_eq])
theorem notin_strs (x : List Nat) (l : List (List Nat)) : cmpD .NotIn (.str x) (.lst (l.map .str)) = some (!decide (x ∈ l)) := by
  have := in_strs x l
  show Option.map _ (cmpD .In _ _) = _
  rw [this]; rfl
theorem in_strsT (x : List Nat) (l : List (List Nat)) : cmpD .In (.str x) (.tup (l.map .str)) = some (decide (x ∈ l)) := by
  have c := (cmpable_in (f := D.str) (n := 0) (by decide) nice_str x l).2
  have e : inC (.str x) (.tup (l.map .str)) = if cmpable (.str x) (.tup (l.map .str)) then some (inD (.str x) (l.map .str)) else none := by
    cases x with
    | nil => rfl
    | cons a x => cases x <;> rfl
  show inC (.str x) (.tup (l.map .str)) = _
  rw [e, if_pos c, inD_map eqv_str]
  exact congrArg some (by rw [Bool.eq_iff_iff]; simp only [decide_eq_true_eq])
theorem ok_strs {l : List (List Nat)} (hl : l.length + 1 < 1000) : setOk (l.map .str) = true := by
  have a2 : (l.map D.str).all (fun x => tyK x == 2) = true := List.all_eq_true.mpr fun d hd => by obtain ⟨a, _, rfl⟩ := List.mem_map.mp hd; rfl
  refine setOk_of (n := 0) (by decide) nice_str eqv_str (fun _ _ => rfl) ?_ (by simp [srtK, a2]) ?_
  · by_cases e : l = []
    · subst e; decide
    · exact cap_many (by simp; omega) (by simpa using e) (List.all_eq_true.mpr fun d hd => by obtain ⟨a, _, rfl⟩ := List.mem_map.mp hd; rfl)
  have : (l.map D.str).all (fun x => tyK x == 1 || tyK x == 2) = true := List.all_eq_true.mpr fun d hd => by obtain ⟨a, _, rfl⟩ := List.mem_map.mp hd; rfl
  rw [this, Bool.or_true]
theorem ok_ints {l : List Int} (hl : l.length + 1 < 1000) : setOk (l.map .int) = true := by
  have a2 : (l.map D.int).all (fun x => tyK x == 1) = true := List.all_eq_true.mpr fun d hd => by obtain ⟨a, _, rfl⟩ := List.mem_map.mp hd; rfl
  have ei : ∀ a b : Int, eqv (.int a) (.int b) = decide (a = b) := fun a b => by
    show (a == b) = _
    rw [Bool.eq_iff_iff]; simp
  refine setOk_of (n := 0) (by decide) nice_int ei (fun _ _ => rfl) ?_ (by simp [srtK, a2]) ?_
  · by_cases e : l = []
    · subst e; decide
    · exact cap_many (by simp; omega) (by simpa using e) (List.all_eq_true.mpr fun d hd => by obtain ⟨a, _, rfl⟩ := List.mem_map.mp hd; rfl)
  have : (l.map D.int).all (fun x => tyK x == 1 || tyK x == 2) = true := List.all_eq_true.mpr fun d hd => by obtain ⟨a, _, rfl⟩ := List.mem_map.mp hd; rfl
  rw [this, Bool.or_true]
theorem srtd_strs {l : List (List Nat)} (s : SrtO.Srtd ltQ (l.map D.str)) (nd : l.Nodup) : l.Pairwise (· < ·) := by
  have s' := List.pairwise_map.mp s
  refine (s'.and nd).imp fun {a b} ⟨h, ne⟩ => ?_
  have e := ltB_key (.str b) (.str a) rfl rfl rfl
  rw [h] at e
  have h2 : ¬ b < a := by simpa [ltB] using e
  exact Classical.byContradiction fun c => ne (List.le_antisymm (List.not_lt.mp h2) (List.not_lt.mp c))
theorem srtd_ints {l : List Int} (s : SrtO.Srtd ltQ (l.map D.int)) (nd : l.Nodup) : l.Pairwise (· < ·) := by
  have s' := List.pairwise_map.mp s
  refine (s'.and nd).imp fun {a b} ⟨h, ne⟩ => ?_
  have e := ltB_key (.int b) (.int a) rfl rfl rfl
  rw [h] at e
  have h2 : ¬ b < a := by simpa [ltB] using e
  omega
theorem sorset_strs {l : List (List Nat)} (hl : l.length + 1 < 1000) : ∃ m : List (List Nat), biD .sorset [.lst (l.map .str)] = some (.lst (m.map .str), true) ∧ (∀ a, a ∈ m ↔ a ∈ l) ∧ m.Pairwise (· < ·) := by
  obtain ⟨m, h1, h2, h3, h4⟩ := sorset_ex str_inj eqv_str (ok_strs hl)
  exact ⟨m, by rw [bi_sorset_l (ok_strs hl), h1], h2, srtd_strs h4 h3⟩
theorem sorset_ints {l : List Int} (hl : l.length + 1 < 1000) : ∃ m : List Int, biD .sorset [.lst (l.map .int)] = some (.lst (m.map .int), true) ∧ (∀ a, a ∈ m ↔ a ∈ l) ∧ m.Pairwise (· < ·) := by
  have ei : ∀ a b : Int, eqv (.int a) (.int b) = decide (a = b) := fun a b => by
    show (a == b) = _
    rw [Bool.eq_iff_iff]; simp
  obtain ⟨m, h1, h2, h3, h4⟩ := sorset_ex (fun _ _ => D.int.inj) ei (ok_ints hl)
  exact ⟨m, by rw [bi_sorset_l (ok_ints hl), h1], h2, srtd_ints h4 h3⟩
theorem sorted_strs {l : List (List Nat)} (hl : l.length + 1 < 1000) (nd : l.Nodup) : ∃ m : List (List Nat), biD .sorted [.lst (l.map .str)] = some (.lst (m.map .str), true) ∧ m.Perm l ∧ m.Pairwise (· < ·) := by
  have ok := ok_strs hl
  simp only [setOk, Bool.and_eq_true] at ok
  have o1 := ok.1.1.1.1.1.1
  have o2 := ok.1.1.1.1.1.2
  obtain ⟨s1, s2⟩ := sortR_srtd o1
  obtain ⟨m, hm⟩ := map_of (f := D.str) (es := sortR (l.map .str)) fun e he => by
    obtain ⟨a, _, rfl⟩ := List.mem_map.mp (s2.mem_iff.mp he)
    exact ⟨a, rfl⟩
  rw [hm] at s1 s2
  have pm : m.Perm l := by
    have nl : (l.map D.str).Nodup := List.pairwise_map.mpr (nd.imp fun {a b} h e => h (str_inj a b e))
    have nm : m.Nodup := L2.nodup_of_map (s2.nodup_iff.mpr nl)
    refine (List.perm_ext_iff_of_nodup nm nd).mpr fun a => ?_
    have := s2.mem_iff (a := .str a)
    simpa using this
  refine ⟨m, ?_, pm, srtd_strs s1 (pm.nodup_iff.mpr nd)⟩
  simp only [biD, sortedD, o1, o2, Bool.and_self, if_true, hm]
/-! ### programs -/
structure Rdp where
  o : List Nat
  m : Option Int
  b : Bool
def mD : Option Int → D
  | none => .non
  | some k => .int k
def rdD (r : Rdp) : D := .tup [.str r.o, mD r.m, .bl r.b]
structure RdOk (r : Rdp) : Prop where
  o : r.o = rowS ∨ r.o = heapS
  m : ∀ k, r.m = some k → 1 ≤ k ∧ k ≤ 3
  w : r.m = none → r.o = rowS ∧ r.b = true
abbrev Arm := List Nat × Option Nat × Nat
def oD : Option Nat → D
  | none => .non
  | some k => .int k
def armD (a : Arm) : D := .tup [.str a.1, oD a.2.1, .int a.2.2]
inductive St where
  | set (r n : Nat) | add (r n : Nat) | iff (r n t : Nat) | pick (ts : List Nat) | send (rd : Nat) (k : List Nat) (n : Nat) | tell (rd : Nat) (k : List Nat) (r : Nat)
  | wait (rd : Nat) (as : List Arm) | begin (nm : List Nat) | stop
abbrev setS : List Nat := [115, 101, 116]
abbrev addS : List Nat := [97, 100, 100]
abbrev ifS : List Nat := [105, 102]
abbrev pickS : List Nat := [112, 105, 99, 107]
abbrev sendS : List Nat := [115, 101, 110, 100]
abbrev tellS : List Nat := [116, 101, 108, 108]
abbrev waitS : List Nat := [119, 97, 105, 116]
abbrev beginS : List Nat := [98, 101, 103, 105, 110]
abbrev stopS : List Nat := [115, 116, 111, 112]
def stD : St → D
  | .set r n => .tup [.str setS, .int r, .int n]
  | .add r n => .tup [.str addS, .int r, .int n]
  | .iff r n t => .tup [.str ifS, .int r, .int n, .int t]
  | .pick ts => .tup (.str pickS :: ts.map fun t => .int (t : Nat))
  | .send rd k n => .tup [.str sendS, .int rd, .str k, .int n]
  | .tell rd k r => .tup [.str tellS, .int rd, .str k, .int r]
  | .wait rd as => .tup (.str waitS :: .int rd :: as.map armD)
  | .begin nm => .tup [.str beginS, .str nm]
  | .stop => .tup [.str stopS]
structure ArmOk (kinds : List (List Nat)) (many last : Nat) (a : Arm) : Prop where
  k : a.1 ∈ kinds
  r : ∀ r, a.2.1 = some r → r < many
  t : a.2.2 ≤ last
def StOk (R : Nat) (names kinds : List (List Nat)) (many last : Nat) : St → Prop
  | .set r n => r < many ∧ n < 3
  | .add r n => r < many ∧ n < 3
  | .iff r n t => r < many ∧ n < 3 ∧ t ≤ last
  | .pick ts => ts ≠ [] ∧ ts.length ≤ 3 ∧ ts.Pairwise (· < ·) ∧ ∀ t ∈ ts, t ≤ last
  | .send rd k n => rd < R ∧ k ∈ kinds ∧ n < 3
  | .tell rd k r => rd < R ∧ k ∈ kinds ∧ r < many
  | .wait rd as => rd < R ∧ as ≠ [] ∧ as.length ≤ 3 ∧ (as.map (·.1)).Pairwise (· < ·) ∧ ∀ a ∈ as, ArmOk kinds many last a
  | .begin nm => nm ∈ names
  | .stop => True
structure Role where
  nm : List Nat
  many : Nat
  steps : List St
def roleD (r : Role) : D := .tup [.str r.nm, .int r.many, .tup (r.steps.map stD)]
structure Prog where
  roads : List Rdp
  roles : List Role
  hands : List (List Nat)
def progD (p : Prog) : D := .tup [.tup (p.roads.map rdD), .tup (p.roles.map roleD), .tup (p.hands.map .str)]
def Prog.names (p : Prog) : List (List Nat) := p.roles.map (·.nm)
structure ProgOk (kinds : List (List Nat)) (p : Prog) : Prop where
  rd : ∀ r ∈ p.roads, RdOk r
  rl : p.roads.length ≤ 4
  nl : 1 ≤ p.roles.length ∧ p.roles.length ≤ 4
  nd : p.names.Nodup
  nw : ∀ w ∈ p.names, WordOk w
  kw : ∀ w ∈ kinds, WordOk w
  kl : kinds.length ≤ 3
  many : ∀ r ∈ p.roles, r.many ≤ 2
  sl : ∀ r ∈ p.roles, 1 ≤ r.steps.length ∧ r.steps.length ≤ 12
  st : ∀ r ∈ p.roles, ∀ s ∈ r.steps, StOk p.roads.length p.names kinds r.many r.steps.length s
  hl : 1 ≤ p.hands.length ∧ p.hands.length ≤ 4
  hn : ∀ h ∈ p.hands, h ∈ p.names
end G
namespace G
theorem sign_atP (v : Int) : ∃ c, signs[(v % 26).toNat]? = some c ∧ 97 ≤ c ∧ c ≤ 122 := by
  have h : (v % 26).toNat < signs.length := by
    show (v % 26).toNat < 26
    omega
  refine ⟨_, List.getElem?_eq_getElem h, ?_⟩
  have : ∀ c ∈ signs, 97 ≤ c ∧ c ≤ 122 := by decide
  exact this _ (List.getElem_mem h)
theorem mem_set {α : Type} {x y : α} : ∀ {l : List α} {k : Nat}, x ∈ l.set k y → x = y ∨ x ∈ l
  | [], _, h => by simp at h
  | a :: l, 0, h => by
    rcases List.mem_cons.mp h with h | h
    · exact .inl h
    · exact .inr (List.mem_cons_of_mem _ h)
  | a :: l, k + 1, h => by
    rcases List.mem_cons.mp h with h | h
    · exact .inr (h ▸ List.mem_cons_self)
    · exact (mem_set h).imp id (List.mem_cons_of_mem _)
theorem nodup_set {α : Type} {y : α} : ∀ {l : List α} {k : Nat}, l.Nodup → y ∉ l → (l.set k y).Nodup
  | [], _, _, _ => by simp
  | a :: l, 0, h, n => by
    obtain ⟨h1, h2⟩ := List.nodup_cons.mp h
    exact List.nodup_cons.mpr ⟨fun c => n (List.mem_cons_of_mem _ c), h2⟩
  | a :: l, k + 1, h, n => by
    obtain ⟨h1, h2⟩ := List.nodup_cons.mp h
    refine List.nodup_cons.mpr ⟨fun c => ?_, nodup_set h2 fun c => n (List.mem_cons_of_mem _ c)⟩
    rcases mem_set c with e | c
    · exact n (e ▸ List.mem_cons_self)
    · exact h1 c
end G
namespace G
def kFz (i : Nat) (v : Option (Option SV)) (ρ : En) : En := match v with
    | some (some (.own d)) => ρ.set i (some (.val d))
    | _ => ρ
@[simp] theorem kFz_v (i : Nat) (d : D) (ρ : En) : kFz i (some (some (.val d))) ρ = ρ := rfl
@[simp] theorem kFz_o (i : Nat) (d : D) (ρ : En) : kFz i (some (some (.own d))) ρ = ρ.set i (some (.val d)) := rfl
@[simp] theorem frz1_s (i : Nat) (ρ : En) : frz1 (.s i) ρ = kFz i ρ[i]? ρ := rfl
theorem add_str {a b : List Nat} (h : a.length + b.length ≤ 1000) : binD .Add (.str a) (.str b) = some (.str (a ++ b), false) := by
  have : line = 16777216 := rfl
  have h2 : a.length + b.length ≤ line := by omega
  simp only [binD, addD, if_pos h2]
theorem add_tupD {a b : List D} (h : a.length + b.length ≤ 1000) : binD .Add (.tup a) (.tup b) = some (.tup (a ++ b), false) := by
  have : line = 16777216 := rfl
  have h2 : a.length + b.length ≤ line := by omega
  simp only [binD, addD, if_pos h2]
end G
namespace G
theorem nice_map_l {α : Type} {n : Nat} {f : α → D} (h : ∀ a, nice n (f a)) (l : List α) : pl (.lst (l.map f)) = true ∧ dep (.lst (l.map f)) ≤ n + 1 :=
  ⟨plL_iff.mpr fun d hd => by obtain ⟨a, _, rfl⟩ := List.mem_map.mp hd; exact (h a).1, Nat.succ_le_succ (depL_iff.mpr fun d hd => by obtain ⟨a, _, rfl⟩ := List.mem_map.mp hd; exact (h a).2.1)⟩
theorem nice_oD (o : Option Nat) : nice 0 (oD o) := by cases o <;> exact ⟨rfl, Nat.le_refl _, rfl⟩
theorem nice_mD (o : Option Int) : nice 0 (mD o) := by cases o <;> exact ⟨rfl, Nat.le_refl _, rfl⟩
theorem nice_armD (a : Arm) : nice 1 (armD a) := nice_tup fun d hd => by
  rcases List.mem_cons.mp hd with rfl | hd
  · exact nice_str _
  · rcases List.mem_cons.mp hd with rfl | hd
    · exact nice_oD _
    · rw [List.mem_singleton.mp hd]; exact nice_int _
theorem cmpable_of {x y : D} (h : pl x = true) (h' : pl y = true) (d : dep x ≤ 60) (d' : dep y ≤ 60) : cmpable x y = true := by
  simp only [cmpable, h, h', decide_eq_true d, decide_eq_true d', Bool.and_self]
theorem cmpable_arms (as : List Arm) : cmpable (.lst (as.map armD)) (.lst []) = true := by
  obtain ⟨h1, h2⟩ := nice_map_l nice_armD as
  exact cmpable_of h1 rfl (by omega) (by decide)
end G
namespace G
def intN (t : Nat) : D := .int t
theorem eqv_intN (a b : Nat) : eqv (intN a) (intN b) = decide (a = b) := by
  show ((a : Int) == b) = _
  rw [Bool.eq_iff_iff]; simp only [beq_iff_eq, decide_eq_true_eq]; omega
theorem intN_inj (a b : Nat) (h : intN a = intN b) : a = b := Int.ofNat.inj (D.int.inj h)
theorem nodup_len {α : Type} [DecidableEq α] : ∀ {m l : List α}, m.Nodup → (∀ a ∈ m, a ∈ l) → m.length ≤ l.length
  | [], _, _, _ => Nat.zero_le _
  | x :: m, l, h, s => by
    obtain ⟨h1, h2⟩ := List.nodup_cons.mp h
    have := nodup_len (m := m) (l := l.erase x) h2 fun a ha => (List.mem_erase_of_ne (fun e : a = x => h1 (by rw [← e]; exact ha))).mpr (s a (List.mem_cons_of_mem _ ha))
    rw [List.length_erase_of_mem (s x List.mem_cons_self)] at this
    have : 0 < l.length := List.length_pos_of_mem (s x List.mem_cons_self)
    simp
    omega
theorem ok_nats {l : List Nat} (hl : l.length + 1 < 1000) : setOk (l.map intN) = true := by
  have a2 : (l.map intN).all (fun x => tyK x == 1) = true := List.all_eq_true.mpr fun d hd => by obtain ⟨a, _, rfl⟩ := List.mem_map.mp hd; rfl
  refine setOk_of (f := intN) (n := 0) (by decide) (fun a => nice_int _) eqv_intN (fun _ _ => rfl) ?_ (by simp only [srtK, a2, Bool.or_true, Bool.true_or]) ?_
  · by_cases e : l = []
    · subst e; decide
    · exact cap_many (by simp; omega) (by simpa using e) (List.all_eq_true.mpr fun d hd => by obtain ⟨a, _, rfl⟩ := List.mem_map.mp hd; rfl)
  have : (l.map intN).all (fun x => tyK x == 1 || tyK x == 2) = true := List.all_eq_true.mpr fun d hd => by obtain ⟨a, _, rfl⟩ := List.mem_map.mp hd; rfl
  rw [this, Bool.or_true]
theorem srtd_nats {l : List Nat} (s : SrtO.Srtd ltQ (l.map intN)) (nd : l.Nodup) : l.Pairwise (· < ·) := by
  have s' := List.pairwise_map.mp s
  refine (s'.and nd).imp fun {a b} ⟨h, ne⟩ => ?_
  have e := ltB_key (intN b) (intN a) rfl rfl rfl
  rw [h] at e
  have h2 : ¬ (b : Int) < a := by simpa [ltB, intN] using e
  omega
theorem sorset_nats {l : List Nat} (hl : l.length + 1 < 1000) : ∃ m : List Nat, biD .sorset [.lst (l.map intN)] = some (.lst (m.map intN), true) ∧ (∀ a, a ∈ m ↔ a ∈ l) ∧ m.Pairwise (· < ·) ∧ m.length ≤ l.length := by
  obtain ⟨m, h1, h2, h3, h4⟩ := sorset_ex intN_inj eqv_intN (ok_nats hl)
  exact ⟨m, by rw [bi_sorset_l (ok_nats hl), h1], h2, srtd_nats h4 h3, nodup_len h3 fun a ha => (h2 a).mp ha⟩
theorem ne_nil_l (xs : List D) (h : pl (.lst xs) = true) (d : dep (.lst xs) ≤ 60) : cmpD .NotEq (.lst xs) (.lst []) = some (!xs.isEmpty) := by
  have c : cmpable (.lst xs) (.lst []) = true := cmpable_of h rfl d (by decide)
  show Option.map _ (if cmpable _ _ then some (eqvL _ _) else none) = _
  rw [if_pos c]
  cases xs <;> rfl
theorem eq_nil_l (xs : List D) (h : pl (.lst xs) = true) (d : dep (.lst xs) ≤ 60) : cmpD .Eq (.lst xs) (.lst []) = some xs.isEmpty := by
  have c : cmpable (.lst xs) (.lst []) = true := cmpable_of h rfl d (by decide)
  show (if cmpable _ _ then some (eqvL _ _) else none) = _
  rw [if_pos c]
  cases xs <;> rfl
theorem nice_rdD (r : Rdp) : nice 1 (rdD r) := nice_tup fun d hd => by
  rcases List.mem_cons.mp hd with rfl | hd
  · exact nice_str _
  · rcases List.mem_cons.mp hd with rfl | hd
    · exact nice_mD _
    · rw [List.mem_singleton.mp hd]; exact ⟨rfl, Nat.zero_le _, rfl⟩
end G
namespace G
instance (w : List Nat) : Decidable (WordOk w) := by unfold WordOk; infer_instance
end G

/-! plain law: worlds as data -/
namespace G
theorem ix0 (x : D) (xs : List D) : ixD (.tup (x :: xs)) (.int 0) = some x := by simp [ixD, ixn]
theorem ix1 (x y : D) (xs : List D) : ixD (.tup (x :: y :: xs)) (.int 1) = some y := ix_tup (by decide) (by simp)
theorem ix2 (x y z : D) (xs : List D) : ixD (.tup (x :: y :: z :: xs)) (.int 2) = some z := ix_tup (by decide) (by simp)
theorem ix3 (x y z u : D) (xs : List D) : ixD (.tup (x :: y :: z :: u :: xs)) (.int 3) = some u := ix_tup (by decide) (by simp)
theorem ix0l (x : D) (xs : List D) : ixD (.lst (x :: xs)) (.int 0) = some x := by simp [ixD, ixn]
theorem cut2 (x y : D) (l : List D) : cut (x :: y :: l) (some 2) none = l := by
  have b : bnd (x :: y :: l).length 0 (some 2) = 2 := by
    simp only [bnd, List.length_cons]
    rw [if_neg (by omega)]
    omega
  unfold cut
  rw [b, show bnd (x :: y :: l).length (x :: y :: l).length none = (x :: y :: l).length from rfl]
  simp
theorem ext_ok {xs ys : List D} (h : xs.length + ys.length ≤ 1000000) : muD 1 (.lst xs) [.lst ys] = some (.non, .lst (xs ++ ys)) := by
  have : xs.length + ys.length ≤ line := by unfold line; omega
  simp [muD, extD, this]
/-- a comprehension whose turns move a state along, item by item -/
theorem lcL_st2 {σ α β : Type} {Q : α → β → Prop} {f : α → D} {g : β → D} {own : List Nat} {tn : D → En → R (Option D × En)} (env : σ → En) : ∀ {l : List α}, (∀ a ∈ l, ∀ v, ∃ b ρ' v', Q a b ∧ tn (f a) (env v) = .ok (some (g b), ρ') ∧ wip ρ' own = env v') →
    ∀ v, ∃ (bs : List β) (v' : σ), bs.length = l.length ∧ (∀ (i : Nat) a b, l[i]? = some a → bs[i]? = some b → Q a b) ∧ lcL none own tn (l.map f) (env v) = .ok (bs.map g, env v')
  | [], _, v => ⟨[], v, rfl, fun i a b h => by simp at h, rfl⟩
  | a :: l, h, v => by
    obtain ⟨b, ρ', v1, p, e1, e2⟩ := h a List.mem_cons_self v
    obtain ⟨bs, v2, q1, q2, q3⟩ := lcL_st2 env (l := l) (fun x hx => h x (List.mem_cons_of_mem _ hx)) v1
    refine ⟨b :: bs, v2, by simp [q1], fun i x y h1 h2 => ?_, ?_⟩
    · cases i with
      | zero => simp at h1 h2; subst h1; subst h2; exact p
      | succ i => simp at h1 h2; exact q2 i x y h1 h2
    · rw [List.map_cons]
      unfold lcL
      rw [if_pos (guard_none _), e1]
      show (lcL none own tn (l.map f) (wip ρ' own)).bind _ = _
      rw [e2, q3]
      rfl
abbrev goS : List Nat := [103, 111]
def St.kinds : St → List (List Nat)
  | .send _ k _ => [k]
  | .tell _ k _ => [k]
  | .wait _ as => as.map (·.1)
  | _ => []
def Prog.kinds (p : Prog) : List (List Nat) := goS :: p.roles.flatMap fun r => r.steps.flatMap St.kinds
/-- a hand: its role, its step, its registers -/
structure Hand where
  nm : List Nat
  at_ : Nat
  regs : List Nat
def handD (h : Hand) : D := .tup [.str h.nm, .int h.at_, .tup (h.regs.map intN)]
structure Wld where
  hands : List Hand
  lets : List (List Pt)
def wldD (w : Wld) : D := .tup [.tup (w.hands.map handD), .tup (w.lets.map rowD)]
def HandOk (p : Prog) (h : Hand) : Prop := ∃ r ∈ p.roles, h.nm = r.nm ∧ h.at_ ≤ r.steps.length ∧ h.regs.length = r.many ∧ ∀ x ∈ h.regs, x < 3
structure LoadOk (ks : List (List Nat)) (r : Rdp) (l : List Pt) : Prop where
  len : l.length ≤ 450
  most : ∀ k, r.m = some k → (l.length : Int) ≤ k
  mem : ∀ x ∈ l, x.1 ∈ ks ∧ 0 ≤ x.2 ∧ x.2 < 3
  up : r.o = heapS → Up l
structure WldOk (p : Prog) (w : Wld) : Prop where
  hl : 1 ≤ w.hands.length ∧ w.hands.length ≤ 6
  ho : ∀ h ∈ w.hands, HandOk p h
  ll : w.lets.length = p.roads.length
  lo : ∀ (i : Nat) r l, p.roads[i]? = some r → w.lets[i]? = some l → LoadOk p.kinds r l
theorem StOk.klen {R : Nat} {names kinds : List (List Nat)} {many last : Nat} {s : St} (h : StOk R names kinds many last s) : s.kinds.length ≤ 3 := by
  cases s <;> simp [St.kinds]
  exact h.2.2.1
theorem inST (w : List Nat) {b : Bool} (h : decide (w ∈ [sendS, tellS]) = b) : cmpD .In (.str w) (.tup [.str [115, 101, 110, 100], .str [116, 101, 108, 108]]) = some b := by
  rw [← h]; exact in_strsT w [sendS, tellS]
theorem kinds_ok {kinds : List (List Nat)} {p : Prog} (ok : ProgOk kinds p) : ∀ k ∈ p.kinds, WordOk k := by
  intro k hk
  rcases List.mem_cons.mp hk with rfl | hk
  · decide
  · obtain ⟨r, hr, hk⟩ := List.mem_flatMap.mp hk
    obtain ⟨s, hs, hk⟩ := List.mem_flatMap.mp hk
    have so := ok.st r hr s hs
    cases s <;> simp only [St.kinds, List.mem_singleton, List.not_mem_nil] at hk
    · rw [hk]; exact ok.kw _ so.2.1
    · rw [hk]; exact ok.kw _ so.2.1
    · obtain ⟨a, ha, rfl⟩ := List.mem_map.mp hk
      exact ok.kw _ (so.2.2.2.2 a ha).k
theorem steps_klen : ∀ ss : List St, (∀ s ∈ ss, s.kinds.length ≤ 3) → (ss.flatMap St.kinds).length ≤ 3 * ss.length
  | [], _ => by simp
  | s :: ss, h => by
    have := steps_klen ss fun x hx => h x (List.mem_cons_of_mem _ hx)
    have := h s List.mem_cons_self
    simp only [List.flatMap_cons, List.length_append, List.length_cons]
    omega
theorem roles_klen : ∀ rs : List Role, (∀ r ∈ rs, r.steps.length ≤ 12 ∧ ∀ s ∈ r.steps, s.kinds.length ≤ 3) → (rs.flatMap fun r => r.steps.flatMap St.kinds).length ≤ 36 * rs.length
  | [], _ => by simp
  | r :: rs, h => by
    have := roles_klen rs fun x hx => h x (List.mem_cons_of_mem _ hx)
    obtain ⟨h2, h3⟩ := h r List.mem_cons_self
    have := steps_klen r.steps h3
    simp only [List.flatMap_cons, List.length_append, List.length_cons]
    omega
theorem kinds_len {kinds : List (List Nat)} {p : Prog} (ok : ProgOk kinds p) : p.kinds.length ≤ 145 := by
  have := roles_klen p.roles fun r hr => ⟨(ok.sl r hr).2, fun s hs => (ok.st r hr s hs).klen⟩
  have := ok.nl
  simp only [Prog.kinds, List.length_cons]
  omega
/-! ### the role of a name, the step of a hand -/
def roleOf (p : Prog) (nm : List Nat) : Option Role := p.roles.find? fun r => decide (r.nm = nm)
theorem filt_role {p : Prog} (nd : p.names.Nodup) {r : Role} (hr : r ∈ p.roles) : p.roles.filter (fun x => decide (x.nm = r.nm)) = [r] := by
  have : ∀ l : List Role, (l.map (·.nm)).Nodup → r ∈ l → l.filter (fun x => decide (x.nm = r.nm)) = [r] := fun l => by
    induction l with
    | nil => intro _ h; cases h
    | cons x l ih =>
      intro h h2
      obtain ⟨n1, n2⟩ := List.nodup_cons.mp h
      rcases List.mem_cons.mp h2 with rfl | h2
      · rw [List.filter_cons_of_pos (by simp)]
        have : l.filter (fun x => decide (x.nm = r.nm)) = [] := List.filter_eq_nil_iff.mpr fun y hy c => n1 (List.mem_map.mpr ⟨y, hy, by simpa using c⟩)
        rw [this]
      · rw [List.filter_cons_of_neg, ih n2 h2]
        intro c
        have c : x.nm = r.nm := by simpa using c
        exact n1 (List.mem_map.mpr ⟨r, h2, c.symm⟩)
  exact this _ nd hr
theorem roleOf_of {p : Prog} (nd : p.names.Nodup) {r : Role} (hr : r ∈ p.roles) : roleOf p r.nm = some r := by
  unfold roleOf
  rw [← List.head?_filter, filt_role nd hr]; rfl
theorem roleOf_ex {p : Prog} (nd : p.names.Nodup) {nm : List Nat} (h : nm ∈ p.names) : ∃ r, r ∈ p.roles ∧ nm = r.nm ∧ roleOf p nm = some r := by
  obtain ⟨r, hr, rfl⟩ := List.mem_map.mp h
  exact ⟨r, hr, rfl, roleOf_of nd hr⟩
def osD : Option St → D
  | none => .non
  | some s => stD s
def isStop : Option St → Bool
  | none => true
  | some .stop => true
  | _ => false
def wordOf : St → List Nat
  | .set .. => setS
  | .add .. => addS
  | .iff .. => ifS
  | .pick .. => pickS
  | .send .. => sendS
  | .tell .. => tellS
  | .wait .. => waitS
  | .begin .. => beginS
  | .stop => stopS
theorem st_word (s : St) : ∃ xs, stD s = .tup (.str (wordOf s) :: xs) := by cases s <;> exact ⟨_, rfl⟩
theorem st_ix0 (s : St) : ixD (stD s) (.int 0) = some (.str (wordOf s)) := by
  obtain ⟨xs, e⟩ := st_word s
  rw [e, ix0]
theorem stop_word (s : St) : decide (wordOf s = stopS) = isStop (some s) := by cases s <;> rfl
/-- a hand of a role as it begins -/
def fresh (p : Prog) (nm : List Nat) : Hand := ⟨nm, 0, List.replicate ((roleOf p nm).elim 0 (·.many)) 0⟩
def startW (p : Prog) : Wld := ⟨p.hands.map (fresh p), p.roads.map fun _ => []⟩
theorem mul_nought {m : Nat} (h : m ≤ 2) : binD .Mult (.tup [.int 0]) (.int (m : Nat)) = some (.tup ((List.replicate m 0).map intN), false) := by
  match m, h with
  | 0, _ => rfl
  | 1, _ => rfl
  | 2, _ => rfl
theorem fresh_ok {kinds : List (List Nat)} {p : Prog} (ok : ProgOk kinds p) {nm : List Nat} (h : nm ∈ p.names) : HandOk p (fresh p nm) := by
  obtain ⟨r, h1, rfl, h3⟩ := roleOf_ex ok.nd h
  refine ⟨r, h1, rfl, Nat.zero_le _, ?_, fun x hx => ?_⟩
  · simp [fresh, h3]
  · have : x = 0 := by simp [fresh] at hx; exact hx.2
    omega
theorem start_ok {kinds : List (List Nat)} {p : Prog} (ok : ProgOk kinds p) : WldOk p (startW p) := by
  refine ⟨by have := ok.hl; simp [startW]; omega, fun h hh => ?_, by simp [startW], fun i r l h1 h2 => ?_⟩
  · obtain ⟨nm, h1, rfl⟩ := List.mem_map.mp hh
    exact fresh_ok ok (ok.hn nm h1)
  · have : l = [] := by
      simp only [startW, List.getElem?_map, h1, Option.map_some, Option.some.injEq] at h2
      exact h2.symm
    subst this
    exact ⟨Nat.zero_le _, fun k h => by
      have := (ok.rd r (List.mem_of_getElem? h1)).m k h
      simp; omega, fun x hx => (nomatch hx), fun _ => List.Pairwise.nil⟩
/-! ### plain values -/
theorem pln_nats (l : List Nat) (h : l.length ≤ 1000000) (n : Nat) : Pln (.tup (l.map intN)) (n + 1) := .tup _ _ (fun x hx => by
  obtain ⟨a, _, rfl⟩ := List.mem_map.mp hx
  exact .int _ _) (by simpa using h)
theorem Pln.mono {d : D} {n : Nat} (h : Pln d n) : ∀ m, n ≤ m → Pln d m := by
  induction h with
  | non n => intro m _; exact .non _
  | bl b n => intro m _; exact .bl _ _
  | int i n => intro m _; exact .int _ _
  | str i n => intro m _; exact .str _ _
  | tup xs n h1 h2 ih =>
    intro m hm
    obtain ⟨k, rfl⟩ : ∃ k, m = k + 1 := ⟨m - 1, by omega⟩
    exact .tup _ _ (fun x hx => ih x hx k (by omega)) h2
theorem pln_tup {xs : List D} {n : Nat} (h : ∀ x ∈ xs, Pln x n) (hl : xs.length ≤ 1000000) : Pln (.tup xs) (n + 1) := .tup _ _ h hl
theorem pln_handD {p : Prog} {kinds : List (List Nat)} (ok : ProgOk kinds p) {h : Hand} (hh : HandOk p h) : Pln (handD h) 2 := by
  obtain ⟨r, h1, h2, h3, h4, h5⟩ := hh
  refine pln_tup (fun x hx => ?_) (by simp)
  rcases List.mem_cons.mp hx with rfl | hx
  · exact .str _ _
  · rcases List.mem_cons.mp hx with rfl | hx
    · exact .int _ _
    · rw [List.mem_singleton.mp hx]
      exact pln_nats _ (by rw [h4]; have := ok.many r h1; omega) _
theorem pln_wldD {p : Prog} {kinds : List (List Nat)} (ok : ProgOk kinds p) {w : Wld} (hw : WldOk p w) : Pln (wldD w) 6 := by
  refine pln_tup (n := 5) (fun x hx => ?_) (by simp)
  rcases List.mem_cons.mp hx with rfl | hx
  · refine pln_tup (fun y hy => ?_) (by have := hw.hl; simp; omega)
    obtain ⟨h, hh, rfl⟩ := List.mem_map.mp hy
    exact (pln_handD ok (hw.ho h hh)).mono _ (by decide)
  · rw [List.mem_singleton.mp hx]
    refine pln_tup (fun y hy => ?_) (by have := hw.ll; have := ok.rl; simp; omega)
    obtain ⟨l, hl, rfl⟩ := List.mem_map.mp hy
    obtain ⟨i, hi⟩ := List.getElem?_of_mem hl
    obtain ⟨r, hr⟩ : ∃ r, p.roads[i]? = some r := ⟨_, List.getElem?_eq_getElem (by rw [← hw.ll]; exact (List.getElem?_eq_some_iff.mp hi).1)⟩
    exact (pln_rowD l (by have := (hw.lo i r l hr hi).len; omega)).mono _ (by decide)
theorem pln_stD {R : Nat} {names kinds : List (List Nat)} {many last : Nat} {s : St} (h : StOk R names kinds many last s) : Pln (stD s) 2 := by
  have arm : ∀ a : Arm, Pln (armD a) 1 := fun a => pln_tup (fun x hx => by
    rcases List.mem_cons.mp hx with rfl | hx
    · exact .str _ _
    · rcases List.mem_cons.mp hx with rfl | hx
      · cases a.2.1 with
        | none => exact .non _
        | some k => exact .int _ _
      · rw [List.mem_singleton.mp hx]; exact .int _ _) (by simp)
  cases s with
  | pick ts =>
    refine pln_tup (fun x hx => ?_) (by have := h.2.1; simp; omega)
    rcases List.mem_cons.mp hx with rfl | hx
    · exact .str _ _
    · obtain ⟨t, _, rfl⟩ := List.mem_map.mp hx
      exact .int _ _
  | wait rd as =>
    refine pln_tup (fun x hx => ?_) (by have := h.2.2.1; simp; omega)
    rcases List.mem_cons.mp hx with rfl | hx
    · exact .str _ _
    · rcases List.mem_cons.mp hx with rfl | hx
      · exact .int _ _
      · obtain ⟨a, _, rfl⟩ := List.mem_map.mp hx
        exact arm a
  | _ =>
    refine pln_tup (fun x hx => ?_) (by simp)
    simp only [List.mem_cons, List.not_mem_nil, or_false] at hx
    first
      | (rcases hx with rfl | rfl | rfl | rfl <;> first | exact .str _ _ | exact .int _ _)
      | (rcases hx with rfl | rfl | rfl <;> first | exact .str _ _ | exact .int _ _)
      | (rcases hx with rfl | rfl <;> first | exact .str _ _ | exact .int _ _)
      | (rcases hx with rfl; exact .str _ _)
end G

/-! plain law: any value; what is a world -/
namespace G
/-- values of none, truths, ints, texts, tuples, lists, so deep -/
def vB : Nat → D → Bool
  | _, .non => true
  | _, .bl _ => true
  | _, .int _ => true
  | _, .str x => decide (x.length ≤ 1000)
  | n + 1, .tup xs => xs.all (vB n) && decide (xs.length ≤ 1000)
  | n + 1, .lst xs => xs.all (vB n) && decide (xs.length ≤ 1000)
  | _, _ => false
theorem vB_tup {n : Nat} {xs : List D} : vB (n + 1) (.tup xs) = true ↔ (∀ x ∈ xs, vB n x = true) ∧ xs.length ≤ 1000 := by
  simp only [vB, Bool.and_eq_true, List.all_eq_true, decide_eq_true_eq]
theorem vB_lst {n : Nat} {xs : List D} : vB (n + 1) (.lst xs) = true ↔ (∀ x ∈ xs, vB n x = true) ∧ xs.length ≤ 1000 := by
  simp only [vB, Bool.and_eq_true, List.all_eq_true, decide_eq_true_eq]
theorem vB_mono : ∀ {n m : Nat} {d : D}, vB n d = true → n ≤ m → vB m d = true
  | _, m, .non, _, _ => by cases m <;> rfl
  | _, m, .bl _, _, _ => by cases m <;> rfl
  | _, m, .int _, _, _ => by cases m <;> rfl
  | n, m, .str x, h, _ => by cases n <;> cases m <;> exact h
  | n + 1, m, .tup xs, h, l => by
    obtain ⟨k, rfl⟩ : ∃ k, m = k + 1 := ⟨m - 1, by omega⟩
    obtain ⟨h1, h2⟩ := vB_tup.mp h
    exact vB_tup.mpr ⟨fun x hx => vB_mono (h1 x hx) (by omega), h2⟩
  | n + 1, m, .lst xs, h, l => by
    obtain ⟨k, rfl⟩ : ∃ k, m = k + 1 := ⟨m - 1, by omega⟩
    obtain ⟨h1, h2⟩ := vB_lst.mp h
    exact vB_lst.mpr ⟨fun x hx => vB_mono (h1 x hx) (by omega), h2⟩
  | 0, _, .tup _, h, _ | 0, _, .lst _, h, _ => by cases h
  | n, _, .dic _ _, h, _ | n, _, .ins _ _, h, _ | n, _, .fn _, h, _ | n, _, .cls _, h, _ => by cases n <;> cases h
theorem vB_pl : ∀ {n : Nat} {d : D}, vB n d = true → pl d = true ∧ dep d ≤ n
  | n, .non, _ => ⟨rfl, Nat.zero_le _⟩
  | n, .bl _, _ => ⟨rfl, Nat.zero_le _⟩
  | n, .int _, _ => ⟨rfl, Nat.zero_le _⟩
  | n, .str _, _ => ⟨rfl, Nat.zero_le _⟩
  | n + 1, .tup xs, h => by
    obtain ⟨h1, _⟩ := vB_tup.mp h
    exact ⟨plL_iff.mpr fun x hx => (vB_pl (h1 x hx)).1, Nat.succ_le_succ (depL_iff.mpr fun x hx => (vB_pl (h1 x hx)).2)⟩
  | n + 1, .lst xs, h => by
    obtain ⟨h1, _⟩ := vB_lst.mp h
    exact ⟨plL_iff.mpr fun x hx => (vB_pl (h1 x hx)).1, Nat.succ_le_succ (depL_iff.mpr fun x hx => (vB_pl (h1 x hx)).2)⟩
  | 0, .tup _, h | 0, .lst _, h => by cases h
  | n, .dic _ _, h | n, .ins _ _, h | n, .fn _, h | n, .cls _, h => by cases n <;> cases h
theorem vB_ty {n : Nat} {d : D} (h : vB n d = true) : tyOk d = true := by cases n <;> cases d <;> first | rfl | cases h
def isNum (d : D) (m : Int) : Bool := match d with
  | .int i => decide (0 ≤ i) && decide (i ≤ m)
  | _ => false
def isLet (d : D) : Bool := match d with
  | .tup [.str w, x] => decide (1 ≤ w.length) && decide (w.length ≤ 8) && isNum x 2 && w.all (fun c => decide (c ∈ signs))
  | _ => false
def toPt : D → Pt
  | .tup [.str w, .int i] => (w, i)
  | _ => ([], 0)
theorem toPt_ltr (l : List Pt) : (l.map ltr).map toPt = l := by
  rw [List.map_map]
  have : toPt ∘ ltr = id := by funext p; rfl
  rw [this, List.map_id]
theorem let_ltr {d : D} (h : isLet d = true) : ∃ p, d = ltr p := by
  unfold isLet at h
  split at h
  · rename_i w x
    simp only [Bool.and_eq_true] at h
    cases x <;> simp [isNum] at h
    exact ⟨(w, _), rfl⟩
  · cases h
theorem lets_ltr {xs : List D} (h : xs.all isLet = true) : ∃ l : List Pt, xs = l.map ltr := map_of fun e he => let_ltr (List.all_eq_true.mp h e he)
def srtd (xs : List D) : Bool := decide (sort2 (xs.map toPt) = xs.map toPt)
def fits (r : Rdp) (n : Nat) : Bool := match r.m with
  | none => true
  | some k => decide ((n : Int) ≤ k)
def isLd (r : Rdp) (d : D) : Bool := match d with
  | .tup xs => xs.all isLet && fits r xs.length && (decide (r.o = rowS) || srtd xs)
  | _ => false
def roleOfD (p : Prog) (a : D) : Option Role := p.roles.find? fun r => eqv a (.str r.nm)
def hdOk (p : Prog) (a b : D) (c : List D) : Bool := match roleOfD p a with
  | some r => isNum b r.steps.length && decide (c.length = r.many) && c.all (isNum · 2)
  | none => false
def isHd (p : Prog) (d : D) : Bool := match d with
  | .tup [a, b, .tup c] => hdOk p a b c
  | _ => false
def isWd (p : Prog) (d : D) : Bool := match d with
  | .tup [.tup hs, .tup ls] => decide (1 ≤ hs.length) && decide (hs.length ≤ 6) && decide (ls.length = p.roads.length) && hs.all (isHd p) && ((p.roads.zip ls).map fun q => isLd q.1 q.2).all id
  | _ => false
theorem eqv_is {a : D} {w : List Nat} (h : eqv a (.str w) = true) : a = .str w := by
  cases a with
  | str x => rw [eqv_str] at h; rw [of_decide_eq_true h]
  | bl b => cases b <;> cases h
  | _ => cases h
theorem eqv_comm (a : D) (w : List Nat) : eqv (.str w) a = eqv a (.str w) := by
  cases a with
  | str x => rw [eqv_str, eqv_str, Bool.eq_iff_iff]; simp only [decide_eq_true_eq]; exact eq_comm
  | bl b => cases b <;> rfl
  | _ => rfl
theorem cmp_eqA {a : D} {n : Nat} (v : vB n a = true) (hn : n ≤ 50) (w : List Nat) : cmpD .Eq a (.str w) = some (eqv a (.str w)) := by
  obtain ⟨h1, h2⟩ := vB_pl v
  show (if cmpable _ _ then some (eqv _ _) else none) = _
  rw [if_pos (cmpable_of h1 rfl (by omega) (by show (0:Nat) ≤ 60; decide))]
theorem inD_A (a : D) : ∀ ws : List (List Nat), inD a (ws.map .str) = ws.any fun w => eqv a (.str w)
  | [] => rfl
  | w :: ws => by
    rw [List.map_cons, show inD a (.str w :: ws.map .str) = (eqv (.str w) a || inD a (ws.map .str)) from rfl, eqv_comm, inD_A a ws, List.any_cons]
theorem notin_A {a : D} {n : Nat} (v : vB n a = true) (hn : n ≤ 50) (ws : List (List Nat)) : cmpD .NotIn a (.lst (ws.map .str)) = some (!ws.any fun w => eqv a (.str w)) := by
  obtain ⟨h1, h2⟩ := vB_pl v
  have c : cmpable a (.lst (ws.map .str)) = true := by
    obtain ⟨q1, q2⟩ := nice_map_l (f := D.str) (n := 0) nice_str ws
    exact cmpable_of h1 q1 (by omega) (by omega)
  have e : inC a (.lst (ws.map .str)) = if cmpable a (.lst (ws.map .str)) then some (inD a (ws.map .str)) else none := by
    cases a with
    | str x => cases x with
      | nil => rfl
      | cons a x => cases x <;> rfl
    | _ => rfl
  show Option.map _ (inC a _) = _
  rw [e, if_pos c, inD_A]; rfl
theorem roleOfD_any (p : Prog) (a : D) : (p.names.any fun w => eqv a (.str w)) = (roleOfD p a).isSome := by
  unfold Prog.names roleOfD
  rw [List.any_map, Bool.eq_iff_iff, List.find?_isSome, List.any_eq_true]
  rfl
theorem in_signs (c : Nat) : cmpD .In (.str [c]) (.str signs) = some (decide (c ∈ signs)) := rfl
theorem roleOfD_some {p : Prog} {a : D} {r : Role} (h : roleOfD p a = some r) : r ∈ p.roles ∧ a = .str r.nm := ⟨List.mem_of_find?_eq_some h, eqv_is (by simpa using List.find?_some h)⟩
/-- a length that isn't two -/
theorem two_or (xs : List D) : (∃ a b, xs = [a, b]) ∨ xs.length ≠ 2 := by
  match xs with
  | [a, b] => exact .inl ⟨a, b, rfl⟩
  | [] => exact .inr (by simp)
  | [a] => exact .inr (by simp)
  | a :: b :: c :: r => exact .inr (by simp)
theorem three_or (xs : List D) : (∃ a b c, xs = [a, b, c]) ∨ xs.length ≠ 3 := by
  match xs with
  | [a, b, c] => exact .inl ⟨a, b, c, rfl⟩
  | [] => exact .inr (by simp)
  | [a] => exact .inr (by simp)
  | [a, b] => exact .inr (by simp)
  | a :: b :: c :: d :: r => exact .inr (by simp)
theorem isLet_len {xs : List D} (h : xs.length ≠ 2) : isLet (.tup xs) = false := by
  match xs, h with
  | [a, b], h => exact absurd rfl h
  | [], _ => rfl
  | [a], _ => cases a <;> rfl
  | a :: b :: c :: r, _ => cases a <;> rfl
theorem isHd_len {p : Prog} {xs : List D} (h : xs.length ≠ 3) : isHd p (.tup xs) = false := by
  match xs, h with
  | [a, b, c], h => exact absurd rfl h
  | [], _ => rfl
  | [a], _ => rfl
  | [a, b], _ => rfl
  | a :: b :: c :: d :: r, _ => cases c <;> rfl
theorem isWd_len {p : Prog} {xs : List D} (h : xs.length ≠ 2) : isWd p (.tup xs) = false := by
  match xs, h with
  | [a, b], h => exact absurd rfl h
  | [], _ => rfl
  | [a], _ => cases a <;> rfl
  | a :: b :: c :: r, _ => cases a <;> cases b <;> rfl
theorem zip_rdD : ∀ (rs : List Rdp) (ls : List D), zipL (rs.map rdD) ls = (rs.zip ls).map fun q => .tup [rdD q.1, q.2]
  | [], _ => by simp [zipL]
  | _ :: _, [] => by simp [zipL]
  | a :: A, b :: B => by simp [zipL, zip_rdD A B]
theorem isWd_nt {p : Prog} {h : D} (l : D) (n : ∀ xs, h ≠ .tup xs) : isWd p (.tup [h, l]) = false := by
  cases h with
  | tup xs => exact absurd rfl (n xs)
  | _ => rfl
theorem isWd_nt2 {p : Prog} {l : D} (h : D) (n : ∀ xs, l ≠ .tup xs) : isWd p (.tup [h, l]) = false := by
  cases l with
  | tup xs => exact absurd rfl (n xs)
  | _ => cases h <;> rfl
theorem isi_tup (d : D) : [3].any (isT1 d) = (match d with | .tup _ => true | _ => false) := by cases d <;> rfl
theorem is_tup (d : D) : (∃ xs, d = .tup xs) ∨ (∀ xs, d ≠ .tup xs) := by
  cases d with
  | tup xs => exact .inl ⟨xs, rfl⟩
  | _ => exact .inr fun xs h => by cases h
theorem not_tup {d : D} (n : ∀ xs, d ≠ .tup xs) : isT1 d 3 = false := by
  cases d with
  | tup xs => exact absurd rfl (n xs)
  | _ => rfl
theorem tup_vB {k : Nat} {xs : List D} (v : vB k (.tup xs) = true) : ∃ j, k = j + 1 ∧ (∀ x ∈ xs, vB j x = true) ∧ xs.length ≤ 1000 := by
  cases k with
  | zero => cases v
  | succ j => exact ⟨j, rfl, vB_tup.mp v⟩
/-- len a compared with a number -/
theorem ne_len (n m : Nat) : cmpD .NotEq (.int (n : Nat)) (.int (m : Nat)) = some (!decide (n = m)) := by rw [cmp_ne]; exact congrArg (fun x => some (!x)) (by rw [Bool.eq_iff_iff]; simp only [decide_eq_true_eq]; omega)
@[simp] theorem tyOk_tup (xs : List D) : tyOk (.tup xs) = true := rfl
@[simp] theorem isT1_tup (xs : List D) : isT1 (.tup xs) 3 = true := rfl
theorem cut_takeD (xs : List D) (k : Nat) : cut xs none (some (k : Int)) = xs.take k := by
  have := cut_take (id : D → D) xs k
  simpa using this
theorem cut_dropD (xs : List D) (k : Nat) : cut xs (some (k : Int)) none = xs.drop k := by
  have := cut_drop (id : D → D) xs k
  simpa using this
def putL (xs : List D) (k : Nat) (d : D) : List D := xs.take k ++ [d] ++ xs.drop (k + 1)
theorem putL_len (xs : List D) (k : Nat) (d : D) : (putL xs k d).length ≤ xs.length + 1 := by simp [putL]; omega
theorem putL_mem {xs : List D} {k : Nat} {d x : D} (h : x ∈ putL xs k d) : x = d ∨ x ∈ xs := by
  unfold putL at h
  rcases List.mem_append.mp h with h | h
  · rcases List.mem_append.mp h with h | h
    · exact .inr (List.mem_of_mem_take h)
    · exact .inl (List.mem_singleton.mp h)
  · exact .inr (List.mem_of_mem_drop h)
theorem vB_put {n : Nat} {xs : List D} {k : Nat} {d : D} (h : ∀ x ∈ xs, vB n x = true) (hl : xs.length ≤ 900) (hd : vB n d = true) : vB (n + 1) (.tup (putL xs k d)) = true :=
  vB_tup.mpr ⟨fun x hx => (putL_mem hx).elim (fun e => e ▸ hd) (h x), by have := putL_len xs k d; omega⟩
theorem add_lstD {a b : List D} (h : a.length + b.length ≤ 10000) : binD .Add (.lst a) (.lst b) = some (.lst (a ++ b), true) := by
  have : line = 16777216 := rfl
  have h2 : a.length + b.length ≤ line := by omega
  simp only [binD, addD, if_pos h2]
theorem vB_word {w : List Nat} (h : WordOk w) (n : Nat) : vB n (.str w) = true := by
  have : w.length ≤ 1000 := by have := h.2.1; omega
  cases n <;> exact decide_eq_true this
theorem vB_int (i : Int) (n : Nat) : vB n (.int i) = true := by cases n <;> rfl
theorem vB_handD {p : Prog} {kinds : List (List Nat)} (ok : ProgOk kinds p) {h : Hand} (hh : HandOk p h) : vB 2 (handD h) = true := by
  obtain ⟨r, h1, h2, h3, h4, h5⟩ := hh
  refine vB_tup.mpr ⟨fun x hx => ?_, by simp⟩
  rcases List.mem_cons.mp hx with rfl | hx
  · rw [h2]; exact vB_word (ok.nw _ (List.mem_map_of_mem h1)) _
  · rcases List.mem_cons.mp hx with rfl | hx
    · exact vB_int _ _
    · rw [List.mem_singleton.mp hx]
      refine vB_tup.mpr ⟨fun y hy => ?_, by rw [List.length_map, h4]; have := ok.many r h1; omega⟩
      obtain ⟨a, _, rfl⟩ := List.mem_map.mp hy
      exact vB_int _ _
theorem vB_rowD {ks : List (List Nat)} (kw : ∀ k ∈ ks, WordOk k) {r : Rdp} {l : List Pt} (h : LoadOk ks r l) : vB 2 (rowD l) = true := by
  refine vB_tup.mpr ⟨fun x hx => ?_, by rw [List.length_map]; have := h.len; omega⟩
  obtain ⟨q, hq, rfl⟩ := List.mem_map.mp hx
  refine vB_tup.mpr ⟨fun y hy => ?_, by simp⟩
  rcases List.mem_cons.mp hy with rfl | hy
  · exact vB_word (kw _ (h.mem q hq).1) _
  · rw [List.mem_singleton.mp hy]; exact vB_int _ _
theorem wld_lets {p : Prog} {w : Wld} (hw : WldOk p w) {l : List Pt} (hl : l ∈ w.lets) : ∃ r ∈ p.roads, LoadOk p.kinds r l := by
  obtain ⟨i, hi⟩ := List.getElem?_of_mem hl
  obtain ⟨r, hr⟩ : ∃ r, p.roads[i]? = some r := ⟨_, List.getElem?_eq_getElem (by rw [← hw.ll]; exact (List.getElem?_eq_some_iff.mp hi).1)⟩
  exact ⟨r, List.mem_of_getElem? hr, hw.lo i r l hr hi⟩
theorem vB_hands {p : Prog} {kinds : List (List Nat)} (ok : ProgOk kinds p) {w : Wld} (hw : WldOk p w) : ∀ x ∈ w.hands.map handD, vB 2 x = true := fun x hx => by
  obtain ⟨h, hh, rfl⟩ := List.mem_map.mp hx
  exact vB_handD ok (hw.ho h hh)
theorem vB_lets {p : Prog} {kinds : List (List Nat)} (ok : ProgOk kinds p) {w : Wld} (hw : WldOk p w) : ∀ x ∈ w.lets.map rowD, vB 2 x = true := fun x hx => by
  obtain ⟨l, hl, rfl⟩ := List.mem_map.mp hx
  obtain ⟨r, _, h⟩ := wld_lets hw hl
  exact vB_rowD (kinds_ok ok) h
theorem vB_wldD {p : Prog} {kinds : List (List Nat)} (ok : ProgOk kinds p) {w : Wld} (hw : WldOk p w) : vB 4 (wldD w) = true := by
  refine vB_tup.mpr ⟨fun x hx => ?_, by simp⟩
  rcases List.mem_cons.mp hx with rfl | hx
  · exact vB_tup.mpr ⟨vB_hands ok hw, by have := hw.hl; simp; omega⟩
  · rw [List.mem_singleton.mp hx]
    exact vB_tup.mpr ⟨vB_lets ok hw, by have := hw.ll; have := ok.rl; simp; omega⟩
theorem mem_signs {c : Nat} (h : 97 ≤ c ∧ c ≤ 122) : c ∈ signs := by
  have : ∀ c, c < 123 → 97 ≤ c → c ∈ signs := by decide
  exact this c (by omega) h.1
theorem isHd_ok {p : Prog} {kinds : List (List Nat)} (ok : ProgOk kinds p) {h : Hand} (hh : HandOk p h) : isHd p (handD h) = true := by
  obtain ⟨r, h1, h2, h3, h4, h5⟩ := hh
  have e : roleOfD p (.str h.nm) = some r := by
    have := roleOf_of ok.nd h1
    unfold roleOf at this
    unfold roleOfD
    rw [h2, ← this]
    congr 1
    funext x
    rw [eqv_str, Bool.eq_iff_iff]
    simp only [decide_eq_true_eq]
    exact eq_comm
  show hdOk p (.str h.nm) (.int h.at_) (h.regs.map intN) = true
  simp only [hdOk, e, isNum, Bool.and_eq_true, decide_eq_true_eq, List.all_eq_true, List.length_map]
  refine ⟨⟨⟨by omega, by omega⟩, h4⟩, fun x hx => ?_⟩
  obtain ⟨a, ha, rfl⟩ := List.mem_map.mp hx
  have := h5 a ha
  simp only [intN, Bool.and_eq_true, decide_eq_true_eq]
  omega
theorem isLd_ok {ks : List (List Nat)} (kw : ∀ k ∈ ks, WordOk k) {r : Rdp} (ro : RdOk r) {l : List Pt} (h : LoadOk ks r l) : isLd r (rowD l) = true := by
  show ((l.map ltr).all isLet && fits r (l.map ltr).length && (decide (r.o = rowS) || srtd (l.map ltr))) = true
  simp only [Bool.and_eq_true, List.all_eq_true, List.length_map]
  refine ⟨⟨fun x hx => ?_, ?_⟩, ?_⟩
  · obtain ⟨q, hq, rfl⟩ := List.mem_map.mp hx
    obtain ⟨m1, m2, m3⟩ := h.mem q hq
    have wo := kw _ m1
    simp only [ltr, isLet, isNum, Bool.and_eq_true, decide_eq_true_eq, List.all_eq_true]
    exact ⟨⟨⟨wo.1, wo.2.1⟩, m2, by omega⟩, fun c hc => mem_signs (wo.2.2 c hc)⟩
  · unfold fits
    cases e : r.m with
    | none => rfl
    | some k => exact decide_eq_true (h.most k e)
  · rcases ro.o with e | e
    · rw [decide_eq_true e]; rfl
    · have : srtd (l.map ltr) = true := by
        unfold srtd
        rw [toPt_ltr]
        exact decide_eq_true (sort2_of_up (h.up e))
      rw [this, Bool.or_true]
theorem isWd_ok {p : Prog} {kinds : List (List Nat)} (ok : ProgOk kinds p) {w : Wld} (hw : WldOk p w) : isWd p (wldD w) = true := by
  have hl := hw.hl
  show (decide (1 ≤ (w.hands.map handD).length) && decide ((w.hands.map handD).length ≤ 6) && decide ((w.lets.map rowD).length = p.roads.length) && (w.hands.map handD).all (isHd p) && ((p.roads.zip (w.lets.map rowD)).map fun q => isLd q.1 q.2).all id) = true
  simp only [Bool.and_eq_true, decide_eq_true_eq, List.length_map, List.all_eq_true]
  refine ⟨⟨⟨⟨hl.1, hl.2⟩, hw.ll⟩, fun x hx => ?_⟩, fun x hx => ?_⟩
  · obtain ⟨h, hh, rfl⟩ := List.mem_map.mp hx
    exact isHd_ok ok (hw.ho h hh)
  · obtain ⟨q, hq, rfl⟩ := List.mem_map.mp hx
    obtain ⟨i, hi⟩ := List.getElem?_of_mem hq
    rw [List.getElem?_zip_eq_some] at hi
    obtain ⟨h1, h2⟩ := hi
    rw [List.getElem?_map] at h2
    obtain ⟨l, hl, e⟩ := Option.map_eq_some_iff.mp h2
    rw [← e]
    exact isLd_ok (kinds_ok ok) (ok.rd _ (List.mem_of_getElem? h1)) (hw.lo i q.1 l h1 hl)
end G

/-! plain law: choices and moves -/
namespace G
/-- those that are unlike the one ahead -/
def rn (x : Pt) : List Pt → List Pt
  | [] => []
  | y :: t => if x = y then rn y t else y :: rn y t
def uq : List Pt → List Pt
  | [] => []
  | x :: t => x :: rn x t
theorem range_up : ∀ (n s : Nat), List.range' (s + 1) n = (List.range' s n).map (· + 1)
  | 0, _ => rfl
  | n + 1, s => by rw [List.range'_succ, List.range'_succ, List.map_cons, range_up n (s + 1)]
theorem rn_filt (d : Pt) : ∀ (t : List Pt) (x : Pt), ((List.range' 0 t.length).filter fun i => decide ((x :: t)[i]? ≠ t[i]?)).map (fun i => t.getD i d) = rn x t
  | [], x => rfl
  | y :: t, x => by
    have ih := rn_filt d t y
    have e1 : List.range' 0 (y :: t).length = 0 :: (List.range' 0 t.length).map (· + 1) := by
      rw [List.length_cons, List.range'_succ, range_up]
    rw [e1, List.filter_cons, List.filter_map]
    have e2 : ((fun i => decide ((x :: y :: t)[i]? ≠ (y :: t)[i]?)) ∘ (· + 1)) = fun i => decide ((y :: t)[i]? ≠ t[i]?) := by
      funext i; simp [Function.comp]
    rw [e2]
    unfold rn
    by_cases h : x = y
    · simp only [List.getElem?_cons_zero, ne_eq, Option.some.injEq, h, not_true_eq_false, decide_false, Bool.false_eq_true, if_false, if_true]
      rw [List.map_map, ← ih]
      rfl
    · simp only [List.getElem?_cons_zero, ne_eq, Option.some.injEq, h, not_false_eq_true, decide_true, if_true, if_false, List.map_cons]
      rw [List.map_map, ← ih]
      rfl
theorem fa_map (d : Pt) (l : List Pt) : (fa l).map (fun i => l.getD i d) = uq l := by
  cases l with
  | nil => rfl
  | cons x t =>
    have e1 : List.range' 0 (x :: t).length = 0 :: (List.range' 0 t.length).map (· + 1) := by
      rw [List.length_cons, List.range'_succ, range_up]
    unfold fa
    rw [e1, List.filter_cons, List.filter_map]
    have e2 : ((fun i => decide (i = 0) || decide ((x :: t)[i - 1]? ≠ (x :: t)[i]?)) ∘ (· + 1)) = fun i => decide ((x :: t)[i]? ≠ t[i]?) := by
      funext i; simp [Function.comp]
    rw [e2]
    simp only [decide_true, Bool.true_or, if_true, List.map_cons, List.map_map]
    show x :: _ = x :: rn x t
    rw [← rn_filt d t x]
    rfl
theorem rn_sub : ∀ (t : List Pt) (x z : Pt), z ∈ rn x t → z ∈ t
  | y :: t, x, z, h => by
    unfold rn at h
    split at h
    · exact List.mem_cons_of_mem _ (rn_sub t y z h)
    · rcases List.mem_cons.mp h with rfl | h
      · exact List.mem_cons_self
      · exact List.mem_cons_of_mem _ (rn_sub t y z h)
theorem rn_all : ∀ (t : List Pt) (x z : Pt), z ∈ t → z = x ∨ z ∈ rn x t
  | y :: t, x, z, h => by
    unfold rn
    rcases List.mem_cons.mp h with rfl | h
    · split
      · rename_i e; exact .inl e.symm
      · exact .inr List.mem_cons_self
    · rcases rn_all t y z h with rfl | h
      · split
        · rename_i e; exact .inl e.symm
        · exact .inr List.mem_cons_self
      · split
        · exact .inr h
        · exact .inr (List.mem_cons_of_mem _ h)
theorem rn_up : ∀ (t : List Pt) (x : Pt), Up (x :: t) → (∀ z ∈ rn x t, lt2 x z) ∧ (rn x t).Pairwise lt2
  | [], x, _ => ⟨fun z h => (nomatch h), List.Pairwise.nil⟩
  | y :: t, x, u => by
    obtain ⟨u1, u2⟩ := List.pairwise_cons.mp u
    obtain ⟨i1, i2⟩ := rn_up t y u2
    have n := u1 y List.mem_cons_self
    unfold rn
    split
    · rename_i e
      subst e
      exact ⟨i1, i2⟩
    · rename_i e
      have l : lt2 x y := Classical.byContradiction fun c => e (lt2_tot c n)
      refine ⟨fun z h => ?_, List.pairwise_cons.mpr ⟨i1, i2⟩⟩
      rcases List.mem_cons.mp h with rfl | h
      · exact l
      · exact lt2_tr l (i1 z h)
theorem uq_mem (l : List Pt) (z : Pt) : z ∈ uq l ↔ z ∈ l := by
  cases l with
  | nil => exact Iff.rfl
  | cons x t =>
    constructor
    · intro h
      rcases List.mem_cons.mp h with rfl | h
      · exact List.mem_cons_self
      · exact List.mem_cons_of_mem _ (rn_sub t x z h)
    · intro h
      rcases List.mem_cons.mp h with rfl | h
      · exact List.mem_cons_self
      · rcases rn_all t x z h with rfl | h
        · exact List.mem_cons_self
        · exact List.mem_cons_of_mem _ h
theorem uq_lt {l : List Pt} (u : Up l) : (uq l).Pairwise lt2 := by
  cases l with
  | nil => exact List.Pairwise.nil
  | cons x t =>
    obtain ⟨h1, h2⟩ := rn_up t x u
    exact List.pairwise_cons.mpr ⟨h1, h2⟩
theorem rn_len : ∀ (t : List Pt) (x : Pt), (rn x t).length ≤ t.length
  | [], _ => Nat.le_refl _
  | y :: t, x => by
    have := rn_len t y
    unfold rn
    split <;> simp <;> omega
theorem uq_len (l : List Pt) : (uq l).length ≤ l.length := by
  cases l with
  | nil => exact Nat.le_refl _
  | cons x t => have := rn_len t x; simp [uq]; omega
theorem ok_ltrs {l : List Pt} (hl : l.length + 1 < 64) : setOk (l.map ltr) = true := by
  refine setOk_of (f := ltr) (n := 1) (by decide) nice_ltr eqv_ltr cmpb_ltr (cap_few (by simp; omega)) (all_ltr l).2 ?_
  have : (l.map ltr).all (fun x => tyK x == 3) = true := List.all_eq_true.mpr fun d hd => by obtain ⟨a, _, rfl⟩ := List.mem_map.mp hd; rfl
  rw [this]; rfl
/-- the letters of a heap, each once, rising -/
theorem sorset_up {l : List Pt} (hl : l.length + 1 < 64) (u : Up l) : biD .sorset [.tup (l.map ltr)] = some (.lst ((uq l).map ltr), true) := by
  have ok := ok_ltrs hl
  have lt := uq_lt u
  have nd : (uq l).Nodup := lt.imp fun {a b} h e => by subst e; exact lt2_irr _ h
  have s : SrtO.Srtd ltQ ((uq l).map ltr) := by
    refine List.pairwise_map.mpr (lt.imp fun {a b} h => ?_)
    have e := ltB_key (ltr b) (ltr a) (by simp [ltr, pl, plL]) (by simp [ltr, pl, plL]) (cmpb_ltr b a)
    rw [ltB_dec] at e
    have h2 : ¬ lt2 b a := fun c => lt2_irr _ (lt2_tr h c)
    rw [decide_eq_false h2] at e
    exact e.symm
  rw [bi_sorset_t ok, sorset_is (fun a b => ltr_inj) eqv_ltr ok (uq_mem l) nd s]
/-! ### sorted numbers -/
def insI (x : Int) : List Int → List Int
  | [] => [x]
  | y :: ys => if y < x then y :: insI x ys else x :: y :: ys
def sortI : List Int → List Int
  | [] => []
  | x :: xs => insI x (sortI xs)
theorem insR_mapI (x : Int) : ∀ l : List Int, insR (.int x) (l.map .int) = (insI x l).map .int
  | [] => rfl
  | y :: ys => by
    have e : ltB (.int y) (.int x) = decide (y < x) := rfl
    simp only [List.map_cons, insR, insI, e, decide_eq_true_eq]
    split
    · rw [insR_mapI x ys]; rfl
    · rfl
theorem sortR_mapI : ∀ l : List Int, sortR (l.map .int) = (sortI l).map .int
  | [] => rfl
  | x :: xs => by simp only [List.map_cons, sortR, sortI, sortR_mapI xs, insR_mapI]
theorem insI_len (x : Int) : ∀ l : List Int, (insI x l).length = l.length + 1
  | [] => rfl
  | y :: ys => by
    unfold insI
    split
    · simp [insI_len x ys]
    · rfl
theorem sortI_len : ∀ l : List Int, (sortI l).length = l.length
  | [] => rfl
  | x :: xs => by show (insI x (sortI xs)).length = _; rw [insI_len, sortI_len xs]; rfl
theorem sort_ints (l : List Int) : biD .sorted [.lst (l.map .int)] = some (.lst ((sortI l).map .int), true) := by
  have p : plL (l.map .int) = true := plL_iff.mpr fun d hd => by obtain ⟨a, _, rfl⟩ := List.mem_map.mp hd; rfl
  have q : depL (l.map .int) ≤ 0 := depL_iff.mpr fun d hd => by obtain ⟨a, _, rfl⟩ := List.mem_map.mp hd; exact Nat.le_refl _
  have h1 : allCmp (l.map .int) = true := by
    simp only [allCmp, p, Bool.true_and, Bool.and_eq_true, decide_eq_true_eq, List.all_eq_true]
    refine ⟨by omega, fun x hx y hy => ?_⟩
    obtain ⟨a, _, rfl⟩ := List.mem_map.mp hx
    obtain ⟨b, _, rfl⟩ := List.mem_map.mp hy
    rfl
  have h2 : srtK (l.map .int) = true := by
    have : (l.map D.int).all (fun x => tyK x == 1) = true := List.all_eq_true.mpr fun d hd => by obtain ⟨a, _, rfl⟩ := List.mem_map.mp hd; rfl
    simp only [srtK, this, Bool.or_true, Bool.true_or]
  simp only [biD, sortedD, h1, h2, Bool.and_self, if_true, sortR_mapI]
/-! ### the place of a kind -/
theorem indexOf_strs (k : List Nat) : ∀ ks : List (List Nat), k ∈ ks → indexOf (.str k) (ks.map .str) = some (idx k ks)
  | [], h => (nomatch h)
  | x :: ks, h => by
    rw [List.map_cons]
    unfold indexOf idx
    rw [eqv_str]
    by_cases e : x = k
    · rw [if_pos (decide_eq_true e), if_pos e]
    · rw [if_neg (by simpa using e), if_neg e, indexOf_strs k ks ((List.mem_cons.mp h).resolve_left fun z => e z.symm)]
      rfl
theorem mt_idx {k : List Nat} {ks : List (List Nat)} (h : k ∈ ks) : mtD 3 (.lst (ks.map .str)) [.str k] = some (.int (idx k ks : Nat), false) := by
  have c := (cmpable_in (f := D.str) (n := 0) (by decide) nice_str k ks).1
  simp only [mtD, idxMD, c, if_true, indexOf_strs k ks h, Option.map_some]
theorem idx_lt {k : List Nat} : ∀ {ks : List (List Nat)}, k ∈ ks → idx k ks < ks.length
  | [], h => (nomatch h)
  | x :: ks, h => by
    unfold idx
    split
    · exact Nat.succ_pos _
    · rename_i e
      exact Nat.succ_lt_succ (idx_lt ((List.mem_cons.mp h).resolve_left fun z => e z.symm))
def codeK (ks : List (List Nat)) (p : Pt) : Option Int := if p.1 ∈ ks then some (3 * (idx p.1 ks : Int) + p.2) else none
theorem code_filt (ks : List (List Nat)) : ∀ l : List Pt, (l.filter fun p => decide (p.1 ∈ ks)).map (fun p => 3 * (idx p.1 ks : Int) + p.2) = l.filterMap (codeK ks)
  | [] => rfl
  | p :: l => by
    by_cases h : p.1 ∈ ks
    · rw [List.filter_cons_of_pos (by simpa using h), List.map_cons, code_filt ks l, List.filterMap_cons_some (b := 3 * (idx p.1 ks : Int) + p.2) (by simp [codeK, h])]
    · rw [List.filter_cons_of_neg (by simpa using h), code_filt ks l, List.filterMap_cons_none (by simp [codeK, h])]
/-! ### choices, moves -/
def atHand (r : Rdp) (l : List Pt) : List Pt := if r.o = rowS then l.take 1 else uq l
theorem atHand_fa (d : Pt) (r : Rdp) (l : List Pt) : (fa (if r.o = rowS then l.take 1 else l)).map (fun i => l.getD i d) = atHand r l := by
  unfold atHand
  by_cases h : r.o = rowS
  · rw [if_pos h, if_pos h]
    cases l with
    | nil => rfl
    | cons x t => rfl
  · rw [if_neg h, if_neg h, fa_map]
theorem atHand_len (r : Rdp) (l : List Pt) : (atHand r l).length ≤ l.length := by
  unfold atHand
  split
  · simp; omega
  · exact uq_len l
def roomy (r : Rdp) (n : Nat) : Bool := match r.m with
  | none => true
  | some k => decide ((n : Int) < k)
def onRoad {α : Type} (z : α) (f : Rdp → List Pt → α) (p : Prog) (w : Wld) (i : Nat) : α := match p.roads[i]?, w.lets[i]? with
  | some r, some l => f r l
  | _, _ => z
theorem onRoad_at {α : Type} {z : α} {f : Rdp → List Pt → α} {p : Prog} {w : Wld} {i : Nat} {r : Rdp} {l : List Pt} (h : p.roads[i]? = some r) (h' : w.lets[i]? = some l) : onRoad z f p w i = f r l := by
  simp only [onRoad, h, h']
def one (b : Bool) : List Int := if b then [0] else []
def chs (p : Prog) (w : Wld) : Option St → List Int
  | none => []
  | some .stop => []
  | some (.pick ts) => (List.range' 0 ts.length).map fun i => ((i : Nat) : Int)
  | some (.begin _) => one (decide (w.hands.length < 6))
  | some (.send rd _ _) => one (onRoad false (fun r l => roomy r l.length) p w rd)
  | some (.tell rd _ _) => one (onRoad false (fun r l => roomy r l.length) p w rd)
  | some (.wait rd as) => sortI ((onRoad [] atHand p w rd).filterMap (codeK (as.map (·.1))))
  | some _ => [0]
def stepOf (p : Prog) (h : Hand) : Option St := (roleOf p h.nm).elim none fun r => r.steps[h.at_]?
def chsD (l : List Int) : D := .tup (l.map .int)
def handS : List Nat := [104, 97, 110, 100]
def loseS : List Nat := [108, 111, 115, 101]
def hmv (p : Prog) (w : Wld) (i : Nat) : List D := match w.hands[i]? with
  | some h => (chs p w (stepOf p h)).map fun c => .tup [.str handS, .int i, .int c]
  | none => []
def lmv (p : Prog) (w : Wld) (i : Nat) : List D := onRoad [] (fun r l => if r.b then (fa l).map fun j => .tup [.str loseS, .int i, .int (j : Nat)] else []) p w i
def mvs (p : Prog) (w : Wld) : List D := (List.range' 0 w.hands.length).flatMap (hmv p w) ++ (List.range' 0 p.roads.length).flatMap (lmv p w)
theorem one_len (b : Bool) : (one b).length ≤ 1 := by cases b <;> decide
theorem fa_len (l : List Pt) : (fa l).length ≤ l.length := by
  unfold fa
  have := List.length_filter_le (fun i => decide (i = 0) || decide (l[i - 1]? ≠ l[i]?)) (List.range' 0 l.length)
  simpa using this
theorem step_of {p : Prog} (nd : p.names.Nodup) {h : Hand} {r : Role} (hr : r ∈ p.roles) (e : h.nm = r.nm) : stepOf p h = r.steps[h.at_]? := by
  unfold stepOf
  rw [e, roleOf_of nd hr]; rfl
theorem chs_len {p : Prog} {kinds : List (List Nat)} (ok : ProgOk kinds p) {w : Wld} (hw : WldOk p w) {h : Hand} (hh : HandOk p h) : (chs p w (stepOf p h)).length ≤ 450 := by
  obtain ⟨r, h1, h2, h3, _, _⟩ := hh
  rw [step_of ok.nd h1 h2]
  cases hs : r.steps[h.at_]? with
  | none => exact Nat.zero_le _
  | some s =>
    have so := ok.st r h1 s (List.mem_of_getElem? hs)
    cases s with
    | stop => exact Nat.zero_le _
    | pick ts => have := so.2.1; simp [chs]; omega
    | begin _ => exact Nat.le_trans (one_len _) (by decide)
    | send _ _ _ => exact Nat.le_trans (one_len _) (by decide)
    | tell _ _ _ => exact Nat.le_trans (one_len _) (by decide)
    | wait rd as =>
      simp only [chs, sortI_len]
      refine Nat.le_trans (List.length_filterMap_le _ _) ?_
      unfold onRoad
      split
      · rename_i r l e1 e2
        exact Nat.le_trans (atHand_len r l) (hw.lo rd r l e1 e2).len
      · exact Nat.zero_le _
    | _ => exact (show (1 : Nat) ≤ 450 by decide)
theorem hmv_len {p : Prog} {kinds : List (List Nat)} (ok : ProgOk kinds p) {w : Wld} (hw : WldOk p w) (i : Nat) : (hmv p w i).length ≤ 450 := by
  unfold hmv
  split
  · rename_i h e
    rw [List.length_map]
    exact chs_len ok hw (hw.ho h (List.mem_of_getElem? e))
  · exact Nat.zero_le _
theorem lmv_len {p : Prog} {w : Wld} (hw : WldOk p w) (i : Nat) : (lmv p w i).length ≤ 450 := by
  unfold lmv onRoad
  split
  · rename_i r l e1 e2
    dsimp only
    split
    · rw [List.length_map]
      exact Nat.le_trans (fa_len l) (hw.lo i r l e1 e2).len
    · exact Nat.zero_le _
  · exact Nat.zero_le _
theorem flat_len {F : Nat → List D} {c : Nat} (h : ∀ i, (F i).length ≤ c) : ∀ (m i : Nat), ((List.range' i m).flatMap F).length ≤ c * m
  | 0, i => by simp
  | m + 1, i => by
    have := flat_len h m (i + 1)
    have := h i
    rw [List.range'_succ, List.flatMap_cons, List.length_append, Nat.mul_succ]
    omega
theorem pln_mv (s : List Nat) (i c : Int) : Pln (.tup [.str s, .int i, .int c]) 1 := pln_tup (fun x hx => by
  simp only [List.mem_cons, List.not_mem_nil, or_false] at hx
  rcases hx with rfl | rfl | rfl
  · exact .str _ _
  · exact .int _ _
  · exact .int _ _) (by simp)
theorem mvs_len {p : Prog} {kinds : List (List Nat)} (ok : ProgOk kinds p) {w : Wld} (hw : WldOk p w) : (mvs p w).length ≤ 4500 := by
  have h1 := flat_len (hmv_len ok hw) w.hands.length 0
  have h2 := flat_len (lmv_len hw) p.roads.length 0
  have := hw.hl
  have := ok.rl
  rw [mvs, List.length_append]
  omega
theorem pln_mvs {p : Prog} {kinds : List (List Nat)} (ok : ProgOk kinds p) {w : Wld} (hw : WldOk p w) : Pln (.tup (mvs p w)) 2 := by
  refine pln_tup (fun x hx => ?_) (by have := mvs_len ok hw; omega)
  rcases List.mem_append.mp hx with hx | hx
  · obtain ⟨i, _, hx⟩ := List.mem_flatMap.mp hx
    unfold hmv at hx
    split at hx
    · obtain ⟨c, _, rfl⟩ := List.mem_map.mp hx
      exact pln_mv _ _ _
    · cases hx
  · obtain ⟨i, _, hx⟩ := List.mem_flatMap.mp hx
    unfold lmv onRoad at hx
    split at hx
    · dsimp only at hx
      split at hx
      · obtain ⟨c, _, rfl⟩ := List.mem_map.mp hx
        exact pln_mv _ _ _
      · cases hx
    · cases hx
end G

/-! plain law: moves done -/
namespace G
theorem heap_len {ks : List (List Nat)} {r : Rdp} {l : List Pt} (ro : RdOk r) (lo : LoadOk ks r l) (c : r.o ≠ rowS) : l.length ≤ 3 := by
  cases e : r.m with
  | none => exact absurd (ro.w e).1 c
  | some k =>
    have := lo.most k e
    have := (ro.m k e).2
    omega
theorem sortI_mem (z : Int) : ∀ l : List Int, z ∈ sortI l ↔ z ∈ l
  | [] => by simp [sortI]
  | x :: xs => by
    have ins : ∀ l : List Int, z ∈ insI x l ↔ z = x ∨ z ∈ l := fun l => by
      induction l with
      | nil => simp [insI]
      | cons y ys ih =>
        unfold insI
        split
        · rw [List.mem_cons, ih, List.mem_cons]
          constructor
          · rintro (h | h | h)
            · exact .inr (.inl h)
            · exact .inl h
            · exact .inr (.inr h)
          · rintro (h | h | h)
            · exact .inr (.inl h)
            · exact .inl h
            · exact .inr (.inr h)
        · rw [List.mem_cons]
    show z ∈ insI x (sortI xs) ↔ _
    rw [ins, sortI_mem z xs, List.mem_cons]
theorem idx_at {α : Type} [DecidableEq α] {k : α} : ∀ {ks : List α}, k ∈ ks → ks[idx k ks]? = some k
  | [], h => (nomatch h)
  | x :: ks, h => by
    unfold idx
    split
    · rename_i e; simp [e]
    · rename_i e
      have := idx_at ((List.mem_cons.mp h).resolve_left fun z => e z.symm)
      simpa using this
theorem indexOf_ltr (q : Pt) : ∀ l : List Pt, q ∈ l → indexOf (ltr q) (l.map ltr) = some (idx q l)
  | [], h => (nomatch h)
  | x :: l, h => by
    rw [List.map_cons]
    unfold indexOf idx
    rw [eqv_ltr]
    by_cases e : x = q
    · rw [if_pos (decide_eq_true e), if_pos e]
    · rw [if_neg (by simpa using e), if_neg e, indexOf_ltr q l ((List.mem_cons.mp h).resolve_left fun z => e z.symm)]
      rfl
theorem lets_row {l : List Pt} (h : l ≠ []) : lets (l.map ltr) = true := by
  cases l with
  | nil => exact absurd rfl h
  | cons p l =>
    simp only [List.map_cons, lets, Bool.and_eq_true, List.all_eq_true]
    refine ⟨rfl, fun d hd => ?_⟩
    obtain ⟨q, _, rfl⟩ := List.mem_map.mp hd
    rfl
theorem ers_map {α β : Type} (f : α → β) : ∀ (l : List α) (j : Nat), (l.map f).eraseIdx j = (l.eraseIdx j).map f
  | [], _ => rfl
  | _ :: _, 0 => rfl
  | x :: l, j + 1 => by
    show f x :: (l.map f).eraseIdx j = f x :: (l.eraseIdx j).map f
    rw [ers_map f l j]
theorem mt_idxT {q : Pt} {l : List Pt} (h : q ∈ l) : mtD 3 (rowD l) [ltr q] = some (.int (idx q l : Nat), false) := by
  have c := (cmpable_in (f := ltr) (n := 1) (by decide) nice_ltr q l).2
  have n := lets_row (List.ne_nil_of_mem h)
  simp only [rowD, mtD, idxMD, c, n, Bool.and_self, if_true, indexOf_ltr q l h, Option.map_some]
theorem mu_rem {q : Pt} {l : List Pt} (h : q ∈ l) : muD 2 (.lst (l.map ltr)) [ltr q] = some (.non, .lst ((l.eraseIdx (idx q l)).map ltr)) := by
  have c := (cmpable_in (f := ltr) (n := 1) (by decide) nice_ltr q l).1
  simp only [muD, remD, c, if_true, indexOf_ltr q l h, Option.map_some, ers_map]

/-! ### worlds behind moves -/
def putR (r : Rdp) (l : List Pt) (q : Pt) : List Pt := if r.o = rowS then l ++ [q] else sort2 (l ++ [q])
def sentL (p : Prog) (w : Wld) (rd : Nat) (q : Pt) : List (List Pt) := onRoad w.lets (fun r l => w.lets.set rd (putR r l q)) p w rd
def nxtAt (h : Hand) (c : Int) : St → Nat
  | .pick ts => ts.getD c.toNat 0
  | .iff r n t => if h.regs.getD r 0 = n then t else h.at_ + 1
  | _ => h.at_ + 1
def nxtRegs (h : Hand) : St → List Nat
  | .set r n => h.regs.set r n
  | .add r n => h.regs.set r ((h.regs.getD r 0 + n) % 3)
  | _ => h.regs
def nxtLets (p : Prog) (w : Wld) (h : Hand) : St → List (List Pt)
  | .send rd k n => sentL p w rd (k, (n : Nat))
  | .tell rd k r => sentL p w rd (k, (h.regs.getD r 0 : Nat))
  | _ => w.lets
def nxtMore (p : Prog) : St → List Hand
  | .begin nm => [fresh p nm]
  | _ => []
def armAt (as : List Arm) (c : Int) : Arm := as.getD (c / 3).toNat ([], none, 0)
def tookRegs (h : Hand) (a : Arm) (c : Int) : List Nat := match a.2.1 with
  | none => h.regs
  | some r => h.regs.set r (c % 3).toNat
def tookH (h : Hand) (a : Arm) (c : Int) : Hand := ⟨h.nm, a.2.2, tookRegs h a c⟩
def tookQ (a : Arm) (c : Int) : Pt := (a.1, c % 3)
def tookW (w : Wld) (k : Nat) (h : Hand) (rd : Nat) (a : Arm) (c : Int) : Wld :=
  ⟨w.hands.set k (tookH h a c), w.lets.set rd ((w.lets.getD rd []).eraseIdx (idx (tookQ a c) (w.lets.getD rd [])))⟩
def stepW (p : Prog) (w : Wld) (k : Nat) (h : Hand) (c : Int) (s : St) : Wld := match s with
  | .wait rd as => tookW w k h rd (armAt as c) c
  | s => ⟨w.hands.set k ⟨h.nm, nxtAt h c s, nxtRegs h s⟩ ++ nxtMore p s, nxtLets p w h s⟩
inductive Mv where
  | hand (k : Nat) (c : Int) | lose (r i : Nat)
def mvD : Mv → D
  | .hand k c => .tup [.str handS, .int k, .int c]
  | .lose r i => .tup [.str loseS, .int r, .int (i : Nat)]
def loseW (w : Wld) (r i : Nat) : Wld := ⟨w.hands, w.lets.set r ((w.lets.getD r []).eraseIdx i)⟩
def goW (p : Prog) (w : Wld) : Mv → Wld
  | .hand k c => match w.hands[k]? with
    | some h => match stepOf p h with
      | some s => stepW p w k h c s
      | none => w
    | none => w
  | .lose r i => loseW w r i
def MvOk (p : Prog) (w : Wld) : Mv → Prop
  | .hand k c => ∃ h s, w.hands[k]? = some h ∧ stepOf p h = some s ∧ c ∈ chs p w (some s)
  | .lose r i => ∃ rd l, p.roads[r]? = some rd ∧ w.lets[r]? = some l ∧ rd.b = true ∧ i ∈ fa l
def hmvL (p : Prog) (w : Wld) (i : Nat) : List Mv := match w.hands[i]? with
  | some h => (chs p w (stepOf p h)).map fun c => .hand i c
  | none => []
def lmvL (p : Prog) (w : Wld) (i : Nat) : List Mv := onRoad [] (fun r l => if r.b then (fa l).map fun j => .lose i j else []) p w i
def mvL (p : Prog) (w : Wld) : List Mv := (List.range' 0 w.hands.length).flatMap (hmvL p w) ++ (List.range' 0 p.roads.length).flatMap (lmvL p w)
theorem mvL_eq (p : Prog) (w : Wld) : mvs p w = (mvL p w).map mvD := by
  have a : ∀ i, hmv p w i = (hmvL p w i).map mvD := fun i => by
    unfold hmv hmvL
    cases w.hands[i]? with
    | none => rfl
    | some h => simp only [List.map_map]; rfl
  have b : ∀ i, lmv p w i = (lmvL p w i).map mvD := fun i => by
    unfold lmv lmvL onRoad
    cases p.roads[i]? with
    | none => rfl
    | some r =>
      cases w.lets[i]? with
      | none => rfl
      | some l =>
        cases e : r.b with
        | false => simp [e]
        | true => simp only [e, if_true, List.map_map]; rfl
  unfold mvs mvL
  rw [List.map_append, List.map_flatMap, List.map_flatMap, funext a, funext b]
theorem mvL_ok {p : Prog} {w : Wld} {m : Mv} (h : m ∈ mvL p w) : MvOk p w m := by
  unfold mvL at h
  rcases List.mem_append.mp h with h | h
  · obtain ⟨i, _, h⟩ := List.mem_flatMap.mp h
    unfold hmvL at h
    split at h
    · rename_i hd e
      obtain ⟨c, hc, rfl⟩ := List.mem_map.mp h
      cases e2 : stepOf p hd with
      | none => rw [e2] at hc; simp [chs] at hc
      | some s => rw [e2] at hc; exact ⟨hd, s, e, e2, hc⟩
    · cases h
  · obtain ⟨i, _, h⟩ := List.mem_flatMap.mp h
    unfold lmvL onRoad at h
    split at h
    · rename_i rd l e1 e2
      dsimp only at h
      split at h
      · rename_i b
        obtain ⟨j, hj, rfl⟩ := List.mem_map.mp h
        exact ⟨rd, l, e1, e2, b, hj⟩
      · cases h
    · cases h
theorem mvL_len {p : Prog} {kinds : List (List Nat)} (ok : ProgOk kinds p) {w : Wld} (hw : WldOk p w) : (mvL p w).length ≤ 4500 := by
  have := mvs_len ok hw
  rwa [mvL_eq, List.length_map] at this
/-! ### a hand's step -/
theorem hand_role {p : Prog} {kinds : List (List Nat)} (ok : ProgOk kinds p) {h : Hand} (hh : HandOk p h) {s : St} (e : stepOf p h = some s) :
    ∃ r, r ∈ p.roles ∧ h.nm = r.nm ∧ r.steps[h.at_]? = some s ∧ h.at_ < r.steps.length ∧ h.regs.length = r.many ∧ (∀ x ∈ h.regs, x < 3) ∧ StOk p.roads.length p.names kinds r.many r.steps.length s := by
  obtain ⟨r, h1, h2, h3, h4, h5⟩ := hh
  rw [step_of ok.nd h1 h2] at e
  exact ⟨r, h1, h2, e, (List.getElem?_eq_some_iff.mp e).1, h4, h5, ok.st r h1 s (List.mem_of_getElem? e)⟩
theorem kinds_mem {p : Prog} {r : Role} {s : St} (h1 : r ∈ p.roles) (h2 : s ∈ r.steps) {k : List Nat} (h : k ∈ s.kinds) : k ∈ p.kinds := by
  unfold Prog.kinds
  exact List.mem_cons_of_mem _ (List.mem_flatMap.mpr ⟨r, h1, List.mem_flatMap.mpr ⟨s, h2, h⟩⟩)
/-- a wait's choice: the arm, the letter -/
theorem wait_c {p : Prog} {kinds : List (List Nat)} (ok : ProgOk kinds p) {w : Wld} (hw : WldOk p w) {rd : Nat} {as : List Arm} {c : Int} (hc : c ∈ chs p w (some (.wait rd as))) :
    ∃ rdp l a, p.roads[rd]? = some rdp ∧ w.lets[rd]? = some l ∧ as[(c / 3).toNat]? = some a ∧ armAt as c = a ∧ tookQ a c ∈ l ∧ 0 ≤ c ∧ c / 3 < as.length ∧ 0 ≤ c % 3 ∧ c % 3 < 3 := by
  simp only [chs] at hc
  rw [sortI_mem] at hc
  obtain ⟨q, hq, hc⟩ := List.mem_filterMap.mp hc
  unfold onRoad at hq
  split at hq
  · rename_i rdp l e1 e2
    have hm : q ∈ l := by
      unfold atHand at hq
      split at hq
      · exact List.mem_of_mem_take hq
      · exact (uq_mem l q).mp hq
    have lo := (hw.lo rd rdp l e1 e2).mem q hm
    unfold codeK at hc
    split at hc
    · rename_i hk
      cases hc
      have hi := idx_lt hk
      have ha := idx_at hk
      rw [List.length_map] at hi
      have e3 : (3 * (idx q.1 (as.map (·.1)) : Int) + q.2) / 3 = (idx q.1 (as.map (·.1)) : Nat) := by omega
      have e4 : (3 * (idx q.1 (as.map (·.1)) : Int) + q.2) % 3 = q.2 := by omega
      obtain ⟨a, ea⟩ : ∃ a, as[idx q.1 (as.map (·.1))]? = some a := ⟨_, List.getElem?_eq_getElem hi⟩
      rw [List.getElem?_map, ea, Option.map_some, Option.some.injEq] at ha
      refine ⟨rdp, l, a, e1, e2, by rw [e3]; exact ea, ?_, ?_, by omega, by omega, by omega, by omega⟩
      · unfold armAt
        rw [e3, List.getD_eq_getElem?_getD, Int.toNat_natCast, ea]; rfl
      · unfold tookQ
        rw [e4, ha]
        exact hm
    · cases hc
  · cases hq
/-! ### what stays so -/
theorem LoadOk.sub {ks : List (List Nat)} {r : Rdp} {l l' : List Pt} (lo : LoadOk ks r l) (s : l'.Sublist l) : LoadOk ks r l' :=
  ⟨Nat.le_trans s.length_le lo.len, fun k e => by have := lo.most k e; have := s.length_le; omega, fun x hx => lo.mem x (s.subset hx), fun e => up_sub s (lo.up e)⟩
theorem putR_len (r : Rdp) (l : List Pt) (q : Pt) : (putR r l q).length = l.length + 1 := by
  unfold putR
  split
  · simp
  · rw [sort2_len]; simp
theorem putR_mem {r : Rdp} {l : List Pt} {q x : Pt} (h : x ∈ putR r l q) : x ∈ l ∨ x = q := by
  unfold putR at h
  split at h
  · simpa using h
  · have := (sort2_self (l ++ [q])).mem_iff.mp h
    simpa using this
theorem LoadOk.put {ks : List (List Nat)} {r : Rdp} {l : List Pt} (lo : LoadOk ks r l) (rm : roomy r l.length = true) (hl : l.length < 450) {q : Pt} (hq : q.1 ∈ ks ∧ 0 ≤ q.2 ∧ q.2 < 3) : LoadOk ks r (putR r l q) := by
  refine ⟨by rw [putR_len]; exact hl, fun k e => ?_, fun x hx => ?_, fun e => ?_⟩
  · unfold roomy at rm
    rw [e] at rm
    have := of_decide_eq_true rm
    rw [putR_len]; omega
  · rcases putR_mem hx with h | rfl
    · exact lo.mem x h
    · exact hq
  · unfold putR
    rw [if_neg (by rw [e]; decide)]
    exact sort2_up _
theorem WldOk.letsSet {p : Prog} {w : Wld} (hw : WldOk p w) {rd : Nat} {r : Rdp} {l' : List Pt} (er : p.roads[rd]? = some r) (lo : LoadOk p.kinds r l') : WldOk p ⟨w.hands, w.lets.set rd l'⟩ := by
  refine ⟨hw.hl, hw.ho, by rw [List.length_set]; exact hw.ll, fun i r2 l2 e1 e2 => ?_⟩
  by_cases h : rd = i
  · subst h
    rw [er] at e1; cases e1
    have hi := (List.getElem?_eq_some_iff.mp e2).1
    rw [List.length_set] at hi
    rw [List.getElem?_set_self hi] at e2; cases e2
    exact lo
  · rw [List.getElem?_set_ne h] at e2
    exact hw.lo i r2 l2 e1 e2
theorem WldOk.handsSet {p : Prog} {w : Wld} (hw : WldOk p w) (k : Nat) {h : Hand} (hh : HandOk p h) : WldOk p ⟨w.hands.set k h, w.lets⟩ :=
  ⟨by rw [List.length_set]; exact hw.hl, fun x hx => (mem_set hx).elim (fun e => e ▸ hh) fun h => hw.ho x h, hw.ll, hw.lo⟩
theorem WldOk.handsMore {p : Prog} {w : Wld} (hw : WldOk p w) (h6 : w.hands.length < 6) {h : Hand} (hh : HandOk p h) : WldOk p ⟨w.hands ++ [h], w.lets⟩ :=
  ⟨by have := hw.hl; simp; omega, fun x hx => (List.mem_append.mp hx).elim (fun h => hw.ho x h) fun h => by rw [List.mem_singleton.mp h]; exact hh, hw.ll, hw.lo⟩
def LensB (B : Nat) (w : Wld) : Prop := ∀ l ∈ w.lets, l.length ≤ B
theorem LensB.set {B : Nat} {ls : List (List Pt)} {l : List Pt} {rd : Nat} (h : ∀ l ∈ ls, l.length ≤ B) (hl : l.length ≤ B + 1) : ∀ x ∈ ls.set rd l, x.length ≤ B + 1 := fun x hx => (mem_set hx).elim (fun e => e ▸ hl) fun h' => Nat.le_succ_of_le (h x h')
theorem sent_room {p : Prog} {w : Wld} {rd : Nat} {c : Int} (h : c ∈ one (onRoad false (fun r l => roomy r l.length) p w rd)) : ∃ r l, p.roads[rd]? = some r ∧ w.lets[rd]? = some l ∧ roomy r l.length = true := by
  unfold onRoad at h
  split at h
  · rename_i r l e1 e2
    refine ⟨r, l, e1, e2, ?_⟩
    by_cases q : roomy r l.length = true
    · exact q
    · simp [q, one] at h
  · simp [one] at h
theorem regs_lt {rs : List Nat} (h : ∀ x ∈ rs, x < 3) (i : Nat) : rs.getD i 0 < 3 := by
  rw [List.getD_eq_getElem?_getD]
  cases e : rs[i]? with
  | none => decide
  | some x => exact h x (List.mem_of_getElem? e)
theorem go_ok {p : Prog} {kinds : List (List Nat)} (ok : ProgOk kinds p) {w : Wld} (hw : WldOk p w) {B : Nat} (hB : LensB B w) (hB2 : B < 450) {m : Mv} (hm : MvOk p w m) : WldOk p (goW p w m) ∧ LensB (B + 1) (goW p w m) := by
  cases m with
  | lose r i =>
    obtain ⟨rd, l, e1, e2, _, hi⟩ := hm
    have eg : w.lets.getD r [] = l := by rw [List.getD_eq_getElem?_getD, e2]; rfl
    simp only [goW, loseW, eg]
    have s := List.eraseIdx_sublist l i
    refine ⟨hw.letsSet e1 ((hw.lo r rd l e1 e2).sub s), LensB.set hB ?_⟩
    have := hB l (List.mem_of_getElem? e2)
    have := s.length_le
    omega
  | hand k c =>
    obtain ⟨h, s, e1, e2, hc⟩ := hm
    have hh := hw.ho h (List.mem_of_getElem? e1)
    obtain ⟨r, r1, r2, r3, r4, r5, r6, so⟩ := hand_role ok hh e2
    simp only [goW, e1, e2]
    have sub : LensB (B + 1) w := fun l hl => Nat.le_succ_of_le (hB l hl)
    -- a hand further on
    have mk : ∀ (t : Nat) (rs : List Nat), t ≤ r.steps.length → rs.length = r.many → (∀ x ∈ rs, x < 3) → HandOk p ⟨h.nm, t, rs⟩ := fun t rs a b c => ⟨r, r1, r2, a, b, c⟩
    have sent : ∀ (rd : Nat) (kd : List Nat) (n : Nat), kd ∈ s.kinds → n < 3 → c ∈ one (onRoad false (fun r l => roomy r l.length) p w rd) → WldOk p ⟨w.hands.set k ⟨h.nm, h.at_ + 1, h.regs⟩, sentL p w rd (kd, (n : Nat))⟩ ∧ LensB (B + 1) ⟨w.hands.set k ⟨h.nm, h.at_ + 1, h.regs⟩, sentL p w rd (kd, (n : Nat))⟩ := fun rd kd n hk hn hc => by
      obtain ⟨rr, l, q1, q2, q3⟩ := sent_room hc
      unfold sentL
      rw [onRoad_at q1 q2]
      have hl := hB l (List.mem_of_getElem? q2)
      refine ⟨(hw.handsSet k (mk _ _ r4 r5 r6)).letsSet q1 ((hw.lo rd rr l q1 q2).put q3 (by omega) ⟨kinds_mem r1 (List.mem_of_getElem? r3) hk, by simp, by simp; omega⟩), LensB.set hB ?_⟩
      rw [putR_len]; omega
    cases s with
    | set a b =>
      refine ⟨?_, fun l hl => sub l hl⟩
      simp only [stepW, nxtMore, List.append_nil]
      exact hw.handsSet k (mk _ _ r4 (by simpa [nxtRegs] using r5) fun x hx => (mem_set hx).elim (fun e => e ▸ so.2) (r6 x))
    | add a b =>
      refine ⟨?_, fun l hl => sub l hl⟩
      simp only [stepW, nxtMore, List.append_nil]
      exact hw.handsSet k (mk _ _ r4 (by simpa [nxtRegs] using r5) fun x hx => (mem_set hx).elim (fun e => e ▸ Nat.mod_lt _ (by decide)) (r6 x))
    | iff a b t =>
      refine ⟨?_, fun l hl => sub l hl⟩
      simp only [stepW, nxtMore, List.append_nil]
      refine hw.handsSet k (mk _ _ ?_ r5 r6)
      simp only [nxtAt]
      split
      · exact so.2.2
      · exact r4
    | pick ts =>
      refine ⟨?_, fun l hl => sub l hl⟩
      simp only [stepW, nxtMore, List.append_nil]
      refine hw.handsSet k (mk _ _ ?_ r5 r6)
      simp only [nxtAt]
      rw [List.getD_eq_getElem?_getD]
      cases e : ts[c.toNat]? with
      | none => exact Nat.zero_le _
      | some t => exact so.2.2.2 t (List.mem_of_getElem? e)
    | send rd kd n => simp only [stepW, nxtMore, List.append_nil]; exact sent rd kd n (by simp [St.kinds]) so.2.2 hc
    | tell rd kd a => simp only [stepW, nxtMore, List.append_nil]; exact sent rd kd _ (by simp [St.kinds]) (regs_lt r6 a) hc
    | begin nm =>
      refine ⟨?_, fun l hl => sub l hl⟩
      simp only [stepW, nxtMore]
      refine (hw.handsSet k (mk _ _ r4 r5 r6)).handsMore ?_ (fresh_ok ok so)
      have : c ∈ one (decide (w.hands.length < 6)) := hc
      rw [List.length_set]
      by_cases z : w.hands.length < 6
      · exact z
      · rw [decide_eq_false z] at this; simp [one] at this
    | stop => simp [chs] at hc
    | wait rd as =>
      obtain ⟨rdp, l, a, q1, q2, q3, q4, q5, _, _, q6, q7⟩ := wait_c ok hw hc
      have ao := so.2.2.2.2 a (List.mem_of_getElem? q3)
      have eg : w.lets.getD rd [] = l := by rw [List.getD_eq_getElem?_getD, q2]; rfl
      simp only [stepW, tookW, q4, eg]
      have s := List.eraseIdx_sublist l (idx (tookQ a c) l)
      refine ⟨(hw.handsSet k (h := tookH h a c) ?_).letsSet q1 ((hw.lo rd rdp l q1 q2).sub s), LensB.set hB ?_⟩
      · refine mk _ _ ao.t ?_ ?_
        · unfold tookRegs; split <;> simp [r5]
        · unfold tookRegs
          split
          · exact r6
          · exact fun x hx => (mem_set hx).elim (fun e => e ▸ by omega) (r6 x)
      · have := hB l (List.mem_of_getElem? q2)
        have := s.length_le
        omega
/-! ### runs -/
def endW (p : Prog) : Wld → List Mv → Wld
  | w, [] => w
  | w, m :: ms => endW p (goW p w m) ms
def wlds (p : Prog) : Wld → List Mv → List Wld
  | w, [] => [w]
  | w, m :: ms => w :: wlds p (goW p w m) ms
def RunOk (p : Prog) : Wld → List Mv → Prop
  | _, [] => True
  | w, m :: ms => m ∈ mvL p w ∧ RunOk p (goW p w m) ms
section
variable {p : Prog}
theorem endW_app : ∀ (ms ns : List Mv) (w : Wld), endW p w (ms ++ ns) = endW p (endW p w ms) ns
  | [], _, _ => rfl
  | m :: ms, ns, w => endW_app ms ns (goW p w m)
theorem endW_snoc (ms : List Mv) (m : Mv) (w : Wld) : endW p w (ms ++ [m]) = goW p (endW p w ms) m := endW_app ms [m] w
theorem wlds_snoc (m : Mv) : ∀ (ms : List Mv) (w : Wld), wlds p w (ms ++ [m]) = wlds p w ms ++ [goW p (endW p w ms) m]
  | [], _ => rfl
  | m' :: ms, w => by
    show w :: wlds p (goW p w m') (ms ++ [m]) = w :: (wlds p (goW p w m') ms ++ [goW p (endW p (goW p w m') ms) m])
    rw [wlds_snoc m ms]
theorem run_snoc (m : Mv) : ∀ (ms : List Mv) (w : Wld), RunOk p w (ms ++ [m]) ↔ RunOk p w ms ∧ m ∈ mvL p (endW p w ms)
  | [], w => by simp [RunOk, endW]
  | m' :: ms, w => by
    show (m' ∈ mvL p w ∧ RunOk p (goW p w m') (ms ++ [m])) ↔ (m' ∈ mvL p w ∧ RunOk p (goW p w m') ms) ∧ m ∈ mvL p (endW p (goW p w m') ms)
    rw [run_snoc m ms, and_assoc]
theorem wlds_len : ∀ (ms : List Mv) (w : Wld), (wlds p w ms).length = ms.length + 1
  | [], _ => rfl
  | m :: ms, w => by simp [wlds, wlds_len ms]
theorem wlds_at : ∀ (ms : List Mv) (w : Wld) (i : Nat), i ≤ ms.length → (wlds p w ms)[i]? = some (endW p w (ms.take i))
  | [], w, i, h => by
    have : i = 0 := by simpa using h
    subst this; rfl
  | m :: ms, w, 0, _ => rfl
  | m :: ms, w, i + 1, h => by
    have := wlds_at ms (goW p w m) i (by simpa using h)
    simpa [wlds, endW] using this
theorem run_at : ∀ {ms : List Mv} {w : Wld} {i : Nat} {m : Mv}, RunOk p w ms → ms[i]? = some m → m ∈ mvL p (endW p w (ms.take i))
  | [], _, _, _, _, h => by simp at h
  | m :: ms, w, 0, m', r, h => by
    simp at h
    subst h
    exact r.1
  | m :: ms, w, i + 1, m', r, h => by
    have := run_at r.2 (i := i) (m := m') (by simpa using h)
    simpa [endW] using this
theorem run_take : ∀ {ms : List Mv} {w : Wld} (i : Nat), RunOk p w ms → RunOk p w (ms.take i)
  | _, _, 0, _ => trivial
  | [], _, _ + 1, _ => trivial
  | m :: ms, w, i + 1, r => ⟨r.1, run_take i r.2⟩
theorem run_ok {kinds : List (List Nat)} (ok : ProgOk kinds p) : ∀ {ms : List Mv} {w : Wld} {B : Nat}, WldOk p w → LensB B w → B + ms.length ≤ 450 → RunOk p w ms → WldOk p (endW p w ms) ∧ LensB (B + ms.length) (endW p w ms)
  | [], w, B, hw, hB, _, _ => ⟨hw, hB⟩
  | m :: ms, w, B, hw, hB, h, r => by
    simp only [List.length_cons] at h
    obtain ⟨h1, h2⟩ := go_ok ok hw hB (by omega) (mvL_ok r.1)
    have := run_ok ok h1 h2 (by omega) r.2
    refine ⟨this.1, ?_⟩
    have e : B + (m :: ms).length = B + 1 + ms.length := by simp; omega
    rw [e]; exact this.2
theorem wlds_ok {kinds : List (List Nat)} (ok : ProgOk kinds p) : ∀ {ms : List Mv} {w : Wld} {B : Nat}, WldOk p w → LensB B w → B + ms.length ≤ 450 → RunOk p w ms → ∀ x ∈ wlds p w ms, WldOk p x
  | [], w, B, hw, hB, _, _, x, hx => by
    rw [List.mem_singleton.mp hx]; exact hw
  | m :: ms, w, B, hw, hB, h, r, x, hx => by
    simp only [List.length_cons] at h
    rcases List.mem_cons.mp hx with rfl | hx
    · exact hw
    · obtain ⟨h1, h2⟩ := go_ok ok hw hB (by omega) (mvL_ok r.1)
      exact wlds_ok ok h1 h2 (by omega) r.2 x hx
theorem start_lens : LensB 0 (startW p) := fun l hl => by
  obtain ⟨_, _, rfl⟩ := List.mem_map.mp hl
  exact Nat.le_refl _
end
theorem ne_nil_t (xs : List D) (h : pl (.tup xs) = true) (d : dep (.tup xs) ≤ 60) : cmpD .NotEq (.tup xs) (.tup []) = some (!xs.isEmpty) := by
  have c : cmpable (.tup xs) (.tup []) = true := cmpable_of h rfl d (by decide)
  simp only [cmpD, eqC, c, if_true, Option.map_some]
  cases xs <;> simp [eqv, eqvL]
theorem ix_last {xs : List D} {d : D} (h : xs[xs.length - 1]? = some d) (hl : 0 < xs.length) : ixD (.lst xs) (.int (-1)) = some d := by
  simp only [ixD, ixn]
  rw [if_neg (by decide), if_pos (by omega)]
  rw [show ((-1 : Int) + (xs.length : Nat)).toNat = xs.length - 1 by omega]
  exact h
/-! ### figures -/
theorem strI_len {i : Nat} (h : i < 100) : (strI i).length ≤ 3 := by
  have : ∀ i : Fin 100, (strI ((i : Nat) : Int)).length ≤ 3 := by decide +kernel
  exact this ⟨i, h⟩
theorem str_nat {i : Nat} (h : i < 100) : biD .str [.int (i : Nat)] = some (.str (strI i), false) := by
  have l := strI_len h
  have g : (i : Int).natAbs.log2 < 1900 := by
    rw [Int.natAbs_natCast]
    by_cases z : i = 0
    · subst z; decide
    · have : i < 2 ^ 7 := by omega
      have := (Nat.log2_lt z).mpr this
      omega
  have e : line = 16777216 := rfl
  simp only [biD, strD]
  rw [if_pos ⟨g, by omega⟩]
end G

/-! plain law: what holds no exception -/
namespace G
theorem noInsL_map {α : Type} {f : α → D} : ∀ {l : List α}, (∀ a ∈ l, noIns (f a) = true) → noInsL (l.map f) = true
  | [], _ => rfl
  | a :: l, h => by
    simp only [List.map_cons, noInsL, Bool.and_eq_true]
    exact ⟨h a List.mem_cons_self, noInsL_map fun b hb => h b (List.mem_cons_of_mem _ hb)⟩
theorem noIns_ltr (p : Pt) : noIns (ltr p) = true := rfl
theorem noIns_row (l : List Pt) : noIns (rowD l) = true := by
  simp only [rowD, noIns_tup]
  exact noInsL_map fun p _ => noIns_ltr p
theorem noIns_rd (r : Rdp) : noIns (rdD r) = true := by
  unfold rdD mD
  cases r.m <;> rfl
theorem noIns_arm (a : Arm) : noIns (armD a) = true := by
  unfold armD oD
  cases a.2.1 <;> rfl
theorem noIns_st (s : St) : noIns (stD s) = true := by
  cases s with
  | pick ts => simpa [stD, noInsL, noIns] using noInsL_map (l := ts) fun a _ => (rfl : noIns (.int (a : Nat)) = true)
  | wait rd as => simpa [stD, noInsL, noIns] using noInsL_map (l := as) fun a _ => noIns_arm a
  | _ => rfl
theorem noIns_role (r : Role) : noIns (roleD r) = true := by
  simpa [roleD] using noInsL_map (l := r.steps) fun a _ => noIns_st a
theorem noIns_prog (p : Prog) : noIns (progD p) = true := by
  simp only [progD, noIns_tup, noInsL_cons, noInsL_nil, Bool.and_true, Bool.and_eq_true]
  exact ⟨noInsL_map fun a _ => noIns_rd a, noInsL_map fun a _ => noIns_role a, noInsL_map fun a _ => noIns_str a⟩
theorem noIns_hand (h : Hand) : noIns (handD h) = true := by
  simp only [handD, noIns_tup, noInsL_cons, noInsL_nil, Bool.and_true, noIns_str, noIns_int, Bool.true_and]
  exact noInsL_map fun a _ => noIns_int _
theorem noIns_wld (w : Wld) : noIns (wldD w) = true := by
  simp only [wldD, noIns_tup, noInsL_cons, noInsL_nil, Bool.and_true, Bool.and_eq_true]
  exact ⟨noInsL_map fun a _ => noIns_hand a, noInsL_map fun a _ => noIns_row a⟩
theorem noIns_mv (m : Mv) : noIns (mvD m) = true := by cases m <;> rfl
abbrev dueS : List Nat := [100, 117, 101]
end G

/-! plain law: claims as data -/
namespace G
inductive Cl where
  | at_ (nm : List Nat) (i j : Int)
  | has (nm : List Nat) (i j k : Int)
  | on (r : Int) (k : List Nat) (n : Int)
  | no (c : Cl)
  | an (cs : List Cl)
  | oc (cs : List Cl)
  deriving Inhabited
abbrev atS : List Nat := [97, 116]
abbrev hasS : List Nat := [104, 97, 115]
abbrev onS : List Nat := [111, 110]
abbrev notS : List Nat := [110, 111, 116]
abbrev andS : List Nat := [97, 110, 100]
abbrev orS : List Nat := [111, 114]
mutual
def clD : Cl → D
  | .at_ nm i j => .tup [.str atS, .str nm, .int i, .int j]
  | .has nm i j k => .tup [.str hasS, .str nm, .int i, .int j, .int k]
  | .on r k n => .tup [.str onS, .int r, .str k, .int n]
  | .no c => .tup [.str notS, clD c]
  | .an cs => .tup (.str andS :: clsD cs)
  | .oc cs => .tup (.str orS :: clsD cs)
def clsD : List Cl → List D
  | [] => []
  | c :: cs => clD c :: clsD cs
end
theorem clsD_map : ∀ cs : List Cl, clsD cs = cs.map clD
  | [] => rfl
  | c :: cs => by simp only [clsD, List.map_cons, clsD_map cs]
def Cl.w : Cl → List Nat
  | .at_ _ _ _ => atS
  | .has _ _ _ _ => hasS
  | .on _ _ _ => onS
  | .no _ => notS
  | .an _ => andS
  | .oc _ => orS
def Cl.ps : Cl → List D
  | .at_ nm i j => [.str nm, .int i, .int j]
  | .has nm i j k => [.str nm, .int i, .int j, .int k]
  | .on r k n => [.int r, .str k, .int n]
  | .no c => [clD c]
  | .an cs => clsD cs
  | .oc cs => clsD cs
/-- the parts that are claims -/
def Cl.sub : Cl → List Cl
  | .no c => [c]
  | .an cs => cs
  | .oc cs => cs
  | _ => []
theorem clD_eq (c : Cl) : clD c = .tup (.str c.w :: c.ps) := by cases c <;> rw [clD] <;> rfl
mutual
def ht : Cl → Nat
  | .no c => ht c + 1
  | .an cs => hts cs + 1
  | .oc cs => hts cs + 1
  | _ => 0
def hts : List Cl → Nat
  | [] => 0
  | c :: cs => max (ht c) (hts cs)
end
theorem ht_mem : ∀ {cs : List Cl} {c : Cl}, c ∈ cs → ht c ≤ hts cs
  | x :: xs, c, h => by
    rcases List.mem_cons.mp h with rfl | h
    · simp only [hts]; omega
    · have := ht_mem h
      simp only [hts]; omega
theorem hts_le {n : Nat} : ∀ {cs : List Cl}, (∀ c ∈ cs, ht c ≤ n) → hts cs ≤ n
  | [], _ => Nat.zero_le _
  | x :: xs, h => by
    have a := h x List.mem_cons_self
    have b := hts_le fun c hc => h c (List.mem_cons_of_mem _ hc)
    simp only [hts]; omega
mutual
def ons : Cl → Nat
  | .on _ _ _ => 1
  | .no c => ons c
  | .an cs => onss cs
  | .oc cs => onss cs
  | _ => 0
def onss : List Cl → Nat
  | [] => 0
  | c :: cs => ons c + onss cs
end
theorem onss_map : ∀ cs : List Cl, onss cs = (cs.map ons).sum
  | [] => rfl
  | c :: cs => by simp only [onss, List.map_cons, List.sum_cons, onss_map cs]
mutual
def grw : Cl → Bool
  | .no c => decide (ons c = 0)
  | .an cs => grws cs
  | .oc cs => grws cs
  | _ => true
def grws : List Cl → Bool
  | [] => true
  | c :: cs => grw c && grws cs
end
theorem grws_map : ∀ cs : List Cl, grws cs = (cs.map grw).all id
  | [] => rfl
  | c :: cs => by simp only [grws, List.map_cons, List.all_cons, id, grws_map cs]
mutual
/-- every on's state: d at the top, true beneath a not -/
def ben : Cl → Bool → Bool
  | .on _ _ _, d => d
  | .no c, _ => ben c true
  | .an cs, d => bens cs d
  | .oc cs, d => bens cs d
  | _, _ => false
def bens : List Cl → Bool → Bool
  | [], _ => false
  | c :: cs, d => ben c d || bens cs d
end
theorem bens_map (d : Bool) : ∀ cs : List Cl, bens cs d = cs.any fun c => ben c d
  | [] => rfl
  | c :: cs => by simp only [bens, List.any_cons, bens_map d cs]
mutual
theorem ben_true : ∀ c : Cl, ben c true = decide (ons c ≠ 0)
  | .at_ _ _ _ => by simp [ben, ons]
  | .has _ _ _ _ => by simp [ben, ons]
  | .on _ _ _ => by simp [ben, ons]
  | .no c => by simp only [ben, ons]; exact ben_true c
  | .an cs => by simp only [ben, ons]; exact bens_true cs
  | .oc cs => by simp only [ben, ons]; exact bens_true cs
theorem bens_true : ∀ cs : List Cl, bens cs true = decide (onss cs ≠ 0)
  | [] => by simp [bens, onss]
  | c :: cs => by
    simp only [bens, onss, ben_true c, bens_true cs]
    by_cases h : ons c = 0 <;> by_cases h' : onss cs = 0 <;> simp [h, h']
end
mutual
theorem grw_ben : ∀ c : Cl, grw c = !ben c false
  | .at_ _ _ _ => rfl
  | .has _ _ _ _ => rfl
  | .on _ _ _ => rfl
  | .no c => by
    simp only [grw, ben, ben_true c]
    rw [Bool.eq_iff_iff]
    simp
  | .an cs => by simp only [grw, ben]; exact grws_ben cs
  | .oc cs => by simp only [grw, ben]; exact grws_ben cs
theorem grws_ben : ∀ cs : List Cl, grws cs = !bens cs false
  | [] => rfl
  | c :: cs => by simp only [grws, bens, grw_ben c, grws_ben cs, Bool.not_or]
end
/-! of a program -/
mutual
def ClOk (p : Prog) : Cl → Prop
  | .at_ nm i j => (∃ r ∈ p.roles, nm = r.nm ∧ 0 ≤ i ∧ i ≤ r.steps.length) ∧ 1 ≤ j ∧ j ≤ 6
  | .has nm i j k => (∃ r ∈ p.roles, nm = r.nm ∧ 0 ≤ i ∧ i < r.many) ∧ (0 ≤ j ∧ j ≤ 2) ∧ 1 ≤ k ∧ k ≤ 6
  | .on r k n => (0 ≤ r ∧ r < p.roads.length) ∧ WordOk k ∧ 1 ≤ n ∧ n ≤ 2
  | .no c => ClOk p c
  | .an cs => (1 ≤ cs.length ∧ cs.length ≤ 4) ∧ ClsOk p cs
  | .oc cs => (1 ≤ cs.length ∧ cs.length ≤ 4) ∧ ClsOk p cs
def ClsOk (p : Prog) : List Cl → Prop
  | [] => True
  | c :: cs => ClOk p c ∧ ClsOk p cs
end
theorem clsOk_iff {p : Prog} : ∀ {cs : List Cl}, ClsOk p cs ↔ ∀ c ∈ cs, ClOk p c
  | [] => by simp [ClsOk]
  | c :: cs => by simp only [ClsOk, List.mem_cons, forall_eq_or_imp, clsOk_iff]
/-! with an on twice at most -/
mutual
/-- the claim with ons beyond the second put otherwise; how many ons were met -/
def few (q : Cl) : Cl → Nat → Cl × Nat
  | .on r k n, m => (if m + 1 > 2 then q else .on r k n, m + 1)
  | .no c, m => (.no (few q c m).1, (few q c m).2)
  | .an cs, m => (.an (fews q cs m).1, (fews q cs m).2)
  | .oc cs, m => (.oc (fews q cs m).1, (fews q cs m).2)
  | c, m => (c, m)
def fews (q : Cl) : List Cl → Nat → List Cl × Nat
  | [], m => ([], m)
  | c :: cs, m => ((few q c m).1 :: (fews q cs (few q c m).2).1, (fews q cs (few q c m).2).2)
end
theorem fews_len (q : Cl) : ∀ (cs : List Cl) (m : Nat), (fews q cs m).1.length = cs.length
  | [], _ => rfl
  | c :: cs, m => by simp only [fews, List.length_cons, fews_len q cs]
mutual
theorem few_ons {q : Cl} (hq : ons q = 0) : ∀ (c : Cl) (m : Nat), ons (few q c m).1 + min m 2 = min (few q c m).2 2 ∧ m ≤ (few q c m).2
  | .at_ _ _ _, m => by simp [few, ons]
  | .has _ _ _ _, m => by simp [few, ons]
  | .on _ _ _, m => by
    simp only [few]
    split
    · rw [hq]; omega
    · simp only [ons]; omega
  | .no c, m => by simpa only [few, ons] using few_ons hq c m
  | .an cs, m => by simpa only [few, ons] using fews_ons hq cs m
  | .oc cs, m => by simpa only [few, ons] using fews_ons hq cs m
theorem fews_ons {q : Cl} (hq : ons q = 0) : ∀ (cs : List Cl) (m : Nat), onss (fews q cs m).1 + min m 2 = min (fews q cs m).2 2 ∧ m ≤ (fews q cs m).2
  | [], m => by simp [fews, onss]
  | c :: cs, m => by
    have a := few_ons hq c m
    have b := fews_ons hq cs (few q c m).2
    simp only [fews, onss]
    omega
end
mutual
theorem few_ht {q : Cl} (hq : ht q = 0) : ∀ (c : Cl) (m : Nat), ht (few q c m).1 = ht c
  | .at_ _ _ _, m => rfl
  | .has _ _ _ _, m => rfl
  | .on _ _ _, m => by
    simp only [few]
    split
    · rw [hq]; rfl
    · rfl
  | .no c, m => by simp only [few, ht, few_ht hq c m]
  | .an cs, m => by simp only [few, ht, fews_ht hq cs m]
  | .oc cs, m => by simp only [few, ht, fews_ht hq cs m]
theorem fews_ht {q : Cl} (hq : ht q = 0) : ∀ (cs : List Cl) (m : Nat), hts (fews q cs m).1 = hts cs
  | [], m => rfl
  | c :: cs, m => by simp only [fews, hts, few_ht hq c m, fews_ht hq cs]
end
mutual
theorem few_ok {p : Prog} {q : Cl} (hq : ClOk p q) : ∀ (c : Cl) (m : Nat), ClOk p c → ClOk p (few q c m).1
  | .at_ _ _ _, m, h => h
  | .has _ _ _ _, m, h => h
  | .on _ _ _, m, h => by
    simp only [few]
    split
    · exact hq
    · exact h
  | .no c, m, h => by
    simp only [few, ClOk] at h ⊢
    exact few_ok hq c m h
  | .an cs, m, h => by
    simp only [few, ClOk, fews_len] at h ⊢
    exact ⟨h.1, fews_ok hq cs m h.2⟩
  | .oc cs, m, h => by
    simp only [few, ClOk, fews_len] at h ⊢
    exact ⟨h.1, fews_ok hq cs m h.2⟩
theorem fews_ok {p : Prog} {q : Cl} (hq : ClOk p q) : ∀ (cs : List Cl) (m : Nat), ClsOk p cs → ClsOk p (fews q cs m).1
  | [], m, h => h
  | c :: cs, m, h => by
    simp only [fews, ClsOk] at h ⊢
    exact ⟨few_ok hq c m h.1, fews_ok hq cs _ h.2⟩
end
/-! few parts -/
mutual
def ClAr : Cl → Prop
  | .no c => ClAr c
  | .an cs => (1 ≤ cs.length ∧ cs.length ≤ 10) ∧ ClsAr cs
  | .oc cs => (1 ≤ cs.length ∧ cs.length ≤ 10) ∧ ClsAr cs
  | _ => True
def ClsAr : List Cl → Prop
  | [] => True
  | c :: cs => ClAr c ∧ ClsAr cs
end
theorem clsAr_iff : ∀ {cs : List Cl}, ClsAr cs ↔ ∀ c ∈ cs, ClAr c
  | [] => by simp [ClsAr]
  | c :: cs => by simp only [ClsAr, List.mem_cons, forall_eq_or_imp, clsAr_iff]
mutual
theorem ar_of_ok {p : Prog} : ∀ {c : Cl}, ClOk p c → ClAr c
  | .at_ _ _ _, _ => by simp [ClAr]
  | .has _ _ _ _, _ => by simp [ClAr]
  | .on _ _ _, _ => by simp [ClAr]
  | .no c, h => by
    simp only [ClOk, ClAr] at h ⊢
    exact ar_of_ok h
  | .an cs, h => by
    simp only [ClOk, ClAr] at h ⊢
    exact ⟨by omega, ars_of_ok h.2⟩
  | .oc cs, h => by
    simp only [ClOk, ClAr] at h ⊢
    exact ⟨by omega, ars_of_ok h.2⟩
theorem ars_of_ok {p : Prog} : ∀ {cs : List Cl}, ClsOk p cs → ClsAr cs
  | [], _ => trivial
  | c :: cs, h => by
    simp only [ClsOk, ClsAr] at h ⊢
    exact ⟨ar_of_ok h.1, ars_of_ok h.2⟩
end
mutual
theorem ons_le {p : Prog} : ∀ {c : Cl} {h : Nat}, ClOk p c → ht c ≤ h → ons c ≤ 4 ^ h
  | .at_ _ _ _, h, _, _ => by simp [ons]
  | .has _ _ _ _, h, _, _ => by simp [ons]
  | .on _ _ _, h, _, _ => by simp only [ons]; exact Nat.pos_of_ne_zero (by simp)
  | .no c, 0, _, e => by simp [ht] at e
  | .no c, h + 1, o, e => by
    simp only [ht, ons, ClOk] at *
    have := ons_le (h := h) o (by omega)
    rw [Nat.pow_succ]; omega
  | .an cs, 0, _, e => by simp [ht] at e
  | .an cs, h + 1, o, e => by
    simp only [ht, ons, ClOk] at *
    have := onss_le (h := h) o.2 (by omega)
    have z : cs.length * 4 ^ h ≤ 4 * 4 ^ h := Nat.mul_le_mul_right _ o.1.2
    rw [Nat.pow_succ]; omega
  | .oc cs, 0, _, e => by simp [ht] at e
  | .oc cs, h + 1, o, e => by
    simp only [ht, ons, ClOk] at *
    have := onss_le (h := h) o.2 (by omega)
    have z : cs.length * 4 ^ h ≤ 4 * 4 ^ h := Nat.mul_le_mul_right _ o.1.2
    rw [Nat.pow_succ]; omega
theorem onss_le {p : Prog} : ∀ {cs : List Cl} {h : Nat}, ClsOk p cs → hts cs ≤ h → onss cs ≤ cs.length * 4 ^ h
  | [], h, _, _ => by simp [onss]
  | c :: cs, h, o, e => by
    simp only [hts, onss, ClsOk] at *
    have a := ons_le (h := h) o.1 (by omega)
    have b := onss_le (h := h) o.2 (by omega)
    rw [List.length_cons, Nat.succ_mul]; omega
end
mutual
theorem few_cnt {q : Cl} : ∀ (c : Cl) (m : Nat), (few q c m).2 = m + ons c
  | .at_ _ _ _, m => rfl
  | .has _ _ _ _, m => rfl
  | .on _ _ _, m => rfl
  | .no c, m => by simp only [few, ons, few_cnt c m]
  | .an cs, m => by simp only [few, ons, fews_cnt cs m]
  | .oc cs, m => by simp only [few, ons, fews_cnt cs m]
theorem fews_cnt {q : Cl} : ∀ (cs : List Cl) (m : Nat), (fews q cs m).2 = m + onss cs
  | [], m => rfl
  | c :: cs, m => by simp only [fews, onss, few_cnt c m, fews_cnt cs]; omega
end
theorem cut1 (x : D) (l : List D) : cut (x :: l) (some 1) none = l := by
  have b : bnd (x :: l).length 0 (some 1) = 1 := by
    simp only [bnd, List.length_cons]
    rw [if_neg (by omega)]
    omega
  unfold cut
  rw [b, show bnd (x :: l).length (x :: l).length none = (x :: l).length from rfl]
  simp
theorem cut01 (x : D) (l : List D) : cut (x :: l) none (some 1) = [x] := by
  have b : bnd (x :: l).length (x :: l).length (some 1) = 1 := by
    simp only [bnd, List.length_cons]
    rw [if_neg (by omega)]
    omega
  unfold cut
  rw [b, show bnd (x :: l).length 0 none = 0 from rfl]
  simp
theorem rep_one (d : D) : ∀ n : Nat, rep n [d] = List.replicate n d
  | 0 => rfl
  | n + 1 => by
    have := rep_one d n
    unfold rep at this ⊢
    rw [List.replicate_succ, List.flatten_cons, this, List.replicate_succ]; rfl
/-- one thing, many times -/
theorem mul_one_lst (d : D) {k : Int} (h : 0 ≤ k) (h' : k ≤ 1000) : binD .Mult (.lst [d]) (.int k) = some (.lst (List.replicate k.toNat d), true) := by
  have e : line = 16777216 := rfl
  simp only [binD, mulD]
  rw [if_pos ⟨by simp; omega, by omega, by omega⟩, rep_one]
theorem pop0 {α : Type} (f : α → D) (x : α) (xs : List α) : muD 4 (.lst ((x :: xs).map f)) [.int 0] = some (f x, .lst (xs.map f)) := by
  have : (0 : Int) < (xs.length : Int) + 1 := by omega
  simp [muD, popD, ixn, this]
@[simp] theorem callRf_plain (d : D) (fr : Bool) (o : D) (ρ : En) : callRf (.ok d fr [o]) [] [] ρ = .ok (d, fr, ρ) := rfl
end G

namespace G.K35
open G
open PySem
/- ons_in(claim): 0 claim, 1 part -/
def s0_1 : Sm := .ret (.k (.int 1))
def q0_1 : List Sm := [s0_1]
def s0_0 : Sm := .ife (.cmp .Eq (.ix (.nm 0) (.k (.int 0))) (.k (.str [111, 110]))) q0_1 []
def s0_3 : Sm := .ret (.k (.int 0))
def q0_2 : List Sm := [s0_3]
def s0_2 : Sm := .ife (.or [.cmp .Eq (.ix (.nm 0) (.k (.int 0))) (.k (.str [97, 116])), .cmp .Eq (.ix (.nm 0) (.k (.int 0))) (.k (.str [104, 97, 115]))]) q0_2 []
def s0_4 : Sm := .ret (.bi .sum [.lc [1] (.call 0 [.nm 1]) (.nm 1) (.sl (.nm 0) (some (.k (.int 1))) none) none])
def q0_0 : List Sm := [s0_0, s0_2, s0_4]
def f0 : Fd := ⟨1, 2, [false], q0_0⟩
def d0 : Df := ⟨1, "ons_in", ["claim"], ["claim", "part"], f0, false⟩
/- grows(claim): 0 claim, 1 part -/
def s1_1 : Sm := .ret (.cmp .Eq (.call 0 [.ix (.nm 0) (.k (.int 1))]) (.k (.int 0)))
def q1_1 : List Sm := [s1_1]
def s1_0 : Sm := .ife (.cmp .Eq (.ix (.nm 0) (.k (.int 0))) (.k (.str [110, 111, 116]))) q1_1 []
def s1_3 : Sm := .ret (.bi .all [.lc [1] (.call 1 [.nm 1]) (.nm 1) (.sl (.nm 0) (some (.k (.int 1))) none) none])
def q1_2 : List Sm := [s1_3]
def s1_2 : Sm := .ife (.or [.cmp .Eq (.ix (.nm 0) (.k (.int 0))) (.k (.str [97, 110, 100])), .cmp .Eq (.ix (.nm 0) (.k (.int 0))) (.k (.str [111, 114]))]) q1_2 []
def s1_4 : Sm := .ret (.k (.bl true))
def q1_0 : List Sm := [s1_0, s1_2, s1_4]
def f1 : Fd := ⟨1, 2, [false], q1_0⟩
def d1 : Df := ⟨2, "grows", ["claim"], ["claim", "part"], f1, false⟩
/- _law_cell_at(script, k): 0 script, 1 k -/
def s2_1 : Sm := .ret (.ix (.nm 0) (.nm 1))
def q2_1 : List Sm := [s2_1]
def s2_0 : Sm := .ife (.cmp .Lt (.nm 1) (.bi .len [.nm 0])) q2_1 []
def s2_2 : Sm := .ret (.k (.int 0))
def q2_0 : List Sm := [s2_0, s2_2]
def f2 : Fd := ⟨2, 2, [false, false], q2_0⟩
def d2 : Df := ⟨4, "_law_cell_at", ["script", "k"], ["script", "k"], f2, false⟩
/- _law_mix(cell, k): 0 cell, 1 k, 2 prime, 3 number -/
def s3_0 : Sm := .asg (.nm 2) false (.k (.int 2305843009213693951))
def s3_1 : Sm := .asg (.nm 3) false (.bin .Mod (.bin .Mult (.bin .Add (.bin .Add (.bin .Mod (.nm 0) (.nm 2)) (.bin .Mult (.k (.int 7919)) (.nm 1))) (.k (.int 3))) (.k (.int 271828183))) (.nm 2))
def s3_2 : Sm := .asg (.nm 3) false (.bin .Mod (.bin .Add (.bin .Mult (.nm 3) (.nm 3)) (.bin .Mult (.k (.int 31415926535)) (.bin .Add (.nm 1) (.k (.int 1))))) (.nm 2))
def s3_3 : Sm := .ret (.bin .FloorDiv (.bin .Mod (.bin .Mult (.bin .Mod (.bin .Mult (.nm 3) (.nm 3)) (.nm 2)) (.k (.int 69621))) (.nm 2)) (.k (.int 11)))
def q3_0 : List Sm := [s3_0, s3_1, s3_2, s3_3]
def f3 : Fd := ⟨2, 4, [false, false], q3_0⟩
def d3 : Df := ⟨5, "_law_mix", ["cell", "k"], ["cell", "k", "prime", "number"], f3, false⟩
/- _law_draws(cell, many): 0 cell, 1 many, 2 found, 3 rest, 4 k -/
def s4_0 : Sm := .asg (.nm 2) true (.lst [])
def s4_1 : Sm := .asg (.nm 3) false (.nm 0)
def s4_4 : Sm := .ex (.mu 0 2 [.bin .Mod (.nm 3) (.k (.int 1000))])
def s4_5 : Sm := .asg (.nm 3) false (.bin .FloorDiv (.nm 3) (.k (.int 1000)))
def q4_2 : List Sm := [s4_4, s4_5]
def s4_6 : Sm := .ex (.mu 0 2 [.bin .Mod (.call 3 [.nm 0, .nm 4]) (.k (.int 1000))])
def q4_3 : List Sm := [s4_6]
def s4_3 : Sm := .ife (.and [.cmp .GtE (.nm 0) (.bin .Pow (.k (.int 10)) (.k (.int 18))), .cmp .Gt (.nm 3) (.k (.int 0))]) q4_2 q4_3
def q4_1 : List Sm := [s4_3]
def s4_2 : Sm := .for (.nm 4) (.bi .range [.nm 1]) q4_1
def s4_7 : Sm := .ret (.nm 2)
def q4_0 : List Sm := [s4_0, s4_1, s4_2, s4_7]
def f4 : Fd := ⟨2, 5, [false, false], q4_0⟩
def d4 : Df := ⟨6, "_law_draws", ["cell", "many"], ["cell", "many", "found", "rest", "k"], f4, false⟩
/- _law_words(cell): 0 cell, 1 draws, 2 signs, 3 words, 4 j, 5 own, 6 k -/
def s5_0 : Sm := .asg (.nm 1) false (.call 4 [.nm 0, .k (.int 36)])
def s5_1 : Sm := .asg (.nm 2) false (.k (.str [97, 98, 99, 100, 101, 102, 103, 104, 105, 106, 107, 108, 109, 110, 111, 112, 113, 114, 115, 116, 117, 118, 119, 120, 121, 122]))
def s5_2 : Sm := .asg (.nm 3) true (.lst [])
def s5_4 : Sm := .asg (.nm 5) false (.sl (.nm 1) (some (.bin .Mult (.k (.int 9)) (.nm 4))) (some (.bin .Add (.bin .Mult (.k (.int 9)) (.nm 4)) (.k (.int 9)))))
def s5_5 : Sm := .ex (.mu 0 3 [.mt 0 (.k (.str [])) [.lc [6] (.ix (.nm 2) (.bin .Mod (.ix (.nm 5) (.bin .Add (.k (.int 1)) (.nm 6))) (.k (.int 26)))) (.nm 6) (.bi .range [.bin .Add (.k (.int 1)) (.bin .Mod (.ix (.nm 5) (.k (.int 0))) (.k (.int 8)))]) none]])
def q5_1 : List Sm := [s5_4, s5_5]
def s5_3 : Sm := .for (.nm 4) (.bi .range [.k (.int 4)]) q5_1
def s5_6 : Sm := .ret (.nm 3)
def q5_0 : List Sm := [s5_0, s5_1, s5_2, s5_3, s5_6]
def f5 : Fd := ⟨1, 7, [false], q5_0⟩
def d5 : Df := ⟨7, "_law_words", ["cell"], ["cell", "draws", "signs", "words", "j", "own", "k"], f5, false⟩
/- _law_letter(words, draw): 0 words, 1 draw -/
def s6_0 : Sm := .ret (.tup [.ix (.nm 0) (.bin .Mod (.nm 1) (.k (.int 4))), .bin .Mod (.bin .FloorDiv (.nm 1) (.k (.int 4))) (.k (.int 3))])
def q6_0 : List Sm := [s6_0]
def f6 : Fd := ⟨2, 2, [false, false], q6_0⟩
def d6 : Df := ⟨8, "_law_letter", ["words", "draw"], ["words", "draw"], f6, false⟩
/- _law_road(draw): 0 draw -/
def s7_1 : Sm := .ret (.tup [.k (.str [114, 111, 119]), .k .non, .k (.bl true)])
def q7_1 : List Sm := [s7_1]
def s7_0 : Sm := .ife (.cmp .Eq (.bin .Mod (.nm 0) (.k (.int 6))) (.k (.int 0))) q7_1 []
def s7_2 : Sm := .ret (.tup [.ix (.lst [.k (.str [114, 111, 119]), .k (.str [104, 101, 97, 112])]) (.bin .Mod (.bin .FloorDiv (.nm 0) (.k (.int 6))) (.k (.int 2))), .bin .Add (.k (.int 1)) (.bin .Mod (.bin .FloorDiv (.nm 0) (.k (.int 12))) (.k (.int 3))), .cmp .Eq (.bin .Mod (.bin .FloorDiv (.nm 0) (.k (.int 36))) (.k (.int 2))) (.k (.int 1))])
def q7_0 : List Sm := [s7_0, s7_2]
def f7 : Fd := ⟨1, 1, [false], q7_0⟩
def d7 : Df := ⟨9, "_law_road", ["draw"], ["draw"], f7, false⟩
/- _law_lying(road, words, draws): 0 road, 1 words, 2 draws, 3 most, 4 letters, 5 draw, 6 at -/
def s8_0 : Sm := .asg (.nm 3) false (.ix (.lst [.bin .Add (.k (.int 1)) (.bin .Mod (.ix (.nm 2) (.k (.int 0))) (.k (.int 12))), .bin .Add (.k (.int 1)) (.bin .Mod (.ix (.nm 2) (.k (.int 0))) (.k (.int 40)))]) (.bin .FloorDiv (.bin .Mod (.bin .FloorDiv (.ix (.nm 2) (.k (.int 0))) (.k (.int 12))) (.k (.int 8))) (.k (.int 7))))
def s8_2 : Sm := .asg (.nm 3) false (.ix (.nm 0) (.k (.int 1)))
def q8_1 : List Sm := [s8_2]
def s8_1 : Sm := .ife (.cmp .IsNot (.ix (.nm 0) (.k (.int 1))) (.k .non)) q8_1 []
def s8_3 : Sm := .asg (.nm 4) false (.lc [5] (.call 6 [.nm 1, .nm 5]) (.nm 5) (.sl (.nm 2) (some (.k (.int 2))) (some (.bin .Add (.k (.int 2)) (.bin .Mod (.ix (.nm 2) (.k (.int 1))) (.bin .Add (.nm 3) (.k (.int 1))))))) none)
def s8_5 : Sm := .asg (.nm 4) false (.lc [6] (.ix (.nm 4) (.bin .FloorDiv (.nm 6) (.k (.int 2)))) (.nm 6) (.bi .range [.bi .len [.nm 4]]) none)
def q8_2 : List Sm := [s8_5]
def s8_4 : Sm := .ife (.cmp .Eq (.bin .Mod (.bin .FloorDiv (.ix (.nm 2) (.k (.int 0))) (.k (.int 96))) (.k (.int 3))) (.k (.int 0))) q8_2 []
def s8_7 : Sm := .asg (.nm 4) false (.bi .sorted [.nm 4])
def q8_3 : List Sm := [s8_7]
def s8_6 : Sm := .ife (.cmp .Eq (.ix (.nm 0) (.k (.int 0))) (.k (.str [104, 101, 97, 112]))) q8_3 []
def s8_8 : Sm := .ret (.bi .tuple [.nm 4])
def q8_0 : List Sm := [s8_0, s8_1, s8_3, s8_4, s8_6, s8_8]
def f8 : Fd := ⟨3, 7, [false, false, false], q8_0⟩
def d8 : Df := ⟨10, "_law_lying", ["road", "words", "draws"], ["road", "words", "draws", "most", "letters", "draw", "at"], f8, false⟩
/- _law_names(words): 0 words, 1 names, 2 word -/
def s9_0 : Sm := .asg (.nm 1) true (.lst [])
def s9_3 : Sm := .ex (.mu 0 1 [.nm 2])
def q9_2 : List Sm := [s9_3]
def s9_2 : Sm := .ife (.cmp .NotIn (.nm 2) (.nm 1)) q9_2 []
def q9_1 : List Sm := [s9_2]
def s9_1 : Sm := .for (.nm 2) (.bin .Add (.nm 0) (.lst [.k (.str [97]), .k (.str [98]), .k (.str [99]), .k (.str [100])])) q9_1
def s9_4 : Sm := .ret (.nm 1)
def q9_0 : List Sm := [s9_0, s9_1, s9_4]
def f9 : Fd := ⟨1, 3, [false], q9_0⟩
def d9 : Df := ⟨11, "_law_names", ["words"], ["words", "names", "word"], f9, false⟩
/- _law_program(words, cell): 0 words, 1 cell, 2 draws, 3 names, 4 roads, 5 roles, 6 k, 7 hands, 8 steps, 9 draw -/
def s10_0 : Sm := .asg (.nm 2) false (.call 4 [.nm 1, .k (.int 40)])
def s10_1 : Sm := .asg (.nm 3) false (.call 9 [.nm 0])
def s10_2 : Sm := .asg (.nm 4) false (.bi .tuple [.lc [9] (.call 7 [.nm 9]) (.nm 9) (.sl (.nm 2) (some (.k (.int 1))) (some (.bin .Add (.k (.int 1)) (.bin .Mod (.ix (.nm 2) (.k (.int 0))) (.k (.int 5)))))) none])
def s10_3 : Sm := .asg (.nm 5) true (.lst [])
def s10_5 : Sm := .asg (.nm 8) false (.bin .Mult (.lst [.tup [.k (.str [115, 116, 111, 112])]]) (.ix (.lst [.bin .Add (.k (.int 1)) (.bin .Mod (.ix (.nm 2) (.bin .Add (.k (.int 6)) (.nm 6))) (.k (.int 3))), .bin .Add (.k (.int 1)) (.bin .Mod (.ix (.nm 2) (.bin .Add (.k (.int 6)) (.nm 6))) (.k (.int 12)))]) (.bin .Mod (.bin .FloorDiv (.ix (.nm 2) (.k (.int 10))) (.bin .Add (.nm 6) (.k (.int 1)))) (.k (.int 2)))))
def s10_6 : Sm := .ex (.mu 0 5 [.tup [.ix (.nm 3) (.bin .Mod (.bin .Add (.nm 6) (.ix (.nm 2) (.k (.int 11)))) (.k (.int 4))), .bin .Mod (.ix (.nm 2) (.bin .Add (.k (.int 12)) (.nm 6))) (.k (.int 3)), .bi .tuple [.nm 8]]])
def q10_1 : List Sm := [s10_5, s10_6]
def s10_4 : Sm := .for (.nm 6) (.bi .range [.bin .Add (.k (.int 1)) (.bin .Mod (.bin .FloorDiv (.ix (.nm 2) (.k (.int 0))) (.k (.int 5))) (.k (.int 4)))]) q10_1
def s10_7 : Sm := .asg (.nm 7) false (.lc [9] (.ix (.ix (.nm 5) (.bin .Mod (.nm 9) (.bi .len [.nm 5]))) (.k (.int 0))) (.nm 9) (.sl (.nm 2) (some (.k (.int 16))) (some (.bin .Add (.k (.int 17)) (.bin .Mod (.ix (.nm 2) (.k (.int 20))) (.k (.int 4)))))) none)
def s10_8 : Sm := .ret (.tup [.nm 4, .bi .tuple [.nm 5], .bi .tuple [.nm 7]])
def q10_0 : List Sm := [s10_0, s10_1, s10_2, s10_3, s10_4, s10_7, s10_8]
def f10 : Fd := ⟨2, 10, [false, false], q10_0⟩
def d10 : Df := ⟨12, "_law_program", ["words", "cell"], ["words", "cell", "draws", "names", "roads", "roles", "k", "hands", "steps", "draw"], f10, false⟩
/- _law_leaf(program, words, draw, other): 0 program, 1 words, 2 draw, 3 other, 4 role, 5 many, 6 roads, 7 roles, 8 names -/
def s11_0 : Sm := .asg (.tup [.nm 6, .nm 7, .nm 8]) false (.nm 0)
def s11_1 : Sm := .asg (.nm 4) false (.ix (.nm 7) (.bin .Mod (.bin .FloorDiv (.nm 2) (.k (.int 4))) (.bi .len [.nm 7])))
def s11_2 : Sm := .asg (.nm 5) false (.ix (.lst [.k (.int 1), .k (.int 1), .k (.int 2), .k (.int 1), .k (.int 3), .k (.int 6)]) (.bin .Mod (.nm 3) (.k (.int 6))))
def s11_4 : Sm := .ret (.tup [.k (.str [104, 97, 115]), .ix (.nm 4) (.k (.int 0)), .bin .Mod (.bin .FloorDiv (.nm 2) (.k (.int 16))) (.ix (.nm 4) (.k (.int 1))), .bin .Mod (.bin .FloorDiv (.nm 3) (.k (.int 6))) (.k (.int 3)), .nm 5])
def q11_1 : List Sm := [s11_4]
def s11_3 : Sm := .ife (.and [.cmp .Eq (.bin .Mod (.nm 2) (.k (.int 4))) (.k (.int 1)), .cmp .Gt (.ix (.nm 4) (.k (.int 1))) (.k (.int 0))]) q11_1 []
def s11_6 : Sm := .ret (.tup [.k (.str [111, 110]), .bin .Mod (.bin .FloorDiv (.nm 2) (.k (.int 16))) (.bi .len [.nm 6]), .ix (.nm 1) (.bin .Mod (.bin .FloorDiv (.nm 3) (.k (.int 6))) (.k (.int 4))), .bin .Add (.k (.int 1)) (.bin .Mod (.nm 3) (.k (.int 2)))])
def q11_2 : List Sm := [s11_6]
def s11_5 : Sm := .ife (.and [.cmp .Gt (.bin .Mod (.nm 2) (.k (.int 4))) (.k (.int 1)), .cmp .Gt (.bi .len [.nm 6]) (.k (.int 0))]) q11_2 []
def s11_7 : Sm := .ret (.tup [.k (.str [97, 116]), .ix (.nm 4) (.k (.int 0)), .bin .Mod (.bin .FloorDiv (.nm 3) (.k (.int 6))) (.bin .Add (.bi .len [.ix (.nm 4) (.k (.int 2))]) (.k (.int 1))), .nm 5])
def q11_0 : List Sm := [s11_0, s11_1, s11_2, s11_3, s11_5, s11_7]
def f11 : Fd := ⟨4, 9, [false, false, false, false], q11_0⟩
def d11 : Df := ⟨13, "_law_leaf", ["program", "words", "draw", "other"], ["program", "words", "draw", "other", "role", "many", "roads", "roles", "names"], f11, false⟩
/- _law_claim(program, words, draws, deep): 0 program, 1 words, 2 draws, 3 deep, 4 first, 5 parts, 6 k -/
def s12_1 : Sm := .ret (.tup [.k (.str [97, 116]), .ix (.ix (.ix (.nm 0) (.k (.int 1))) (.k (.int 0))) (.k (.int 0)), .k (.int 0), .k (.int 1)])
def q12_1 : List Sm := [s12_1]
def s12_0 : Sm := .ife (.cmp .Lt (.bi .len [.nm 2]) (.k (.int 3))) q12_1 []
def s12_2 : Sm := .asg (.nm 4) false (.mu 4 2 [.k (.int 0)])
def s12_4 : Sm := .ret (.call 11 [.nm 0, .nm 1, .bin .FloorDiv (.nm 4) (.k (.int 5)), .mu 4 2 [.k (.int 0)]])
def q12_2 : List Sm := [s12_4]
def s12_3 : Sm := .ife (.or [.cmp .Eq (.nm 3) (.k (.int 1)), .cmp .Lt (.bin .Mod (.nm 4) (.k (.int 5))) (.k (.int 2))]) q12_2 []
def s12_6 : Sm := .ret (.tup [.k (.str [110, 111, 116]), .call 12 [.nm 0, .nm 1, .nm 2, .bin .Sub (.nm 3) (.k (.int 1))]])
def q12_3 : List Sm := [s12_6]
def s12_5 : Sm := .ife (.cmp .Eq (.bin .Mod (.nm 4) (.k (.int 5))) (.k (.int 2))) q12_3 []
def s12_7 : Sm := .asg (.nm 5) true (.lst [])
def s12_9 : Sm := .ex (.mu 0 5 [.call 12 [.nm 0, .nm 1, .nm 2, .bin .Sub (.nm 3) (.k (.int 1))]])
def q12_4 : List Sm := [s12_9]
def s12_8 : Sm := .for (.nm 6) (.bi .range [.ix (.lst [.k (.int 1), .k (.int 2), .k (.int 2), .k (.int 3), .k (.int 4)]) (.bin .Mod (.bin .FloorDiv (.nm 4) (.k (.int 5))) (.k (.int 5)))]) q12_4
def s12_10 : Sm := .ret (.bin .Add (.tup [.ix (.lst [.k (.str [97, 110, 100]), .k (.str [111, 114])]) (.bin .Mod (.nm 4) (.k (.int 2)))]) (.bi .tuple [.nm 5]))
def q12_0 : List Sm := [s12_0, s12_2, s12_3, s12_5, s12_7, s12_8, s12_10]
def f12 : Fd := ⟨4, 7, [false, false, true, false], q12_0⟩
def d12 : Df := ⟨14, "_law_claim", ["program", "words", "draws", "deep"], ["program", "words", "draws", "deep", "first", "parts", "k"], f12, false⟩
/- _law_few(program, claim, ons): 0 program, 1 claim, 2 ons, 3 parts, 4 part -/
def s13_1 : Sm := .ret (.nm 1)
def q13_1 : List Sm := [s13_1]
def s13_0 : Sm := .ife (.or [.cmp .Eq (.ix (.nm 1) (.k (.int 0))) (.k (.str [97, 116])), .cmp .Eq (.ix (.nm 1) (.k (.int 0))) (.k (.str [104, 97, 115]))]) q13_1 []
def s13_3 : Sm := .ex (.mu 0 2 [.nm 1])
def s13_5 : Sm := .ret (.tup [.k (.str [97, 116]), .ix (.ix (.ix (.nm 0) (.k (.int 1))) (.k (.int 0))) (.k (.int 0)), .k (.int 0), .k (.int 1)])
def q13_3 : List Sm := [s13_5]
def s13_4 : Sm := .ife (.cmp .Gt (.bi .len [.nm 2]) (.k (.int 2))) q13_3 []
def s13_6 : Sm := .ret (.nm 1)
def q13_2 : List Sm := [s13_3, s13_4, s13_6]
def s13_2 : Sm := .ife (.cmp .Eq (.ix (.nm 1) (.k (.int 0))) (.k (.str [111, 110]))) q13_2 []
def s13_7 : Sm := .asg (.nm 3) true (.lst [])
def s13_9 : Sm := .ex (.mu 0 3 [.call 13 [.nm 0, .nm 4, .nm 2]])
def q13_4 : List Sm := [s13_9]
def s13_8 : Sm := .for (.nm 4) (.sl (.nm 1) (some (.k (.int 1))) none) q13_4
def s13_10 : Sm := .ret (.bin .Add (.sl (.nm 1) none (some (.k (.int 1)))) (.bi .tuple [.nm 3]))
def q13_0 : List Sm := [s13_0, s13_2, s13_7, s13_8, s13_10]
def f13 : Fd := ⟨3, 5, [false, false, true], q13_0⟩
def d13 : Df := ⟨15, "_law_few", ["program", "claim", "ons"], ["program", "claim", "ons", "parts", "part"], f13, false⟩
/- _law_claim_of(program, words, draws): 0 program, 1 words, 2 draws -/
def s14_0 : Sm := .ret (.callf 13 [.nm 0, .call 12 [.nm 0, .nm 1, .nm 2, .k (.int 4)]] (.lst []))
def q14_0 : List Sm := [s14_0]
def f14 : Fd := ⟨3, 3, [false, false, true], q14_0⟩
def d14 : Df := ⟨16, "_law_claim_of", ["program", "words", "draws"], ["program", "words", "draws"], f14, false⟩
/- _law_beneath(claim, denied): 0 claim, 1 denied, 2 found, 3 part -/
def s15_1 : Sm := .ret (.nm 1)
def q15_1 : List Sm := [s15_1]
def s15_0 : Sm := .ife (.cmp .Eq (.ix (.nm 0) (.k (.int 0))) (.k (.str [111, 110]))) q15_1 []
def s15_3 : Sm := .ret (.k (.bl false))
def q15_2 : List Sm := [s15_3]
def s15_2 : Sm := .ife (.or [.cmp .Eq (.ix (.nm 0) (.k (.int 0))) (.k (.str [97, 116])), .cmp .Eq (.ix (.nm 0) (.k (.int 0))) (.k (.str [104, 97, 115]))]) q15_2 []
def s15_4 : Sm := .asg (.nm 2) true (.k (.bl false))
def s15_7 : Sm := .asg (.nm 2) true (.k (.bl true))
def q15_4 : List Sm := [s15_7]
def s15_6 : Sm := .ife (.call 15 [.nm 3, .or [.nm 1, .cmp .Eq (.ix (.nm 0) (.k (.int 0))) (.k (.str [110, 111, 116]))]]) q15_4 []
def q15_3 : List Sm := [s15_6]
def s15_5 : Sm := .for (.nm 3) (.sl (.nm 0) (some (.k (.int 1))) none) q15_3
def s15_8 : Sm := .ret (.nm 2)
def q15_0 : List Sm := [s15_0, s15_2, s15_4, s15_5, s15_8]
def f15 : Fd := ⟨2, 4, [false, false], q15_0⟩
def d15 : Df := ⟨17, "_law_beneath", ["claim", "denied"], ["claim", "denied", "found", "part"], f15, false⟩
/- _law_put(draws): 0 draws, 1 on, 2 at, 3 first, 4 second, 5 rows -/
def s16_0 : Sm := .asg (.nm 1) false (.tup [.k (.str [111, 110]), .bin .Mod (.ix (.nm 0) (.k (.int 0))) (.k (.int 4)), .k (.str [97]), .bin .Add (.k (.int 1)) (.bin .Mod (.bin .FloorDiv (.ix (.nm 0) (.k (.int 0))) (.k (.int 4))) (.k (.int 2)))])
def s16_1 : Sm := .asg (.nm 2) false (.tup [.k (.str [97, 116]), .k (.str [98]), .bin .Mod (.ix (.nm 0) (.k (.int 1))) (.k (.int 13)), .bin .Add (.k (.int 1)) (.bin .Mod (.bin .FloorDiv (.ix (.nm 0) (.k (.int 1))) (.k (.int 13))) (.k (.int 6)))])
def s16_2 : Sm := .asg (.nm 3) false (.ix (.lst [.nm 1, .nm 2, .tup [.k (.str [110, 111, 116]), .nm 1], .tup [.k (.str [110, 111, 116]), .nm 2]]) (.bin .Mod (.ix (.nm 0) (.k (.int 2))) (.k (.int 4))))
def s16_3 : Sm := .asg (.nm 4) false (.ix (.lst [.nm 1, .nm 2, .tup [.k (.str [110, 111, 116]), .nm 1], .tup [.k (.str [110, 111, 116]), .nm 2]]) (.bin .Mod (.bin .FloorDiv (.ix (.nm 0) (.k (.int 2))) (.k (.int 4))) (.k (.int 4))))
def s16_4 : Sm := .asg (.nm 5) false (.lst [.tup [.k (.str [97, 110, 100]), .nm 3, .nm 4], .tup [.k (.str [111, 114]), .nm 4, .nm 3], .tup [.k (.str [110, 111, 116]), .tup [.k (.str [110, 111, 116]), .nm 1]], .tup [.k (.str [110, 111, 116]), .tup [.k (.str [97, 110, 100]), .nm 2, .nm 3]]])
def s16_5 : Sm := .ret (.bin .Add (.nm 5) (.lst [.nm 3, .tup [.k (.str [97, 110, 100]), .nm 2, .nm 2, .nm 2, .nm 3], .tup [.k (.str [110, 111, 116]), .tup [.k (.str [111, 114]), .nm 2, .nm 2, .nm 2, .tup [.k (.str [104, 97, 115]), .k (.str [98]), .k (.int 0), .k (.int 1), .k (.int 1)]]]]))
def q16_0 : List Sm := [s16_0, s16_1, s16_2, s16_3, s16_4, s16_5]
def f16 : Fd := ⟨1, 6, [false], q16_0⟩
def d16 : Df := ⟨18, "_law_put", ["draws"], ["draws", "on", "at", "first", "second", "rows"], f16, false⟩
/- law(script): 0 script, 1 words, 2 program, 3 cell, 4 draws, 5 claim, 6 found -/
def s17_0 : Sm := .asg (.nm 1) false (.call 5 [.call 2 [.nm 0, .k (.int 0)]])
def s17_1 : Sm := .asg (.nm 2) false (.call 10 [.nm 1, .call 2 [.nm 0, .k (.int 1)]])
def s17_3 : Sm := .asg (.nm 4) false (.call 4 [.nm 3, .k (.int 60)])
def s17_5 : Sm := .asg (.nm 6) false (.call 1 [.nm 5])
def s17_7 : Sm := .ret (.k (.bl false))
def q17_3 : List Sm := [s17_7]
def s17_6 : Sm := .ife (.or [.not (.isi (.nm 6) [1]), .cmp .Eq (.nm 6) (.call 15 [.nm 5, .k (.bl false)])]) q17_3 []
def q17_2 : List Sm := [s17_5, s17_6]
def s17_4 : Sm := .for (.nm 5) (.bin .Add (.lst [.callf 14 [.nm 2, .nm 1] (.sl (.nm 4) none (some (.k (.int 55))))]) (.call 16 [.sl (.nm 4) (some (.k (.int 55))) (some (.k (.int 58)))])) q17_2
def q17_1 : List Sm := [s17_3, s17_4]
def s17_2 : Sm := .for (.nm 3) (.bin .Add (.lst [.k (.int 0)]) (.sl (.nm 0) (some (.k (.int 2))) none)) q17_1
def s17_8 : Sm := .ret (.k (.bl true))
def q17_0 : List Sm := [s17_0, s17_1, s17_2, s17_8]
def f17 : Fd := ⟨1, 7, [false], q17_0⟩
def d17 : Df := ⟨19, "law", ["script"], ["script", "words", "program", "cell", "draws", "claim", "found"], f17, false⟩
def L : List Df := [d0, d1, d2, d3, d4, d5, d6, d7, d8, d9, d10, d11, d12, d13, d14, d15, d16, d17]
def C : List Kn := []
@[simp] theorem s0_1_x (M : Mc) (ρ : En) : xS M s0_1 ρ = xS M (.ret (.k (.int 1))) ρ := rfl
@[simp] theorem q0_1_x (M : Mc) (ρ : En) : xSs M q0_1 ρ = kSeq M [] (xS M s0_1 ρ) := xSs_cons M _ _ _
@[simp] theorem s0_0_x (M : Mc) (ρ : En) : xS M s0_0 ρ = xS M (.ife (.cmp .Eq (.ix (.nm 0) (.k (.int 0))) (.k (.str [111, 110]))) q0_1 []) ρ := rfl
@[simp] theorem s0_3_x (M : Mc) (ρ : En) : xS M s0_3 ρ = xS M (.ret (.k (.int 0))) ρ := rfl
@[simp] theorem q0_2_x (M : Mc) (ρ : En) : xSs M q0_2 ρ = kSeq M [] (xS M s0_3 ρ) := xSs_cons M _ _ _
@[simp] theorem s0_2_x (M : Mc) (ρ : En) : xS M s0_2 ρ = xS M (.ife (.or [.cmp .Eq (.ix (.nm 0) (.k (.int 0))) (.k (.str [97, 116])), .cmp .Eq (.ix (.nm 0) (.k (.int 0))) (.k (.str [104, 97, 115]))]) q0_2 []) ρ := rfl
@[simp] theorem s0_4_x (M : Mc) (ρ : En) : xS M s0_4 ρ = xS M (.ret (.bi .sum [.lc [1] (.call 0 [.nm 1]) (.nm 1) (.sl (.nm 0) (some (.k (.int 1))) none) none])) ρ := rfl
@[simp] theorem q0_0_x (M : Mc) (ρ : En) : xSs M q0_0 ρ = kSeq M [s0_2, s0_4] (xS M s0_0 ρ) := xSs_cons M _ _ _
theorem T0 : tab L 0 = some f0 := rfl
@[simp] theorem m0 (W n : Nat) : (mkM (tab L) W n).mf 0 = some [false] := rfl
@[simp] theorem s1_1_x (M : Mc) (ρ : En) : xS M s1_1 ρ = xS M (.ret (.cmp .Eq (.call 0 [.ix (.nm 0) (.k (.int 1))]) (.k (.int 0)))) ρ := rfl
@[simp] theorem q1_1_x (M : Mc) (ρ : En) : xSs M q1_1 ρ = kSeq M [] (xS M s1_1 ρ) := xSs_cons M _ _ _
@[simp] theorem s1_0_x (M : Mc) (ρ : En) : xS M s1_0 ρ = xS M (.ife (.cmp .Eq (.ix (.nm 0) (.k (.int 0))) (.k (.str [110, 111, 116]))) q1_1 []) ρ := rfl
@[simp] theorem s1_3_x (M : Mc) (ρ : En) : xS M s1_3 ρ = xS M (.ret (.bi .all [.lc [1] (.call 1 [.nm 1]) (.nm 1) (.sl (.nm 0) (some (.k (.int 1))) none) none])) ρ := rfl
@[simp] theorem q1_2_x (M : Mc) (ρ : En) : xSs M q1_2 ρ = kSeq M [] (xS M s1_3 ρ) := xSs_cons M _ _ _
@[simp] theorem s1_2_x (M : Mc) (ρ : En) : xS M s1_2 ρ = xS M (.ife (.or [.cmp .Eq (.ix (.nm 0) (.k (.int 0))) (.k (.str [97, 110, 100])), .cmp .Eq (.ix (.nm 0) (.k (.int 0))) (.k (.str [111, 114]))]) q1_2 []) ρ := rfl
@[simp] theorem s1_4_x (M : Mc) (ρ : En) : xS M s1_4 ρ = xS M (.ret (.k (.bl true))) ρ := rfl
@[simp] theorem q1_0_x (M : Mc) (ρ : En) : xSs M q1_0 ρ = kSeq M [s1_2, s1_4] (xS M s1_0 ρ) := xSs_cons M _ _ _
theorem T1 : tab L 1 = some f1 := rfl
@[simp] theorem m1 (W n : Nat) : (mkM (tab L) W n).mf 1 = some [false] := rfl
@[simp] theorem s2_1_x (M : Mc) (ρ : En) : xS M s2_1 ρ = xS M (.ret (.ix (.nm 0) (.nm 1))) ρ := rfl
@[simp] theorem q2_1_x (M : Mc) (ρ : En) : xSs M q2_1 ρ = kSeq M [] (xS M s2_1 ρ) := xSs_cons M _ _ _
@[simp] theorem s2_0_x (M : Mc) (ρ : En) : xS M s2_0 ρ = xS M (.ife (.cmp .Lt (.nm 1) (.bi .len [.nm 0])) q2_1 []) ρ := rfl
@[simp] theorem s2_2_x (M : Mc) (ρ : En) : xS M s2_2 ρ = xS M (.ret (.k (.int 0))) ρ := rfl
@[simp] theorem q2_0_x (M : Mc) (ρ : En) : xSs M q2_0 ρ = kSeq M [s2_2] (xS M s2_0 ρ) := xSs_cons M _ _ _
theorem T2 : tab L 2 = some f2 := rfl
@[simp] theorem m2 (W n : Nat) : (mkM (tab L) W n).mf 2 = some [false, false] := rfl
@[simp] theorem s3_0_x (M : Mc) (ρ : En) : xS M s3_0 ρ = xS M (.asg (.nm 2) false (.k (.int 2305843009213693951))) ρ := rfl
@[simp] theorem s3_1_x (M : Mc) (ρ : En) : xS M s3_1 ρ = xS M (.asg (.nm 3) false (.bin .Mod (.bin .Mult (.bin .Add (.bin .Add (.bin .Mod (.nm 0) (.nm 2)) (.bin .Mult (.k (.int 7919)) (.nm 1))) (.k (.int 3))) (.k (.int 271828183))) (.nm 2))) ρ := rfl
@[simp] theorem s3_2_x (M : Mc) (ρ : En) : xS M s3_2 ρ = xS M (.asg (.nm 3) false (.bin .Mod (.bin .Add (.bin .Mult (.nm 3) (.nm 3)) (.bin .Mult (.k (.int 31415926535)) (.bin .Add (.nm 1) (.k (.int 1))))) (.nm 2))) ρ := rfl
@[simp] theorem s3_3_x (M : Mc) (ρ : En) : xS M s3_3 ρ = xS M (.ret (.bin .FloorDiv (.bin .Mod (.bin .Mult (.bin .Mod (.bin .Mult (.nm 3) (.nm 3)) (.nm 2)) (.k (.int 69621))) (.nm 2)) (.k (.int 11)))) ρ := rfl
@[simp] theorem q3_0_x (M : Mc) (ρ : En) : xSs M q3_0 ρ = kSeq M [s3_1, s3_2, s3_3] (xS M s3_0 ρ) := xSs_cons M _ _ _
theorem T3 : tab L 3 = some f3 := rfl
@[simp] theorem m3 (W n : Nat) : (mkM (tab L) W n).mf 3 = some [false, false] := rfl
@[simp] theorem s4_0_x (M : Mc) (ρ : En) : xS M s4_0 ρ = xS M (.asg (.nm 2) true (.lst [])) ρ := rfl
@[simp] theorem s4_1_x (M : Mc) (ρ : En) : xS M s4_1 ρ = xS M (.asg (.nm 3) false (.nm 0)) ρ := rfl
@[simp] theorem s4_4_x (M : Mc) (ρ : En) : xS M s4_4 ρ = xS M (.ex (.mu 0 2 [.bin .Mod (.nm 3) (.k (.int 1000))])) ρ := rfl
@[simp] theorem s4_5_x (M : Mc) (ρ : En) : xS M s4_5 ρ = xS M (.asg (.nm 3) false (.bin .FloorDiv (.nm 3) (.k (.int 1000)))) ρ := rfl
@[simp] theorem q4_2_x (M : Mc) (ρ : En) : xSs M q4_2 ρ = kSeq M [s4_5] (xS M s4_4 ρ) := xSs_cons M _ _ _
@[simp] theorem s4_6_x (M : Mc) (ρ : En) : xS M s4_6 ρ = xS M (.ex (.mu 0 2 [.bin .Mod (.call 3 [.nm 0, .nm 4]) (.k (.int 1000))])) ρ := rfl
@[simp] theorem q4_3_x (M : Mc) (ρ : En) : xSs M q4_3 ρ = kSeq M [] (xS M s4_6 ρ) := xSs_cons M _ _ _
@[simp] theorem s4_3_x (M : Mc) (ρ : En) : xS M s4_3 ρ = xS M (.ife (.and [.cmp .GtE (.nm 0) (.bin .Pow (.k (.int 10)) (.k (.int 18))), .cmp .Gt (.nm 3) (.k (.int 0))]) q4_2 q4_3) ρ := rfl
@[simp] theorem q4_1_x (M : Mc) (ρ : En) : xSs M q4_1 ρ = kSeq M [] (xS M s4_3 ρ) := xSs_cons M _ _ _
@[simp] theorem s4_2_x (M : Mc) (ρ : En) : xS M s4_2 ρ = xS M (.for (.nm 4) (.bi .range [.nm 1]) q4_1) ρ := rfl
@[simp] theorem s4_7_x (M : Mc) (ρ : En) : xS M s4_7 ρ = xS M (.ret (.nm 2)) ρ := rfl
@[simp] theorem q4_0_x (M : Mc) (ρ : En) : xSs M q4_0 ρ = kSeq M [s4_1, s4_2, s4_7] (xS M s4_0 ρ) := xSs_cons M _ _ _
theorem T4 : tab L 4 = some f4 := rfl
@[simp] theorem m4 (W n : Nat) : (mkM (tab L) W n).mf 4 = some [false, false] := rfl
@[simp] theorem s5_0_x (M : Mc) (ρ : En) : xS M s5_0 ρ = xS M (.asg (.nm 1) false (.call 4 [.nm 0, .k (.int 36)])) ρ := rfl
@[simp] theorem s5_1_x (M : Mc) (ρ : En) : xS M s5_1 ρ = xS M (.asg (.nm 2) false (.k (.str [97, 98, 99, 100, 101, 102, 103, 104, 105, 106, 107, 108, 109, 110, 111, 112, 113, 114, 115, 116, 117, 118, 119, 120, 121, 122]))) ρ := rfl
@[simp] theorem s5_2_x (M : Mc) (ρ : En) : xS M s5_2 ρ = xS M (.asg (.nm 3) true (.lst [])) ρ := rfl
@[simp] theorem s5_4_x (M : Mc) (ρ : En) : xS M s5_4 ρ = xS M (.asg (.nm 5) false (.sl (.nm 1) (some (.bin .Mult (.k (.int 9)) (.nm 4))) (some (.bin .Add (.bin .Mult (.k (.int 9)) (.nm 4)) (.k (.int 9)))))) ρ := rfl
@[simp] theorem s5_5_x (M : Mc) (ρ : En) : xS M s5_5 ρ = xS M (.ex (.mu 0 3 [.mt 0 (.k (.str [])) [.lc [6] (.ix (.nm 2) (.bin .Mod (.ix (.nm 5) (.bin .Add (.k (.int 1)) (.nm 6))) (.k (.int 26)))) (.nm 6) (.bi .range [.bin .Add (.k (.int 1)) (.bin .Mod (.ix (.nm 5) (.k (.int 0))) (.k (.int 8)))]) none]])) ρ := rfl
@[simp] theorem q5_1_x (M : Mc) (ρ : En) : xSs M q5_1 ρ = kSeq M [s5_5] (xS M s5_4 ρ) := xSs_cons M _ _ _
@[simp] theorem s5_3_x (M : Mc) (ρ : En) : xS M s5_3 ρ = xS M (.for (.nm 4) (.bi .range [.k (.int 4)]) q5_1) ρ := rfl
@[simp] theorem s5_6_x (M : Mc) (ρ : En) : xS M s5_6 ρ = xS M (.ret (.nm 3)) ρ := rfl
@[simp] theorem q5_0_x (M : Mc) (ρ : En) : xSs M q5_0 ρ = kSeq M [s5_1, s5_2, s5_3, s5_6] (xS M s5_0 ρ) := xSs_cons M _ _ _
theorem T5 : tab L 5 = some f5 := rfl
@[simp] theorem m5 (W n : Nat) : (mkM (tab L) W n).mf 5 = some [false] := rfl
@[simp] theorem s6_0_x (M : Mc) (ρ : En) : xS M s6_0 ρ = xS M (.ret (.tup [.ix (.nm 0) (.bin .Mod (.nm 1) (.k (.int 4))), .bin .Mod (.bin .FloorDiv (.nm 1) (.k (.int 4))) (.k (.int 3))])) ρ := rfl
@[simp] theorem q6_0_x (M : Mc) (ρ : En) : xSs M q6_0 ρ = kSeq M [] (xS M s6_0 ρ) := xSs_cons M _ _ _
theorem T6 : tab L 6 = some f6 := rfl
@[simp] theorem m6 (W n : Nat) : (mkM (tab L) W n).mf 6 = some [false, false] := rfl
@[simp] theorem s7_1_x (M : Mc) (ρ : En) : xS M s7_1 ρ = xS M (.ret (.tup [.k (.str [114, 111, 119]), .k .non, .k (.bl true)])) ρ := rfl
@[simp] theorem q7_1_x (M : Mc) (ρ : En) : xSs M q7_1 ρ = kSeq M [] (xS M s7_1 ρ) := xSs_cons M _ _ _
@[simp] theorem s7_0_x (M : Mc) (ρ : En) : xS M s7_0 ρ = xS M (.ife (.cmp .Eq (.bin .Mod (.nm 0) (.k (.int 6))) (.k (.int 0))) q7_1 []) ρ := rfl
@[simp] theorem s7_2_x (M : Mc) (ρ : En) : xS M s7_2 ρ = xS M (.ret (.tup [.ix (.lst [.k (.str [114, 111, 119]), .k (.str [104, 101, 97, 112])]) (.bin .Mod (.bin .FloorDiv (.nm 0) (.k (.int 6))) (.k (.int 2))), .bin .Add (.k (.int 1)) (.bin .Mod (.bin .FloorDiv (.nm 0) (.k (.int 12))) (.k (.int 3))), .cmp .Eq (.bin .Mod (.bin .FloorDiv (.nm 0) (.k (.int 36))) (.k (.int 2))) (.k (.int 1))])) ρ := rfl
@[simp] theorem q7_0_x (M : Mc) (ρ : En) : xSs M q7_0 ρ = kSeq M [s7_2] (xS M s7_0 ρ) := xSs_cons M _ _ _
theorem T7 : tab L 7 = some f7 := rfl
@[simp] theorem m7 (W n : Nat) : (mkM (tab L) W n).mf 7 = some [false] := rfl
@[simp] theorem s8_0_x (M : Mc) (ρ : En) : xS M s8_0 ρ = xS M (.asg (.nm 3) false (.ix (.lst [.bin .Add (.k (.int 1)) (.bin .Mod (.ix (.nm 2) (.k (.int 0))) (.k (.int 12))), .bin .Add (.k (.int 1)) (.bin .Mod (.ix (.nm 2) (.k (.int 0))) (.k (.int 40)))]) (.bin .FloorDiv (.bin .Mod (.bin .FloorDiv (.ix (.nm 2) (.k (.int 0))) (.k (.int 12))) (.k (.int 8))) (.k (.int 7))))) ρ := rfl
@[simp] theorem s8_2_x (M : Mc) (ρ : En) : xS M s8_2 ρ = xS M (.asg (.nm 3) false (.ix (.nm 0) (.k (.int 1)))) ρ := rfl
@[simp] theorem q8_1_x (M : Mc) (ρ : En) : xSs M q8_1 ρ = kSeq M [] (xS M s8_2 ρ) := xSs_cons M _ _ _
@[simp] theorem s8_1_x (M : Mc) (ρ : En) : xS M s8_1 ρ = xS M (.ife (.cmp .IsNot (.ix (.nm 0) (.k (.int 1))) (.k .non)) q8_1 []) ρ := rfl
@[simp] theorem s8_3_x (M : Mc) (ρ : En) : xS M s8_3 ρ = xS M (.asg (.nm 4) false (.lc [5] (.call 6 [.nm 1, .nm 5]) (.nm 5) (.sl (.nm 2) (some (.k (.int 2))) (some (.bin .Add (.k (.int 2)) (.bin .Mod (.ix (.nm 2) (.k (.int 1))) (.bin .Add (.nm 3) (.k (.int 1))))))) none)) ρ := rfl
@[simp] theorem s8_5_x (M : Mc) (ρ : En) : xS M s8_5 ρ = xS M (.asg (.nm 4) false (.lc [6] (.ix (.nm 4) (.bin .FloorDiv (.nm 6) (.k (.int 2)))) (.nm 6) (.bi .range [.bi .len [.nm 4]]) none)) ρ := rfl
@[simp] theorem q8_2_x (M : Mc) (ρ : En) : xSs M q8_2 ρ = kSeq M [] (xS M s8_5 ρ) := xSs_cons M _ _ _
@[simp] theorem s8_4_x (M : Mc) (ρ : En) : xS M s8_4 ρ = xS M (.ife (.cmp .Eq (.bin .Mod (.bin .FloorDiv (.ix (.nm 2) (.k (.int 0))) (.k (.int 96))) (.k (.int 3))) (.k (.int 0))) q8_2 []) ρ := rfl
@[simp] theorem s8_7_x (M : Mc) (ρ : En) : xS M s8_7 ρ = xS M (.asg (.nm 4) false (.bi .sorted [.nm 4])) ρ := rfl
@[simp] theorem q8_3_x (M : Mc) (ρ : En) : xSs M q8_3 ρ = kSeq M [] (xS M s8_7 ρ) := xSs_cons M _ _ _
@[simp] theorem s8_6_x (M : Mc) (ρ : En) : xS M s8_6 ρ = xS M (.ife (.cmp .Eq (.ix (.nm 0) (.k (.int 0))) (.k (.str [104, 101, 97, 112]))) q8_3 []) ρ := rfl
@[simp] theorem s8_8_x (M : Mc) (ρ : En) : xS M s8_8 ρ = xS M (.ret (.bi .tuple [.nm 4])) ρ := rfl
@[simp] theorem q8_0_x (M : Mc) (ρ : En) : xSs M q8_0 ρ = kSeq M [s8_1, s8_3, s8_4, s8_6, s8_8] (xS M s8_0 ρ) := xSs_cons M _ _ _
theorem T8 : tab L 8 = some f8 := rfl
@[simp] theorem m8 (W n : Nat) : (mkM (tab L) W n).mf 8 = some [false, false, false] := rfl
@[simp] theorem s9_0_x (M : Mc) (ρ : En) : xS M s9_0 ρ = xS M (.asg (.nm 1) true (.lst [])) ρ := rfl
@[simp] theorem s9_3_x (M : Mc) (ρ : En) : xS M s9_3 ρ = xS M (.ex (.mu 0 1 [.nm 2])) ρ := rfl
@[simp] theorem q9_2_x (M : Mc) (ρ : En) : xSs M q9_2 ρ = kSeq M [] (xS M s9_3 ρ) := xSs_cons M _ _ _
@[simp] theorem s9_2_x (M : Mc) (ρ : En) : xS M s9_2 ρ = xS M (.ife (.cmp .NotIn (.nm 2) (.nm 1)) q9_2 []) ρ := rfl
@[simp] theorem q9_1_x (M : Mc) (ρ : En) : xSs M q9_1 ρ = kSeq M [] (xS M s9_2 ρ) := xSs_cons M _ _ _
@[simp] theorem s9_1_x (M : Mc) (ρ : En) : xS M s9_1 ρ = xS M (.for (.nm 2) (.bin .Add (.nm 0) (.lst [.k (.str [97]), .k (.str [98]), .k (.str [99]), .k (.str [100])])) q9_1) ρ := rfl
@[simp] theorem s9_4_x (M : Mc) (ρ : En) : xS M s9_4 ρ = xS M (.ret (.nm 1)) ρ := rfl
@[simp] theorem q9_0_x (M : Mc) (ρ : En) : xSs M q9_0 ρ = kSeq M [s9_1, s9_4] (xS M s9_0 ρ) := xSs_cons M _ _ _
theorem T9 : tab L 9 = some f9 := rfl
@[simp] theorem m9 (W n : Nat) : (mkM (tab L) W n).mf 9 = some [false] := rfl
@[simp] theorem s10_0_x (M : Mc) (ρ : En) : xS M s10_0 ρ = xS M (.asg (.nm 2) false (.call 4 [.nm 1, .k (.int 40)])) ρ := rfl
@[simp] theorem s10_1_x (M : Mc) (ρ : En) : xS M s10_1 ρ = xS M (.asg (.nm 3) false (.call 9 [.nm 0])) ρ := rfl
@[simp] theorem s10_2_x (M : Mc) (ρ : En) : xS M s10_2 ρ = xS M (.asg (.nm 4) false (.bi .tuple [.lc [9] (.call 7 [.nm 9]) (.nm 9) (.sl (.nm 2) (some (.k (.int 1))) (some (.bin .Add (.k (.int 1)) (.bin .Mod (.ix (.nm 2) (.k (.int 0))) (.k (.int 5)))))) none])) ρ := rfl
@[simp] theorem s10_3_x (M : Mc) (ρ : En) : xS M s10_3 ρ = xS M (.asg (.nm 5) true (.lst [])) ρ := rfl
@[simp] theorem s10_5_x (M : Mc) (ρ : En) : xS M s10_5 ρ = xS M (.asg (.nm 8) false (.bin .Mult (.lst [.tup [.k (.str [115, 116, 111, 112])]]) (.ix (.lst [.bin .Add (.k (.int 1)) (.bin .Mod (.ix (.nm 2) (.bin .Add (.k (.int 6)) (.nm 6))) (.k (.int 3))), .bin .Add (.k (.int 1)) (.bin .Mod (.ix (.nm 2) (.bin .Add (.k (.int 6)) (.nm 6))) (.k (.int 12)))]) (.bin .Mod (.bin .FloorDiv (.ix (.nm 2) (.k (.int 10))) (.bin .Add (.nm 6) (.k (.int 1)))) (.k (.int 2)))))) ρ := rfl
@[simp] theorem s10_6_x (M : Mc) (ρ : En) : xS M s10_6 ρ = xS M (.ex (.mu 0 5 [.tup [.ix (.nm 3) (.bin .Mod (.bin .Add (.nm 6) (.ix (.nm 2) (.k (.int 11)))) (.k (.int 4))), .bin .Mod (.ix (.nm 2) (.bin .Add (.k (.int 12)) (.nm 6))) (.k (.int 3)), .bi .tuple [.nm 8]]])) ρ := rfl
@[simp] theorem q10_1_x (M : Mc) (ρ : En) : xSs M q10_1 ρ = kSeq M [s10_6] (xS M s10_5 ρ) := xSs_cons M _ _ _
@[simp] theorem s10_4_x (M : Mc) (ρ : En) : xS M s10_4 ρ = xS M (.for (.nm 6) (.bi .range [.bin .Add (.k (.int 1)) (.bin .Mod (.bin .FloorDiv (.ix (.nm 2) (.k (.int 0))) (.k (.int 5))) (.k (.int 4)))]) q10_1) ρ := rfl
@[simp] theorem s10_7_x (M : Mc) (ρ : En) : xS M s10_7 ρ = xS M (.asg (.nm 7) false (.lc [9] (.ix (.ix (.nm 5) (.bin .Mod (.nm 9) (.bi .len [.nm 5]))) (.k (.int 0))) (.nm 9) (.sl (.nm 2) (some (.k (.int 16))) (some (.bin .Add (.k (.int 17)) (.bin .Mod (.ix (.nm 2) (.k (.int 20))) (.k (.int 4)))))) none)) ρ := rfl
@[simp] theorem s10_8_x (M : Mc) (ρ : En) : xS M s10_8 ρ = xS M (.ret (.tup [.nm 4, .bi .tuple [.nm 5], .bi .tuple [.nm 7]])) ρ := rfl
@[simp] theorem q10_0_x (M : Mc) (ρ : En) : xSs M q10_0 ρ = kSeq M [s10_1, s10_2, s10_3, s10_4, s10_7, s10_8] (xS M s10_0 ρ) := xSs_cons M _ _ _
theorem T10 : tab L 10 = some f10 := rfl
@[simp] theorem m10 (W n : Nat) : (mkM (tab L) W n).mf 10 = some [false, false] := rfl
@[simp] theorem s11_0_x (M : Mc) (ρ : En) : xS M s11_0 ρ = xS M (.asg (.tup [.nm 6, .nm 7, .nm 8]) false (.nm 0)) ρ := rfl
@[simp] theorem s11_1_x (M : Mc) (ρ : En) : xS M s11_1 ρ = xS M (.asg (.nm 4) false (.ix (.nm 7) (.bin .Mod (.bin .FloorDiv (.nm 2) (.k (.int 4))) (.bi .len [.nm 7])))) ρ := rfl
@[simp] theorem s11_2_x (M : Mc) (ρ : En) : xS M s11_2 ρ = xS M (.asg (.nm 5) false (.ix (.lst [.k (.int 1), .k (.int 1), .k (.int 2), .k (.int 1), .k (.int 3), .k (.int 6)]) (.bin .Mod (.nm 3) (.k (.int 6))))) ρ := rfl
@[simp] theorem s11_4_x (M : Mc) (ρ : En) : xS M s11_4 ρ = xS M (.ret (.tup [.k (.str [104, 97, 115]), .ix (.nm 4) (.k (.int 0)), .bin .Mod (.bin .FloorDiv (.nm 2) (.k (.int 16))) (.ix (.nm 4) (.k (.int 1))), .bin .Mod (.bin .FloorDiv (.nm 3) (.k (.int 6))) (.k (.int 3)), .nm 5])) ρ := rfl
@[simp] theorem q11_1_x (M : Mc) (ρ : En) : xSs M q11_1 ρ = kSeq M [] (xS M s11_4 ρ) := xSs_cons M _ _ _
@[simp] theorem s11_3_x (M : Mc) (ρ : En) : xS M s11_3 ρ = xS M (.ife (.and [.cmp .Eq (.bin .Mod (.nm 2) (.k (.int 4))) (.k (.int 1)), .cmp .Gt (.ix (.nm 4) (.k (.int 1))) (.k (.int 0))]) q11_1 []) ρ := rfl
@[simp] theorem s11_6_x (M : Mc) (ρ : En) : xS M s11_6 ρ = xS M (.ret (.tup [.k (.str [111, 110]), .bin .Mod (.bin .FloorDiv (.nm 2) (.k (.int 16))) (.bi .len [.nm 6]), .ix (.nm 1) (.bin .Mod (.bin .FloorDiv (.nm 3) (.k (.int 6))) (.k (.int 4))), .bin .Add (.k (.int 1)) (.bin .Mod (.nm 3) (.k (.int 2)))])) ρ := rfl
@[simp] theorem q11_2_x (M : Mc) (ρ : En) : xSs M q11_2 ρ = kSeq M [] (xS M s11_6 ρ) := xSs_cons M _ _ _
@[simp] theorem s11_5_x (M : Mc) (ρ : En) : xS M s11_5 ρ = xS M (.ife (.and [.cmp .Gt (.bin .Mod (.nm 2) (.k (.int 4))) (.k (.int 1)), .cmp .Gt (.bi .len [.nm 6]) (.k (.int 0))]) q11_2 []) ρ := rfl
@[simp] theorem s11_7_x (M : Mc) (ρ : En) : xS M s11_7 ρ = xS M (.ret (.tup [.k (.str [97, 116]), .ix (.nm 4) (.k (.int 0)), .bin .Mod (.bin .FloorDiv (.nm 3) (.k (.int 6))) (.bin .Add (.bi .len [.ix (.nm 4) (.k (.int 2))]) (.k (.int 1))), .nm 5])) ρ := rfl
@[simp] theorem q11_0_x (M : Mc) (ρ : En) : xSs M q11_0 ρ = kSeq M [s11_1, s11_2, s11_3, s11_5, s11_7] (xS M s11_0 ρ) := xSs_cons M _ _ _
theorem T11 : tab L 11 = some f11 := rfl
@[simp] theorem m11 (W n : Nat) : (mkM (tab L) W n).mf 11 = some [false, false, false, false] := rfl
@[simp] theorem s12_1_x (M : Mc) (ρ : En) : xS M s12_1 ρ = xS M (.ret (.tup [.k (.str [97, 116]), .ix (.ix (.ix (.nm 0) (.k (.int 1))) (.k (.int 0))) (.k (.int 0)), .k (.int 0), .k (.int 1)])) ρ := rfl
@[simp] theorem q12_1_x (M : Mc) (ρ : En) : xSs M q12_1 ρ = kSeq M [] (xS M s12_1 ρ) := xSs_cons M _ _ _
@[simp] theorem s12_0_x (M : Mc) (ρ : En) : xS M s12_0 ρ = xS M (.ife (.cmp .Lt (.bi .len [.nm 2]) (.k (.int 3))) q12_1 []) ρ := rfl
@[simp] theorem s12_2_x (M : Mc) (ρ : En) : xS M s12_2 ρ = xS M (.asg (.nm 4) false (.mu 4 2 [.k (.int 0)])) ρ := rfl
@[simp] theorem s12_4_x (M : Mc) (ρ : En) : xS M s12_4 ρ = xS M (.ret (.call 11 [.nm 0, .nm 1, .bin .FloorDiv (.nm 4) (.k (.int 5)), .mu 4 2 [.k (.int 0)]])) ρ := rfl
@[simp] theorem q12_2_x (M : Mc) (ρ : En) : xSs M q12_2 ρ = kSeq M [] (xS M s12_4 ρ) := xSs_cons M _ _ _
@[simp] theorem s12_3_x (M : Mc) (ρ : En) : xS M s12_3 ρ = xS M (.ife (.or [.cmp .Eq (.nm 3) (.k (.int 1)), .cmp .Lt (.bin .Mod (.nm 4) (.k (.int 5))) (.k (.int 2))]) q12_2 []) ρ := rfl
@[simp] theorem s12_6_x (M : Mc) (ρ : En) : xS M s12_6 ρ = xS M (.ret (.tup [.k (.str [110, 111, 116]), .call 12 [.nm 0, .nm 1, .nm 2, .bin .Sub (.nm 3) (.k (.int 1))]])) ρ := rfl
@[simp] theorem q12_3_x (M : Mc) (ρ : En) : xSs M q12_3 ρ = kSeq M [] (xS M s12_6 ρ) := xSs_cons M _ _ _
@[simp] theorem s12_5_x (M : Mc) (ρ : En) : xS M s12_5 ρ = xS M (.ife (.cmp .Eq (.bin .Mod (.nm 4) (.k (.int 5))) (.k (.int 2))) q12_3 []) ρ := rfl
@[simp] theorem s12_7_x (M : Mc) (ρ : En) : xS M s12_7 ρ = xS M (.asg (.nm 5) true (.lst [])) ρ := rfl
@[simp] theorem s12_9_x (M : Mc) (ρ : En) : xS M s12_9 ρ = xS M (.ex (.mu 0 5 [.call 12 [.nm 0, .nm 1, .nm 2, .bin .Sub (.nm 3) (.k (.int 1))]])) ρ := rfl
@[simp] theorem q12_4_x (M : Mc) (ρ : En) : xSs M q12_4 ρ = kSeq M [] (xS M s12_9 ρ) := xSs_cons M _ _ _
@[simp] theorem s12_8_x (M : Mc) (ρ : En) : xS M s12_8 ρ = xS M (.for (.nm 6) (.bi .range [.ix (.lst [.k (.int 1), .k (.int 2), .k (.int 2), .k (.int 3), .k (.int 4)]) (.bin .Mod (.bin .FloorDiv (.nm 4) (.k (.int 5))) (.k (.int 5)))]) q12_4) ρ := rfl
@[simp] theorem s12_10_x (M : Mc) (ρ : En) : xS M s12_10 ρ = xS M (.ret (.bin .Add (.tup [.ix (.lst [.k (.str [97, 110, 100]), .k (.str [111, 114])]) (.bin .Mod (.nm 4) (.k (.int 2)))]) (.bi .tuple [.nm 5]))) ρ := rfl
@[simp] theorem q12_0_x (M : Mc) (ρ : En) : xSs M q12_0 ρ = kSeq M [s12_2, s12_3, s12_5, s12_7, s12_8, s12_10] (xS M s12_0 ρ) := xSs_cons M _ _ _
theorem T12 : tab L 12 = some f12 := rfl
@[simp] theorem m12 (W n : Nat) : (mkM (tab L) W n).mf 12 = some [false, false, true, false] := rfl
@[simp] theorem s13_1_x (M : Mc) (ρ : En) : xS M s13_1 ρ = xS M (.ret (.nm 1)) ρ := rfl
@[simp] theorem q13_1_x (M : Mc) (ρ : En) : xSs M q13_1 ρ = kSeq M [] (xS M s13_1 ρ) := xSs_cons M _ _ _
@[simp] theorem s13_0_x (M : Mc) (ρ : En) : xS M s13_0 ρ = xS M (.ife (.or [.cmp .Eq (.ix (.nm 1) (.k (.int 0))) (.k (.str [97, 116])), .cmp .Eq (.ix (.nm 1) (.k (.int 0))) (.k (.str [104, 97, 115]))]) q13_1 []) ρ := rfl
@[simp] theorem s13_3_x (M : Mc) (ρ : En) : xS M s13_3 ρ = xS M (.ex (.mu 0 2 [.nm 1])) ρ := rfl
@[simp] theorem s13_5_x (M : Mc) (ρ : En) : xS M s13_5 ρ = xS M (.ret (.tup [.k (.str [97, 116]), .ix (.ix (.ix (.nm 0) (.k (.int 1))) (.k (.int 0))) (.k (.int 0)), .k (.int 0), .k (.int 1)])) ρ := rfl
@[simp] theorem q13_3_x (M : Mc) (ρ : En) : xSs M q13_3 ρ = kSeq M [] (xS M s13_5 ρ) := xSs_cons M _ _ _
@[simp] theorem s13_4_x (M : Mc) (ρ : En) : xS M s13_4 ρ = xS M (.ife (.cmp .Gt (.bi .len [.nm 2]) (.k (.int 2))) q13_3 []) ρ := rfl
@[simp] theorem s13_6_x (M : Mc) (ρ : En) : xS M s13_6 ρ = xS M (.ret (.nm 1)) ρ := rfl
@[simp] theorem q13_2_x (M : Mc) (ρ : En) : xSs M q13_2 ρ = kSeq M [s13_4, s13_6] (xS M s13_3 ρ) := xSs_cons M _ _ _
@[simp] theorem s13_2_x (M : Mc) (ρ : En) : xS M s13_2 ρ = xS M (.ife (.cmp .Eq (.ix (.nm 1) (.k (.int 0))) (.k (.str [111, 110]))) q13_2 []) ρ := rfl
@[simp] theorem s13_7_x (M : Mc) (ρ : En) : xS M s13_7 ρ = xS M (.asg (.nm 3) true (.lst [])) ρ := rfl
@[simp] theorem s13_9_x (M : Mc) (ρ : En) : xS M s13_9 ρ = xS M (.ex (.mu 0 3 [.call 13 [.nm 0, .nm 4, .nm 2]])) ρ := rfl
@[simp] theorem q13_4_x (M : Mc) (ρ : En) : xSs M q13_4 ρ = kSeq M [] (xS M s13_9 ρ) := xSs_cons M _ _ _
@[simp] theorem s13_8_x (M : Mc) (ρ : En) : xS M s13_8 ρ = xS M (.for (.nm 4) (.sl (.nm 1) (some (.k (.int 1))) none) q13_4) ρ := rfl
@[simp] theorem s13_10_x (M : Mc) (ρ : En) : xS M s13_10 ρ = xS M (.ret (.bin .Add (.sl (.nm 1) none (some (.k (.int 1)))) (.bi .tuple [.nm 3]))) ρ := rfl
@[simp] theorem q13_0_x (M : Mc) (ρ : En) : xSs M q13_0 ρ = kSeq M [s13_2, s13_7, s13_8, s13_10] (xS M s13_0 ρ) := xSs_cons M _ _ _
theorem T13 : tab L 13 = some f13 := rfl
@[simp] theorem m13 (W n : Nat) : (mkM (tab L) W n).mf 13 = some [false, false, true] := rfl
@[simp] theorem s14_0_x (M : Mc) (ρ : En) : xS M s14_0 ρ = xS M (.ret (.callf 13 [.nm 0, .call 12 [.nm 0, .nm 1, .nm 2, .k (.int 4)]] (.lst []))) ρ := rfl
@[simp] theorem q14_0_x (M : Mc) (ρ : En) : xSs M q14_0 ρ = kSeq M [] (xS M s14_0 ρ) := xSs_cons M _ _ _
theorem T14 : tab L 14 = some f14 := rfl
@[simp] theorem m14 (W n : Nat) : (mkM (tab L) W n).mf 14 = some [false, false, true] := rfl
@[simp] theorem s15_1_x (M : Mc) (ρ : En) : xS M s15_1 ρ = xS M (.ret (.nm 1)) ρ := rfl
@[simp] theorem q15_1_x (M : Mc) (ρ : En) : xSs M q15_1 ρ = kSeq M [] (xS M s15_1 ρ) := xSs_cons M _ _ _
@[simp] theorem s15_0_x (M : Mc) (ρ : En) : xS M s15_0 ρ = xS M (.ife (.cmp .Eq (.ix (.nm 0) (.k (.int 0))) (.k (.str [111, 110]))) q15_1 []) ρ := rfl
@[simp] theorem s15_3_x (M : Mc) (ρ : En) : xS M s15_3 ρ = xS M (.ret (.k (.bl false))) ρ := rfl
@[simp] theorem q15_2_x (M : Mc) (ρ : En) : xSs M q15_2 ρ = kSeq M [] (xS M s15_3 ρ) := xSs_cons M _ _ _
@[simp] theorem s15_2_x (M : Mc) (ρ : En) : xS M s15_2 ρ = xS M (.ife (.or [.cmp .Eq (.ix (.nm 0) (.k (.int 0))) (.k (.str [97, 116])), .cmp .Eq (.ix (.nm 0) (.k (.int 0))) (.k (.str [104, 97, 115]))]) q15_2 []) ρ := rfl
@[simp] theorem s15_4_x (M : Mc) (ρ : En) : xS M s15_4 ρ = xS M (.asg (.nm 2) true (.k (.bl false))) ρ := rfl
@[simp] theorem s15_7_x (M : Mc) (ρ : En) : xS M s15_7 ρ = xS M (.asg (.nm 2) true (.k (.bl true))) ρ := rfl
@[simp] theorem q15_4_x (M : Mc) (ρ : En) : xSs M q15_4 ρ = kSeq M [] (xS M s15_7 ρ) := xSs_cons M _ _ _
@[simp] theorem s15_6_x (M : Mc) (ρ : En) : xS M s15_6 ρ = xS M (.ife (.call 15 [.nm 3, .or [.nm 1, .cmp .Eq (.ix (.nm 0) (.k (.int 0))) (.k (.str [110, 111, 116]))]]) q15_4 []) ρ := rfl
@[simp] theorem q15_3_x (M : Mc) (ρ : En) : xSs M q15_3 ρ = kSeq M [] (xS M s15_6 ρ) := xSs_cons M _ _ _
@[simp] theorem s15_5_x (M : Mc) (ρ : En) : xS M s15_5 ρ = xS M (.for (.nm 3) (.sl (.nm 0) (some (.k (.int 1))) none) q15_3) ρ := rfl
@[simp] theorem s15_8_x (M : Mc) (ρ : En) : xS M s15_8 ρ = xS M (.ret (.nm 2)) ρ := rfl
@[simp] theorem q15_0_x (M : Mc) (ρ : En) : xSs M q15_0 ρ = kSeq M [s15_2, s15_4, s15_5, s15_8] (xS M s15_0 ρ) := xSs_cons M _ _ _
theorem T15 : tab L 15 = some f15 := rfl
@[simp] theorem m15 (W n : Nat) : (mkM (tab L) W n).mf 15 = some [false, false] := rfl
@[simp] theorem s16_0_x (M : Mc) (ρ : En) : xS M s16_0 ρ = xS M (.asg (.nm 1) false (.tup [.k (.str [111, 110]), .bin .Mod (.ix (.nm 0) (.k (.int 0))) (.k (.int 4)), .k (.str [97]), .bin .Add (.k (.int 1)) (.bin .Mod (.bin .FloorDiv (.ix (.nm 0) (.k (.int 0))) (.k (.int 4))) (.k (.int 2)))])) ρ := rfl
@[simp] theorem s16_1_x (M : Mc) (ρ : En) : xS M s16_1 ρ = xS M (.asg (.nm 2) false (.tup [.k (.str [97, 116]), .k (.str [98]), .bin .Mod (.ix (.nm 0) (.k (.int 1))) (.k (.int 13)), .bin .Add (.k (.int 1)) (.bin .Mod (.bin .FloorDiv (.ix (.nm 0) (.k (.int 1))) (.k (.int 13))) (.k (.int 6)))])) ρ := rfl
@[simp] theorem s16_2_x (M : Mc) (ρ : En) : xS M s16_2 ρ = xS M (.asg (.nm 3) false (.ix (.lst [.nm 1, .nm 2, .tup [.k (.str [110, 111, 116]), .nm 1], .tup [.k (.str [110, 111, 116]), .nm 2]]) (.bin .Mod (.ix (.nm 0) (.k (.int 2))) (.k (.int 4))))) ρ := rfl
@[simp] theorem s16_3_x (M : Mc) (ρ : En) : xS M s16_3 ρ = xS M (.asg (.nm 4) false (.ix (.lst [.nm 1, .nm 2, .tup [.k (.str [110, 111, 116]), .nm 1], .tup [.k (.str [110, 111, 116]), .nm 2]]) (.bin .Mod (.bin .FloorDiv (.ix (.nm 0) (.k (.int 2))) (.k (.int 4))) (.k (.int 4))))) ρ := rfl
@[simp] theorem s16_4_x (M : Mc) (ρ : En) : xS M s16_4 ρ = xS M (.asg (.nm 5) false (.lst [.tup [.k (.str [97, 110, 100]), .nm 3, .nm 4], .tup [.k (.str [111, 114]), .nm 4, .nm 3], .tup [.k (.str [110, 111, 116]), .tup [.k (.str [110, 111, 116]), .nm 1]], .tup [.k (.str [110, 111, 116]), .tup [.k (.str [97, 110, 100]), .nm 2, .nm 3]]])) ρ := rfl
@[simp] theorem s16_5_x (M : Mc) (ρ : En) : xS M s16_5 ρ = xS M (.ret (.bin .Add (.nm 5) (.lst [.nm 3, .tup [.k (.str [97, 110, 100]), .nm 2, .nm 2, .nm 2, .nm 3], .tup [.k (.str [110, 111, 116]), .tup [.k (.str [111, 114]), .nm 2, .nm 2, .nm 2, .tup [.k (.str [104, 97, 115]), .k (.str [98]), .k (.int 0), .k (.int 1), .k (.int 1)]]]]))) ρ := rfl
@[simp] theorem q16_0_x (M : Mc) (ρ : En) : xSs M q16_0 ρ = kSeq M [s16_1, s16_2, s16_3, s16_4, s16_5] (xS M s16_0 ρ) := xSs_cons M _ _ _
theorem T16 : tab L 16 = some f16 := rfl
@[simp] theorem m16 (W n : Nat) : (mkM (tab L) W n).mf 16 = some [false] := rfl
@[simp] theorem s17_0_x (M : Mc) (ρ : En) : xS M s17_0 ρ = xS M (.asg (.nm 1) false (.call 5 [.call 2 [.nm 0, .k (.int 0)]])) ρ := rfl
@[simp] theorem s17_1_x (M : Mc) (ρ : En) : xS M s17_1 ρ = xS M (.asg (.nm 2) false (.call 10 [.nm 1, .call 2 [.nm 0, .k (.int 1)]])) ρ := rfl
@[simp] theorem s17_3_x (M : Mc) (ρ : En) : xS M s17_3 ρ = xS M (.asg (.nm 4) false (.call 4 [.nm 3, .k (.int 60)])) ρ := rfl
@[simp] theorem s17_5_x (M : Mc) (ρ : En) : xS M s17_5 ρ = xS M (.asg (.nm 6) false (.call 1 [.nm 5])) ρ := rfl
@[simp] theorem s17_7_x (M : Mc) (ρ : En) : xS M s17_7 ρ = xS M (.ret (.k (.bl false))) ρ := rfl
@[simp] theorem q17_3_x (M : Mc) (ρ : En) : xSs M q17_3 ρ = kSeq M [] (xS M s17_7 ρ) := xSs_cons M _ _ _
@[simp] theorem s17_6_x (M : Mc) (ρ : En) : xS M s17_6 ρ = xS M (.ife (.or [.not (.isi (.nm 6) [1]), .cmp .Eq (.nm 6) (.call 15 [.nm 5, .k (.bl false)])]) q17_3 []) ρ := rfl
@[simp] theorem q17_2_x (M : Mc) (ρ : En) : xSs M q17_2 ρ = kSeq M [s17_6] (xS M s17_5 ρ) := xSs_cons M _ _ _
@[simp] theorem s17_4_x (M : Mc) (ρ : En) : xS M s17_4 ρ = xS M (.for (.nm 5) (.bin .Add (.lst [.callf 14 [.nm 2, .nm 1] (.sl (.nm 4) none (some (.k (.int 55))))]) (.call 16 [.sl (.nm 4) (some (.k (.int 55))) (some (.k (.int 58)))])) q17_2) ρ := rfl
@[simp] theorem q17_1_x (M : Mc) (ρ : En) : xSs M q17_1 ρ = kSeq M [s17_4] (xS M s17_3 ρ) := xSs_cons M _ _ _
@[simp] theorem s17_2_x (M : Mc) (ρ : En) : xS M s17_2 ρ = xS M (.for (.nm 3) (.bin .Add (.lst [.k (.int 0)]) (.sl (.nm 0) (some (.k (.int 2))) none)) q17_1) ρ := rfl
@[simp] theorem s17_8_x (M : Mc) (ρ : En) : xS M s17_8 ρ = xS M (.ret (.k (.bl true))) ρ := rfl
@[simp] theorem q17_0_x (M : Mc) (ρ : En) : xSs M q17_0 ρ = kSeq M [s17_1, s17_2, s17_8] (xS M s17_0 ρ) := xSs_cons M _ _ _
theorem T17 : tab L 17 = some f17 := rfl
@[simp] theorem m17 (W n : Nat) : (mkM (tab L) W n).mf 17 = some [false] := rfl
end G.K35
namespace G.K35
open G
variable {W n : Nat}
theorem c_cell (ns : List Int) (k : Nat) : ∃ v : Int, callF (tab L) W (n + 1) 2 [.val (.lst (ns.map .int)), .val (.int k)] = .ok (.int v) false [] := by
  rw [call_eq T2 rfl rfl]
  generalize mkM (tab L) W n = M
  by_cases h : k < ns.length
  · exact ⟨ns[k], by simp -implicitDefEqProofs [f2, h, ixD, ixn]⟩
  · exact ⟨0, by simp -implicitDefEqProofs [f2, h]⟩
theorem c_mix (c k : Int) (hk : 0 ≤ k ∧ k < 1000) : ∃ v : Int, 0 ≤ v ∧ callF (tab L) W (n + 1) 3 [.val (.int c), .val (.int k)] = .ok (.int v) false [] := by
  have pos : (0 : Int) < 2305843009213693951 := by decide
  have k1 : k.natAbs < 2 ^ 200 := by omega
  have k2 : (k + 1).natAbs < 2 ^ 200 := by omega
  have k3 : (c % 2305843009213693951 + 7919 * k + 3).natAbs < 2 ^ 200 := by omega
  have md : ∀ x : Int, (x % 2305843009213693951).natAbs < 2 ^ 200 := fun x => by omega
  rw [call_eq T3 rfl rfl]
  generalize mkM (tab L) W n = M
  refine ⟨_, ?_, by simp -implicitDefEqProofs [f3, bin_mul, bin_mod, bin_div, pos, k1, k2, k3, md]; rfl⟩
  exact Int.ediv_nonneg (Int.emod_nonneg _ (by decide)) (by decide)
theorem l_draws (M : Mc) (mf : M.mf 3 = some [false, false]) (c many : Int) (cc : ∀ i : Int, 0 ≤ i ∧ i < 1000 → ∃ v : Int, 0 ≤ v ∧ M.cf 3 [.val (.int c), .val (.int i)] = .ok (.int v) false []) : ∀ (m : Nat) (i : Int) (acc : List D) (rest : Int) (x4 : Option SV), 0 ≤ i → i + m ≤ 1000 → acc.length + m ≤ 5000 → ∃ (ys : List Int) (rest' : Int) (x' : Option SV), ys.length = m ∧ (∀ y ∈ ys, 0 ≤ y ∧ y < 1000) ∧
    xF M none (.nm 4) q4_1 (rangeL i m) [some (.val (.int c)), some (.val (.int many)), some (.own (.lst acc)), some (.val (.int rest)), x4]
      = .ok (.nx, [some (.val (.int c)), some (.val (.int many)), some (.own (.lst (acc ++ ys.map .int))), some (.val (.int rest')), x'])
  | 0, i, acc, rest, x4, _, _, _ => ⟨[], rest, x4, rfl, by simp, by simp [rangeL]⟩
  | m + 1, i, acc, rest, x4, h0, h, h' => by
    obtain ⟨v, v0, cv⟩ := cc i (by omega)
    have ha : acc.length < 1000000 := by omega
    have p1 : (0 : Int) < 1000 := by decide
    by_cases hb : 1000000000000000000 ≤ c ∧ 0 < rest
    · obtain ⟨ys, r', x', q1, q2, q3⟩ := l_draws M mf c many cc m (i + 1) (acc ++ [.int (rest % 1000)]) (rest / 1000) (some (.val (.int i))) (by omega) (by omega) (by simp; omega)
      refine ⟨rest % 1000 :: ys, r', x', by simp [q1], fun y hy => ?_, ?_⟩
      · rcases List.mem_cons.mp hy with rfl | hy
        · omega
        · exact q2 y hy
      · simp -implicitDefEqProofs [rangeL, xF_cons, hb.1, hb.2, bin_mod, bin_div, p1, app_ok ha, q3]
    · obtain ⟨ys, r', x', q1, q2, q3⟩ := l_draws M mf c many cc m (i + 1) (acc ++ [.int (v % 1000)]) rest (some (.val (.int i))) (by omega) (by omega) (by simp; omega)
      refine ⟨v % 1000 :: ys, r', x', by simp [q1], fun y hy => ?_, ?_⟩
      · rcases List.mem_cons.mp hy with rfl | hy
        · omega
        · exact q2 y hy
      · by_cases h1 : 1000000000000000000 ≤ c
        · have h2 : ¬ 0 < rest := fun z => hb ⟨h1, z⟩
          simp -implicitDefEqProofs [rangeL, xF_cons, h1, h2, bin_mod, p1, app_ok ha, q3, cv, mf]
        · simp -implicitDefEqProofs [rangeL, xF_cons, h1, bin_mod, p1, app_ok ha, q3, cv, mf]
theorem c_draws (c : Int) (many : Nat) (h : many ≤ 1000) : ∃ xs : List Int, xs.length = many ∧ (∀ x ∈ xs, 0 ≤ x ∧ x < 1000) ∧ callF (tab L) W (n + 2) 4 [.val (.int c), .val (.int many)] = .ok (.lst (xs.map .int)) true [] := by
  obtain ⟨ys, r', x', q1, q2, q3⟩ := l_draws (mkM (tab L) W (n + 1)) rfl c many (fun i hi => by rw [mk_cf]; exact c_mix c i hi) many 0 [] c none (by omega) (by omega) (by simp; omega)
  refine ⟨ys, q1, q2, ?_⟩
  rw [call_eq T4 rfl rfl]
  generalize mkM (tab L) W (n + 1) = M at *
  have sm : smallI (many : Int) = true := small_int (by omega) (by omega)
  simp at q3
  simp -implicitDefEqProofs [f4, bi_range sm, q3]
/-- one word -/
theorem w_words (M : Mc) (own : List Int) (hl : own.length = 9) (ho : ∀ x ∈ own, 0 ≤ x ∧ x < 1000) (x0 x1 x3 x4 x6 : Option SV) (h6 : isOwn (some x6) = false) :
    ∃ w : List Nat, WordOk w ∧ xE M (.mt 0 (.k (.str [])) [.lc [6] (.ix (.nm 2) (.bin .Mod (.ix (.nm 5) (.bin .Add (.k (.int 1)) (.nm 6))) (.k (.int 26)))) (.nm 6) (.bi .range [.bin .Add (.k (.int 1)) (.bin .Mod (.ix (.nm 5) (.k (.int 0))) (.k (.int 8)))]) none])
      [x0, x1, some (.val (.str signs)), x3, x4, some (.val (.lst (own.map .int))), x6] = .ok (.str w, false, [x0, x1, some (.val (.str signs)), x3, x4, some (.val (.lst (own.map .int))), x6]) := by
  have p8 : (0 : Int) < 8 := by decide
  have p26 : (0 : Int) < 26 := by decide
  obtain ⟨a, ha⟩ : ∃ a, own[0]? = some a := ⟨_, List.getElem?_eq_getElem (by omega)⟩
  have g0 : ixD (.lst (own.map .int)) (.int 0) = some (.int a) := ix_lst (by decide) (by simp [ha])
  have sm : smallI (1 + a % 8) = true := small_int (by omega) (by omega)
  obtain ⟨es, q1, q2, q3⟩ := lcL_ex (P := fun e => ∃ c : Nat, (97 ≤ c ∧ c ≤ 122) ∧ e = .str [c]) (own := [6]) (g := none) (tn := turn M (.ix (.nm 2) (.bin .Mod (.ix (.nm 5) (.bin .Add (.k (.int 1)) (.nm 6))) (.k (.int 26)))) (.nm 6) none)
    (ρ := [x0, x1, some (.val (.str signs)), x3, x4, some (.val (.lst (own.map .int))), none]) rfl (ds := rangeL 0 (1 + a % 8).toNat) (fun d hd => by
      obtain ⟨j, rfl, j1, j2⟩ := rgL_mem hd
      obtain ⟨b, hb⟩ : ∃ b, own[(1 + j).toNat]? = some b := ⟨_, List.getElem?_eq_getElem (by omega)⟩
      have g1 : ixD (.lst (own.map .int)) (.int (1 + j)) = some (.int b) := ix_lst (by omega) (by simp [hb])
      obtain ⟨c, hc, hc1, hc2⟩ := sign_atP b
      have g2 : ixD (.str signs) (.int (b % 26)) = some (.str [c]) := ix_str (by omega) hc
      generalize signs = sg at *
      exact ⟨_, _, ⟨c, ⟨hc1, hc2⟩, rfl⟩, by simp -implicitDefEqProofs [g1, g2, bin_mod, p26]; rfl, by simp [wip]⟩)
  obtain ⟨ys, rfl, q4⟩ := map_ofP (f := fun c : Nat => D.str [c]) (P := fun y => 97 ≤ y ∧ y ≤ 122) (es := es) (fun e he => by
    obtain ⟨c, hc, rfl⟩ := q2 e he
    exact ⟨c, rfl, hc⟩)
  have em : (ys.map fun c : Nat => D.str [c]) = (ys.map fun c => [c]).map D.str := by rw [List.map_map]; rfl
  rw [em] at q1 q3
  have jn : mtD 0 (.str []) [.lst ((ys.map fun c => [c]).map D.str)] = some (.str (joinL [] (ys.map fun c => [c])), false) := join_ok (fun y hy => by
    obtain ⟨c, _, rfl⟩ := List.mem_map.mp hy
    simp) (by
    simp only [List.length_map, rgL_len] at q1 ⊢
    omega) (by simp)
  have jl : ∀ zs : List Nat, joinL [] (zs.map fun c => [c]) = zs := fun zs => by
    induction zs with
    | nil => rfl
    | cons z zs ih =>
      cases zs with
      | nil => rfl
      | cons y zs => simpa [joinL] using ih
  rw [jl] at jn
  have ln : decide (line ≤ (rangeL 0 (1 + a % 8).toNat).length) = false := by
    rw [rgL_len]
    have : line = 16777216 := rfl
    simp only [decide_eq_false_iff_not]
    omega
  refine ⟨ys, ⟨?_, ?_, q4⟩, ?_⟩
  · simp only [List.length_map, rgL_len] at q1; omega
  · simp only [List.length_map, rgL_len] at q1; omega
  generalize signs = sg at *
  generalize (ys.map fun c => [c]).map D.str = yd at *
  simp -implicitDefEqProofs [g0, bin_mod, p8, bi_range sm, h6, ln, wip, q3, jn, back]
theorem l_words (M : Mc) (x0 : Option SV) (xs : List Int) (hx : xs.length = 36) (ho : ∀ x ∈ xs, 0 ≤ x ∧ x < 1000) : ∀ (m : Nat) (j : Int) (acc : List D) (x4 x5 x6 : Option SV), 0 ≤ j → j + m ≤ 4 → acc.length + m ≤ 100 → isOwn (some x6) = false → ∃ (ws : List (List Nat)) (y4 y5 y6 : Option SV), ws.length = m ∧ (∀ w ∈ ws, WordOk w) ∧
    xF M none (.nm 4) q5_1 (rangeL j m) [x0, some (.val (.lst (xs.map .int))), some (.val (.str signs)), some (.own (.lst acc)), x4, x5, x6] = .ok (.nx, [x0, some (.val (.lst (xs.map .int))), some (.val (.str signs)), some (.own (.lst (acc ++ ws.map .str))), y4, y5, y6])
  | 0, j, acc, x4, x5, x6, _, _, _, _ => ⟨[], x4, x5, x6, rfl, fun _ h => (nomatch h), by simp [rangeL]⟩
  | m + 1, j, acc, x4, x5, x6, h0, h, h1, h6 => by
    have ct := cut_at xs (9 * j) (9 * j + 9) (by omega) (by omega) (by omega)
    have pos : j.natAbs < 2 ^ 200 := by omega
    obtain ⟨w, wo, hw⟩ := w_words M ((xs.drop (9 * j).toNat).take (9 * j + 9 - 9 * j).toNat) (by simp; omega) (fun x hx' => ho x (List.mem_of_mem_drop (List.mem_of_mem_take hx'))) x0 (some (.val (.lst (xs.map .int)))) (some (.own (.lst acc))) (some (.val (.int j))) x6 h6
    rw [← ct] at hw
    obtain ⟨ws, y4, y5, y6, q1, q0, q2⟩ := l_words M x0 xs hx ho m (j + 1) (acc ++ [.str w]) (some (.val (.int j))) (some (.val (.lst (cut (xs.map .int) (some (9 * j)) (some (9 * j + 9)))))) x6 (by omega) (by omega) (by simp; omega) h6
    refine ⟨w :: ws, y4, y5, y6, by simp [q1], fun x hx => ?_, ?_⟩
    · rcases List.mem_cons.mp hx with rfl | hx
      · exact wo
      · exact q0 x hx
    have ap : muD 0 (.lst acc) [.str w] = some (.non, .lst (acc ++ [.str w])) := app_ok (by omega)
    generalize signs = sg at *
    have b9 : binD .Mult (.int 9) (.int j) = some (.int (9 * j), false) := bin_mul (by decide) pos
    simp -implicitDefEqProofs [-xE_mt, rangeL, xF_cons, b9, hw, ap, q2]
theorem c_words (c : Int) : ∃ ws : List (List Nat), ws.length = 4 ∧ (∀ w ∈ ws, WordOk w) ∧ callF (tab L) W (n + 3) 5 [.val (.int c)] = .ok (.lst (ws.map .str)) true [] := by
  obtain ⟨xs, h1, h2, h3⟩ := c_draws (W := W) (n := n) c 36 (by omega)
  obtain ⟨ws, y4, y5, y6, q1, q0, q2⟩ := l_words (mkM (tab L) W (n + 2)) (some (.val (.int c))) xs h1 h2 4 0 [] none none none (by omega) (by omega) (by simp) rfl
  have mf : (mkM (tab L) W (n + 2)).mf 4 = some [false, false] := rfl
  have cf : (mkM (tab L) W (n + 2)).cf 4 [.val (.int c), .val (.int 36)] = .ok (.lst (xs.map .int)) true [] := by rw [mk_cf]; exact h3
  refine ⟨ws, q1, q0, ?_⟩
  rw [call_eq T5 rfl rfl]
  generalize mkM (tab L) W (n + 2) = M at *
  have sm : biD .range [.int 4] = some (.lst (rangeL 0 4), false) := bi_range (by decide +kernel)
  generalize rangeL 0 4 = rg at *
  simp -implicitDefEqProofs [signs] at q2
  simp -implicitDefEqProofs [f5, mf, cf, sm, q2]
theorem c_roadP (d : Int) (hd : 0 ≤ d) : ∃ r : Rdp, RdOk r ∧ callF (tab L) W (n + 1) 7 [.val (.int d)] = .ok (rdD r) false [] := by
  have p6 : (0 : Int) < 6 := by decide
  have p2 : (0 : Int) < 2 := by decide
  have p12 : (0 : Int) < 12 := by decide
  have p3 : (0 : Int) < 3 := by decide
  have p36 : (0 : Int) < 36 := by decide
  by_cases h : d % 6 = 0
  · refine ⟨⟨rowS, none, true⟩, ⟨.inl rfl, fun k hk => (nomatch hk), fun _ => ⟨rfl, rfl⟩⟩, ?_⟩
    rw [call_eq T7 rfl rfl]
    generalize mkM (tab L) W n = M
    simp -implicitDefEqProofs [f7, bin_mod, bin_div, p6, p2, p12, p3, p36, h, rdD, mD]
  · by_cases h2 : d / 6 % 2 = 0
    · have g : ixD (.lst [.str [114, 111, 119], .str [104, 101, 97, 112]]) (.int (d / 6 % 2)) = some (.str rowS) := ix_lst (by omega) (by rw [h2]; rfl)
      refine ⟨⟨rowS, some (1 + d / 12 % 3), decide (d / 36 % 2 = 1)⟩, ⟨.inl rfl, fun k hk => by cases hk; omega, fun hk => (nomatch hk)⟩, ?_⟩
      rw [call_eq T7 rfl rfl]
      generalize mkM (tab L) W n = M
      simp -implicitDefEqProofs [f7, bin_mod, bin_div, p6, p2, p12, p3, p36, h, g, rdD, mD]
    · have h3 : d / 6 % 2 = 1 := by omega
      have g : ixD (.lst [.str [114, 111, 119], .str [104, 101, 97, 112]]) (.int (d / 6 % 2)) = some (.str heapS) := ix_lst (by omega) (by rw [h3]; rfl)
      refine ⟨⟨heapS, some (1 + d / 12 % 3), decide (d / 36 % 2 = 1)⟩, ⟨.inr rfl, fun k hk => by cases hk; omega, fun hk => (nomatch hk)⟩, ?_⟩
      rw [call_eq T7 rfl rfl]
      generalize mkM (tab L) W n = M
      simp -implicitDefEqProofs [f7, bin_mod, bin_div, p6, p2, p12, p3, p36, h, g, rdD, mD]
theorem l_names (M : Mc) (x0 : Option SV) : ∀ (ws acc : List (List Nat)) (x2 : Option SV), acc.Nodup → (∀ w ∈ acc, WordOk w) → (∀ w ∈ ws, WordOk w) → acc.length + ws.length ≤ 1000 → ∃ (ns : List (List Nat)) (y2 : Option SV), ns.Nodup ∧ (∀ w ∈ ns, WordOk w) ∧ (∀ w, w ∈ acc ∨ w ∈ ws → w ∈ ns) ∧ ns.length ≤ acc.length + ws.length ∧
    xF M none (.nm 2) q9_1 (ws.map .str) [x0, some (.own (.lst (acc.map .str))), x2] = .ok (.nx, [x0, some (.own (.lst (ns.map .str))), y2])
  | [], acc, x2, nd, ao, _, _ => ⟨acc, x2, nd, ao, fun w h => h.elim id fun h => (nomatch h), by simp, by simp⟩
  | w :: ws, acc, x2, nd, ao, wo, hl => by
    rw [List.map_cons, xF_cons]
    have hl' : acc.length + ws.length + 1 ≤ 1000 := by simpa [Nat.add_assoc] using hl
    by_cases c : w ∈ acc
    · obtain ⟨ns, y2, q1, q2, q3, q4, q5⟩ := l_names M x0 ws acc (some (.val (.str w))) nd ao (fun x hx => wo x (List.mem_cons_of_mem _ hx)) (by omega)
      refine ⟨ns, y2, q1, q2, fun x hx => ?_, by simp; omega, ?_⟩
      · rcases hx with hx | hx
        · exact q3 x (.inl hx)
        · rcases List.mem_cons.mp hx with rfl | hx
          · exact q3 _ (.inl c)
          · exact q3 x (.inr hx)
      · have e := notin_strs w acc
        rw [decide_eq_true c] at e
        generalize ws.map D.str = wd at *
        generalize acc.map D.str = ad at *
        simp -implicitDefEqProofs [e, q5]
    · obtain ⟨ns, y2, q1, q2, q3, q4, q5⟩ := l_names M x0 ws (acc ++ [w]) (some (.val (.str w))) (List.nodup_append.mpr ⟨nd, by simp, fun a ha b hb e => c (by rw [← List.mem_singleton.mp hb, ← e]; exact ha)⟩) (fun x hx => by
          rcases List.mem_append.mp hx with hx | hx
          · exact ao x hx
          · rw [List.mem_singleton.mp hx]; exact wo w List.mem_cons_self) (fun x hx => wo x (List.mem_cons_of_mem _ hx)) (by simp; omega)
      refine ⟨ns, y2, q1, q2, fun x hx => ?_, by simp at q4 ⊢; omega, ?_⟩
      · rcases hx with hx | hx
        · exact q3 x (.inl (List.mem_append_left _ hx))
        · rcases List.mem_cons.mp hx with rfl | hx
          · exact q3 _ (.inl (by simp))
          · exact q3 x (.inr hx)
      · have e := notin_strs w acc
        rw [decide_eq_false c] at e
        have ap : muD 0 (.lst (acc.map .str)) [.str w] = some (.non, .lst (acc.map .str ++ [.str w])) := app_ok (by simp; omega)
        rw [List.map_append] at q5
        simp only [List.map_cons, List.map_nil] at q5
        generalize ws.map D.str = wd at *
        generalize acc.map D.str = ad at *
        simp -implicitDefEqProofs [e, ap, q5]
theorem c_names (ws : List (List Nat)) (hw : ws.length = 4) (wo : ∀ w ∈ ws, WordOk w) : ∃ ns : List (List Nat), ns.Nodup ∧ (∀ w ∈ ns, WordOk w) ∧ 4 ≤ ns.length ∧ ns.length ≤ 8 ∧ callF (tab L) W (n + 1) 9 [.val (.lst (ws.map .str))] = .ok (.lst (ns.map .str)) true [] := by
  rw [call_eq T9 rfl rfl]
  generalize mkM (tab L) W n = M
  obtain ⟨ns, y2, q1, q2, q3, q4, q5⟩ := l_names M (some (.val (.lst (ws.map .str)))) (ws ++ [[97], [98], [99], [100]]) [] none (by simp) (fun _ h => (nomatch h)) (fun w h => by
    rcases List.mem_append.mp h with h | h
    · exact wo w h
    · have : ∀ w ∈ ([[97], [98], [99], [100]] : List (List Nat)), WordOk w := by decide
      exact this w h) (by simp; omega)
  refine ⟨ns, q1, q2, ?_, by simp at q4; omega, ?_⟩
  · have := nodup_len (m := [[97], [98], [99], [100]]) (l := ns) (by decide) fun a ha => q3 a (.inr (List.mem_append_right _ ha))
    simpa using this
  · have ad : binD .Add (.lst (ws.map .str)) (.lst [.str [97], .str [98], .str [99], .str [100]]) = some (.lst (ws.map .str ++ [.str [97], .str [98], .str [99], .str [100]]), true) := add_lstD (by simp; omega)
    rw [List.map_append] at q5
    simp only [List.map_cons, List.map_nil] at q5
    generalize ws.map D.str = wd at *
    generalize ns.map D.str = nd at *
    simp -implicitDefEqProofs [f9, ad, q5]
/-- the k-th role drawn -/
structure RoleP (ns : List (List Nat)) (d : Int) (k : Nat) (r : Role) : Prop where
  nm : ns[((k + d) % 4).toNat]? = some r.nm
  many : r.many ≤ 2
  sl : 1 ≤ r.steps.length ∧ r.steps.length ≤ 12
  st : ∀ s ∈ r.steps, s = .stop
theorem l_program (M : Mc) (ns : List (List Nat)) (hn : 4 ≤ ns.length) (xs : List Int) (hx : xs.length = 40) (ho : ∀ x ∈ xs, 0 ≤ x ∧ x < 1000) (d : Int) (hd : xs[11]? = some d) (x0 x1 x4 x7 x9 : Option SV) : ∀ (m k : Nat) (acc : List Role) (x6 x8 : Option SV), k + m ≤ 4 → acc.length + m ≤ 100 → ∃ (rs : List Role) (y6 y8 : Option SV), rs.length = m ∧ (∀ (i : Nat) r, rs[i]? = some r → RoleP ns d (k + i) r) ∧
    xF M none (.nm 6) q10_1 (rangeL k m) [x0, x1, some (.val (.lst (xs.map .int))), some (.val (.lst (ns.map .str))), x4, some (.own (.lst (acc.map roleD))), x6, x7, x8, x9] = .ok (.nx, [x0, x1, some (.val (.lst (xs.map .int))), some (.val (.lst (ns.map .str))), x4, some (.own (.lst ((acc ++ rs).map roleD))), y6, x7, y8, x9])
  | 0, k, acc, x6, x8, _, _ => ⟨[], x6, x8, rfl, fun i r h => by simp at h, by simp [rangeL]⟩
  | m + 1, k, acc, x6, x8, h, hl => by
    obtain ⟨a, ha⟩ : ∃ a, xs[6 + k]? = some a := ⟨_, List.getElem?_eq_getElem (by omega)⟩
    obtain ⟨b, hb⟩ : ∃ b, xs[10]? = some b := ⟨_, List.getElem?_eq_getElem (by omega)⟩
    obtain ⟨e, he⟩ : ∃ e, xs[12 + k]? = some e := ⟨_, List.getElem?_eq_getElem (by omega)⟩
    have a0 := ho a (List.mem_of_getElem? ha)
    have b0 := ho b (List.mem_of_getElem? hb)
    have d0 := ho d (List.mem_of_getElem? hd)
    have e0 := ho e (List.mem_of_getElem? he)
    have g6 : ixD (.lst (xs.map .int)) (.int (6 + k)) = some (.int a) := ix_lst (by omega) (by
      have : (6 + (k : Int)).toNat = 6 + k := by omega
      rw [this]; simp [ha])
    have g10 : ixD (.lst (xs.map .int)) (.int 10) = some (.int b) := ix_lst (by decide) (by simp [hb])
    have g11 : ixD (.lst (xs.map .int)) (.int 11) = some (.int d) := ix_lst (by decide) (by simp [hd])
    have g12 : ixD (.lst (xs.map .int)) (.int (12 + k)) = some (.int e) := ix_lst (by omega) (by
      have : (12 + (k : Int)).toNat = 12 + k := by omega
      rw [this]; simp [he])
    have p3 : (0 : Int) < 3 := by decide
    have p12 : (0 : Int) < 12 := by decide
    have p2 : (0 : Int) < 2 := by decide
    have p4 : (0 : Int) < 4 := by decide
    have pk : (0 : Int) < k + 1 := by omega
    have pk2 : (k : Int) + 1 < 1000000000 := by omega
    obtain ⟨s, s1, s2, g⟩ : ∃ s : Nat, 1 ≤ s ∧ s ≤ 12 ∧ ixD (.lst [.int (1 + a % 3), .int (1 + a % 12)]) (.int (b / (k + 1) % 2)) = some (.int s) := by
      have nn : 0 ≤ b / ((k : Int) + 1) := Int.ediv_nonneg b0.1 (by omega)
      generalize b / ((k : Int) + 1) = t at *
      by_cases h : t % 2 = 0
      · refine ⟨(1 + a % 3).toNat, by omega, by omega, ix_lst (by omega) (by rw [h]; show some (D.int (1 + a % 3)) = _; rw [Int.toNat_of_nonneg (by omega)])⟩
      · have h1 : t % 2 = 1 := by omega
        refine ⟨(1 + a % 12).toNat, by omega, by omega, ix_lst (by omega) (by rw [h1]; show some (D.int (1 + a % 12)) = _; rw [Int.toNat_of_nonneg (by omega)])⟩
    obtain ⟨w, hw⟩ : ∃ w, ns[(((k : Int) + d) % 4).toNat]? = some w := ⟨_, List.getElem?_eq_getElem (by omega)⟩
    have gn : ixD (.lst (ns.map .str)) (.int ((k + d) % 4)) = some (.str w) := ix_lst (by omega) (by simp [hw])
    have ml : binD .Mult (.lst [.tup [.str [115, 116, 111, 112]]]) (.int s) = some (.lst (List.replicate s (.tup [.str [115, 116, 111, 112]])), true) := mul_one_lst _ (by omega) (by omega)
    let r : Role := ⟨w, (e % 3).toNat, List.replicate s .stop⟩
    have rd : roleD r = .tup [.str w, .int (e % 3), .tup (List.replicate s (.tup [.str [115, 116, 111, 112]]))] := by
      show D.tup [.str w, .int ((e % 3).toNat : Int), .tup ((List.replicate s St.stop).map stD)] = _
      rw [List.map_replicate, Int.toNat_of_nonneg (by omega)]; rfl
    obtain ⟨rs, y6, y8, q1, q2, q3⟩ := l_program M ns hn xs hx ho d hd x0 x1 x4 x7 x9 m (k + 1) (acc ++ [r]) (some (.val (.int k))) (some (.val (.lst (List.replicate s (.tup [.str [115, 116, 111, 112]]))))) (by omega) (by simp; omega)
    refine ⟨r :: rs, y6, y8, by simp [q1], fun i z hz => ?_, ?_⟩
    · cases i with
      | zero =>
        simp at hz; subst hz
        exact ⟨hw, by show (e % 3).toNat ≤ 2; omega, by simp only [r, List.length_replicate]; omega, fun s hs => (List.mem_replicate.mp hs).2⟩
      | succ i =>
        simp at hz
        have := q2 i z hz
        rwa [show k + 1 + i = k + (i + 1) by omega] at this
    · have ap : muD 0 (.lst (acc.map roleD)) [roleD r] = some (.non, .lst (acc.map roleD ++ [roleD r])) := app_ok (by simp; omega)
      rw [rd] at ap
      simp only [List.map_append, List.map_cons, List.map_nil, rd, List.append_assoc, List.cons_append, List.nil_append] at q3
      rw [show rangeL (k : Int) (m + 1) = .int k :: rangeL ((k + 1 : Nat) : Int) m from rfl, xF_cons, List.map_append, List.map_cons, rd]
      generalize rangeL ((k + 1 : Nat) : Int) m = rg at *
      generalize List.replicate s (D.tup [.str [115, 116, 111, 112]]) = rp at *
      generalize xs.map D.int = xd at *
      generalize ns.map D.str = nd at *
      generalize acc.map roleD = ad at *
      generalize rs.map roleD = rsd at *
      simp -implicitDefEqProofs [g6, g10, g11, g12, bin_mod, bin_divB, p3, p12, p2, p4, pk, pk2, g, gn, ml, ap]
      simpa using q3
theorem nodup_roles {ns : List (List Nat)} (nd : ns.Nodup) (hn : 4 ≤ ns.length) {d : Int} (hd : 0 ≤ d) {rs : List Role} (hl : rs.length ≤ 4) (h : ∀ (i : Nat) r, rs[i]? = some r → RoleP ns d i r) : (rs.map (·.nm)).Nodup := by
  refine List.pairwise_iff_getElem.mpr fun i j hi hj ij e => ?_
  simp only [List.length_map] at hi hj
  simp only [List.getElem_map] at e
  have a := (h i rs[i] (List.getElem?_eq_getElem hi)).nm
  have b := (h j rs[j] (List.getElem?_eq_getElem hj)).nm
  rw [e, ← b] at a
  have := (List.getElem?_inj (by omega) nd).mp a
  omega
/-- a program drawn, all of whose steps are stops -/
theorem c_program (ws : List (List Nat)) (hw : ws.length = 4) (wo : ∀ w ∈ ws, WordOk w) (c : Int) : ∃ p : Prog, ProgOk [] p ∧ callF (tab L) W (n + 3) 10 [.val (.lst (ws.map .str)), .val (.int c)] = .ok (progD p) false [] := by
  obtain ⟨xs, h1, h2, h3⟩ := c_draws (W := W) (n := n) c 40 (by omega)
  obtain ⟨ns, n1, n2, n3, n4, n5⟩ := c_names (W := W) (n := n + 1) ws hw wo
  have mf : (mkM (tab L) W (n + 2)).mf 4 = some [false, false] := rfl
  have cf : (mkM (tab L) W (n + 2)).cf 4 [.val (.int c), .val (.int 40)] = .ok (.lst (xs.map .int)) true [] := by rw [mk_cf]; exact h3
  have mfn : (mkM (tab L) W (n + 2)).mf 9 = some [false] := rfl
  have cfn : (mkM (tab L) W (n + 2)).cf 9 [.val (.lst (ws.map .str))] = .ok (.lst (ns.map .str)) true [] := by rw [mk_cf]; exact n5
  have mfr : (mkM (tab L) W (n + 2)).mf 7 = some [false] := rfl
  have cfr : ∀ d : Int, 0 ≤ d → ∃ r : Rdp, RdOk r ∧ (mkM (tab L) W (n + 2)).cf 7 [.val (.int d)] = .ok (rdD r) false [] := fun d hd => by rw [mk_cf]; exact c_roadP (n := n + 1) d hd
  rw [call_eq T10 rfl rfl]
  generalize mkM (tab L) W (n + 2) = M at *
  obtain ⟨a, ha⟩ : ∃ a, xs[0]? = some a := ⟨_, List.getElem?_eq_getElem (by omega)⟩
  obtain ⟨d, hd⟩ : ∃ d, xs[11]? = some d := ⟨_, List.getElem?_eq_getElem (by omega)⟩
  obtain ⟨b, hb⟩ : ∃ b, xs[20]? = some b := ⟨_, List.getElem?_eq_getElem (by omega)⟩
  have a0 := h2 a (List.mem_of_getElem? ha)
  have d0 := h2 d (List.mem_of_getElem? hd)
  have b0 := h2 b (List.mem_of_getElem? hb)
  have g0 : ixD (.lst (xs.map .int)) (.int 0) = some (.int a) := ix_lst (by decide) (by simp [ha])
  have g20 : ixD (.lst (xs.map .int)) (.int 20) = some (.int b) := ix_lst (by decide) (by simp [hb])
  -- the roads
  have ct := cut_at xs 1 (1 + a % 5) (by decide) (by omega) (by omega)
  generalize hys : (xs.drop (1 : Int).toNat).take (1 + a % 5 - 1).toNat = ys at ct
  have yl : ys.length = (a % 5).toNat := by rw [← hys]; simp; omega
  have yo : ∀ y ∈ ys, 0 ≤ y := fun y hy => by
    rw [← hys] at hy
    exact (h2 y (List.mem_of_mem_drop (List.mem_of_mem_take hy))).1
  obtain ⟨es, e1, e2, e3⟩ := lcL_ex (P := fun e => ∃ r, e = rdD r ∧ RdOk r) (own := [9]) (g := none) (tn := turn M (.call 7 [.nm 9]) (.nm 9) none)
    (ρ := [some (.val (.lst (ws.map .str))), some (.val (.int c)), some (.val (.lst (xs.map .int))), some (.val (.lst (ns.map .str))), none, none, none, none, none, none]) rfl (ds := ys.map .int) (fun z hz => by
      obtain ⟨y, hy, rfl⟩ := List.mem_map.mp hz
      obtain ⟨r, r1, r2⟩ := cfr y (yo y hy)
      exact ⟨rdD r, _, ⟨r, rfl, r1⟩, by simp -implicitDefEqProofs [mfr, r2]; rfl, by simp [wip]⟩)
  obtain ⟨rds, rfl, rok⟩ := map_ofP (P := RdOk) e2
  have rl : rds.length = ys.length := by simpa using e1
  -- the roles
  obtain ⟨m, m1, m2, hm⟩ : ∃ m : Nat, 1 ≤ m ∧ m ≤ 4 ∧ 1 + a / 5 % 4 = (m : Int) := ⟨(1 + a / 5 % 4).toNat, by omega, by omega, by omega⟩
  obtain ⟨rs, y6, y8, q1, q2, q3⟩ := l_program M ns n3 xs h1 h2 d hd (some (.val (.lst (ws.map .str)))) (some (.val (.int c))) (some (.val (.tup (rds.map rdD)))) none none m 0 [] none none (by omega) (by simp; omega)
  simp only [Nat.zero_add] at q2
  have rn := nodup_roles n1 n3 d0.1 (by omega) q2
  have rp : ∀ r ∈ rs, ∃ i, RoleP ns d i r := fun r hr => by
    obtain ⟨i, hi⟩ := List.mem_iff_getElem?.mp hr
    exact ⟨i, q2 i r hi⟩
  -- the hands
  have ct2 := cut_at xs 16 (17 + b % 4) (by decide) (by omega) (by omega)
  generalize hzs : (xs.drop (16 : Int).toNat).take (17 + b % 4 - 16).toNat = zs at ct2
  have zl : zs.length = (1 + b % 4).toNat := by rw [← hzs]; simp; omega
  have zo : ∀ z ∈ zs, 0 ≤ z := fun z hz => by
    rw [← hzs] at hz
    exact (h2 z (List.mem_of_mem_drop (List.mem_of_mem_take hz))).1
  have pm : (0 : Int) < m := by omega
  obtain ⟨fs, u1, u2, u3⟩ := lcL_ex (P := fun e => ∃ w, e = D.str w ∧ w ∈ rs.map (·.nm)) (own := [9]) (g := none) (tn := turn M (.ix (.ix (.nm 5) (.bin .Mod (.nm 9) (.bi .len [.nm 5]))) (.k (.int 0))) (.nm 9) none)
    (ρ := [some (.val (.lst (ws.map .str))), some (.val (.int c)), some (.val (.lst (xs.map .int))), some (.val (.lst (ns.map .str))), some (.val (.tup (rds.map rdD))), some (.own (.lst (rs.map roleD))), y6, none, y8, none]) rfl (ds := zs.map .int) (fun z hz => by
      obtain ⟨y, hy, rfl⟩ := List.mem_map.mp hz
      have y0 := zo y hy
      have v1 := Int.emod_nonneg y (show (m : Int) ≠ 0 by omega)
      have v2 := Int.emod_lt_of_pos y pm
      obtain ⟨r, hr⟩ : ∃ r, rs[(y % (m : Int)).toNat]? = some r := ⟨_, List.getElem?_eq_getElem (by omega)⟩
      have g : ixD (.lst (rs.map roleD)) (.int (y % m)) = some (roleD r) := ix_lst v1 (by simp [hr])
      have g2 : ixD (roleD r) (.int 0) = some (.str r.nm) := ix0 _ _
      have ll : biD .len [.lst (rs.map roleD)] = some (.int m, false) := by rw [len_lst, List.length_map, q1]
      have bm := bin_mod (a := y) pm
      generalize rs.map roleD = rsd at *
      refine ⟨.str r.nm, _, ⟨r.nm, rfl, List.mem_map.mpr ⟨r, List.mem_of_getElem? hr, rfl⟩⟩, by simp -implicitDefEqProofs [-len_lst, ll, bm, g, g2]; rfl, by simp [wip]⟩)
  obtain ⟨hs, rfl, hok⟩ := map_ofP (P := fun w => w ∈ rs.map (·.nm)) u2
  have hl : hs.length = zs.length := by simpa using u1
  refine ⟨⟨rds, rs, hs⟩, ?_, ?_⟩
  · refine ⟨rok, by show rds.length ≤ 4; omega, by show 1 ≤ rs.length ∧ rs.length ≤ 4; omega, rn, fun w hw => ?_, fun _ h => (nomatch h), by simp, fun r hr => ?_, fun r hr => ?_, fun r hr s hs => ?_, by show 1 ≤ hs.length ∧ hs.length ≤ 4; omega, hok⟩
    · obtain ⟨r, hr, rfl⟩ := List.mem_map.mp hw
      obtain ⟨i, hi⟩ := rp r hr
      exact n2 _ (List.mem_of_getElem? hi.nm)
    · obtain ⟨i, hi⟩ := rp r hr
      exact hi.many
    · obtain ⟨i, hi⟩ := rp r hr
      exact hi.sl
    · obtain ⟨i, hi⟩ := rp r hr
      rw [hi.st s hs]; trivial
  · have ln := ln_ok (l := ys.map D.int) (by simp; omega)
    have ln2 := ln_ok (l := zs.map D.int) (by simp; omega)
    have sm : smallI (m : Int) = true := small_int (by omega) (by omega)
    have p5 : (0 : Int) < 5 := by decide
    have p4 : (0 : Int) < 4 := by decide
    have rg : biD .range [.int (m : Int)] = some (.lst (rangeL 0 m), false) := by rw [bi_range sm]; rfl
    have rg0 : (rangeL ((0 : Nat) : Int) m) = rangeL 0 m := rfl
    rw [rg0] at q3
    simp only [List.map_nil, List.nil_append] at q3
    show fin f10 _ = .ok (.tup [.tup (rds.map rdD), .tup (rs.map roleD), .tup (hs.map .str)]) false []
    generalize rangeL 0 m = rgl at *
    generalize ws.map D.str = wsd at *
    generalize ns.map D.str = nsd at *
    generalize xs.map D.int = xsd at *
    generalize ys.map D.int = ysd at *
    generalize zs.map D.int = zsd at *
    generalize rds.map rdD = rdd at *
    generalize rs.map roleD = rsd at *
    generalize hs.map D.str = hsd at *
    simp -implicitDefEqProofs [f10, mf, cf, mfn, cfn, g0, g20, bin_mod, bin_div, p5, p4, ct, ln, wip, e3, back, hm, rg, q3, ct2, ln2, u3]
theorem c_leaf {p : Prog} {kinds : List (List Nat)} (ok : ProgOk kinds p) (ws : List (List Nat)) (hw : ws.length = 4) (wo : ∀ w ∈ ws, WordOk w) (d o : Int) (hd : 0 ≤ d) (ho : 0 ≤ o) :
    ∃ c : Cl, ClOk p c ∧ ht c = 0 ∧ callF (tab L) W (n + 1) 11 [.val (progD p), .val (.lst (ws.map .str)), .val (.int d), .val (.int o)] = .ok (clD c) false [] := by
  rw [call_eq T11 rfl rfl]
  generalize mkM (tab L) W n = M
  obtain ⟨m, hm1, hm2, gm⟩ : ∃ m : Int, 1 ≤ m ∧ m ≤ 6 ∧ ixD (.lst [.int 1, .int 1, .int 2, .int 1, .int 3, .int 6]) (.int (o % 6)) = some (.int m) := by
    have : o % 6 = 0 ∨ o % 6 = 1 ∨ o % 6 = 2 ∨ o % 6 = 3 ∨ o % 6 = 4 ∨ o % 6 = 5 := by omega
    rcases this with h | h | h | h | h | h <;> rw [h]
    · exact ⟨1, by decide, by decide, rfl⟩
    · exact ⟨1, by decide, by decide, rfl⟩
    · exact ⟨2, by decide, by decide, rfl⟩
    · exact ⟨1, by decide, by decide, rfl⟩
    · exact ⟨3, by decide, by decide, rfl⟩
    · exact ⟨6, by decide, by decide, rfl⟩
  obtain ⟨hn1, hn2⟩ := ok.nl
  have pn : (0 : Int) < (p.roles.length : Int) := by omega
  have v1 := Int.emod_nonneg (d / 4) (show (p.roles.length : Int) ≠ 0 by omega)
  have v2 := Int.emod_lt_of_pos (d / 4) pn
  have bn := bin_mod (a := d / 4) pn
  obtain ⟨r, hr⟩ : ∃ r, p.roles[(d / 4 % (p.roles.length : Int)).toNat]? = some r := ⟨_, List.getElem?_eq_getElem (by omega)⟩
  have rm := List.mem_of_getElem? hr
  have gr : ixD (.tup (p.roles.map roleD)) (.int (d / 4 % (p.roles.length : Int))) = some (roleD r) := ix_tup v1 (by simp [hr])
  have g0 : ixD (roleD r) (.int 0) = some (.str r.nm) := ix0 _ _
  have g1 : ixD (roleD r) (.int 1) = some (.int r.many) := ix1 _ _ _
  have g2 : ixD (roleD r) (.int 2) = some (.tup (r.steps.map stD)) := ix2 _ _ _ _
  have p6 : (0 : Int) < 6 := by decide
  have p4 : (0 : Int) < 4 := by decide
  have p2 : (0 : Int) < 2 := by decide
  have p3 : (0 : Int) < 3 := by decide
  have p16 : (0 : Int) < 16 := by decide
  have ll : biD .len [.tup (p.roles.map roleD)] = some (.int p.roles.length, false) := by rw [len_tup, List.length_map]
  have lr : biD .len [.tup (p.roads.map rdD)] = some (.int p.roads.length, false) := by rw [len_tup, List.length_map]
  have ls : biD .len [.tup (r.steps.map stD)] = some (.int r.steps.length, false) := by rw [len_tup, List.length_map]
  have pd : progD p = .tup [.tup (p.roads.map rdD), .tup (p.roles.map roleD), .tup (p.hands.map .str)] := rfl
  obtain ⟨w, hw'⟩ : ∃ w, ws[(o / 6 % 4).toNat]? = some w := ⟨_, List.getElem?_eq_getElem (by omega)⟩
  have gw : ixD (.lst (ws.map .str)) (.int (o / 6 % 4)) = some (.str w) := ix_lst (by omega) (by simp [hw'])
  have ww := wo w (List.mem_of_getElem? hw')
  have so := ok.sl r rm
  have ps : (0 : Int) < (r.steps.length : Int) + 1 := by omega
  rw [pd]
  by_cases c1 : d % 4 = 1 ∧ 0 < r.many
  · have pm : (0 : Int) < (r.many : Int) := by omega
    have bm := bin_mod (a := d / 16) pm
    have u1 := Int.emod_nonneg (d / 16) (show (r.many : Int) ≠ 0 by omega)
    have u2 := Int.emod_lt_of_pos (d / 16) pm
    refine ⟨.has r.nm (d / 16 % r.many) (o / 6 % 3) m, ?_, rfl, ?_⟩
    · simp only [ClOk]
      exact ⟨⟨r, rm, rfl, u1, u2⟩, by omega, hm1, hm2⟩
    · generalize p.roads.map rdD = rdd at *
      generalize p.roles.map roleD = rld at *
      generalize p.hands.map D.str = hd at *
      generalize ws.map D.str = wd at *
      generalize roleD r = rd at *
      generalize r.steps.map stD = sd at *
      simp -implicitDefEqProofs [-len_tup, f11, ll, lr, ls, bin_mod, bin_div, p6, p4, p2, p3, p16, bn, gr, gm, g0, g1, c1.1, c1.2, bn, bm, clD]
  · by_cases c2 : 1 < d % 4 ∧ 0 < p.roads.length
    · have pm : (0 : Int) < (p.roads.length : Int) := by omega
      have bm := bin_mod (a := d / 16) pm
      have u1 := Int.emod_nonneg (d / 16) (show (p.roads.length : Int) ≠ 0 by omega)
      have u2 := Int.emod_lt_of_pos (d / 16) pm
      refine ⟨.on (d / 16 % p.roads.length) w (1 + o % 2), ?_, rfl, ?_⟩
      · simp only [ClOk]
        exact ⟨⟨u1, u2⟩, ww, by omega⟩
      · have nz : ¬ d % 4 = 1 := by omega
        generalize p.roads.map rdD = rdd at *
        generalize p.roles.map roleD = rld at *
        generalize p.hands.map D.str = hd at *
        generalize ws.map D.str = wd at *
        generalize roleD r = rd at *
        generalize r.steps.map stD = sd at *
        simp -implicitDefEqProofs [-len_tup, f11, ll, lr, ls, bin_mod, bin_div, p6, p4, p2, p3, p16, bn, gr, gm, g0, g1, nz, c2.1, c2.2, bn, bm, gw, clD]
    · have u1 := Int.emod_nonneg (o / 6) (show (r.steps.length : Int) + 1 ≠ 0 by omega)
      have u2 := Int.emod_lt_of_pos (o / 6) ps
      refine ⟨.at_ r.nm (o / 6 % ((r.steps.length : Int) + 1)) m, ?_, rfl, ?_⟩
      · simp only [ClOk]
        exact ⟨⟨r, rm, rfl, u1, by omega⟩, hm1, hm2⟩
      · have z1 : decide (d % 4 = 1) = true → decide ((0 : Int) < (r.many : Int)) = false := fun h => by
          have h := of_decide_eq_true h
          exact decide_eq_false fun z => c1 ⟨h, by omega⟩
        have z2 : decide (1 < d % 4) = true → decide ((0 : Int) < (p.roads.length : Int)) = false := fun h => by
          have h := of_decide_eq_true h
          exact decide_eq_false fun z => c2 ⟨h, by omega⟩
        have e1 : cmpD .Eq (.int (d % 4)) (.int 1) = some (decide (d % 4 = 1)) := cmp_eq _ _
        have e2 : cmpD .Gt (.int (r.many : Int)) (.int 0) = some (decide ((0 : Int) < (r.many : Int))) := cmp_gt _ _
        have e3 : cmpD .Gt (.int (d % 4)) (.int 1) = some (decide (1 < d % 4)) := cmp_gt _ _
        have e4 : cmpD .Gt (.int (p.roads.length : Int)) (.int 0) = some (decide ((0 : Int) < (p.roads.length : Int))) := cmp_gt _ _
        generalize decide (d % 4 = 1) = t1 at *
        generalize decide ((0 : Int) < (r.many : Int)) = t2 at *
        generalize decide (1 < d % 4) = t3 at *
        generalize decide ((0 : Int) < (p.roads.length : Int)) = t4 at *
        generalize p.roads.map rdD = rdd at *
        generalize p.roles.map roleD = rld at *
        generalize p.hands.map D.str = hd at *
        generalize ws.map D.str = wd at *
        generalize roleD r = rd at *
        generalize r.steps.map stD = sd at *
        cases t1 <;> cases t3
        · simp -implicitDefEqProofs [-len_tup, -cmp_eq, -cmp_gt, f11, ll, lr, ls, bin_mod, bin_div, p6, p4, p2, p3, p16, bn, gr, gm, g0, g1, g2, e1, e3, ps, clD]
        · rw [z2 rfl] at e4
          simp -implicitDefEqProofs [-len_tup, -cmp_eq, -cmp_gt, f11, ll, lr, ls, bin_mod, bin_div, p6, p4, p2, p3, p16, bn, gr, gm, g0, g1, g2, e1, e3, e4, ps, clD]
        · rw [z1 rfl] at e2
          simp -implicitDefEqProofs [-len_tup, -cmp_eq, -cmp_gt, f11, ll, lr, ls, bin_mod, bin_div, p6, p4, p2, p3, p16, bn, gr, gm, g0, g1, g2, e1, e2, e3, ps, clD]
        · rw [z1 rfl] at e2
          rw [z2 rfl] at e4
          simp -implicitDefEqProofs [-len_tup, -cmp_eq, -cmp_gt, f11, ll, lr, ls, bin_mod, bin_div, p6, p4, p2, p3, p16, bn, gr, gm, g0, g1, g2, e1, e2, e3, e4, ps, clD]
/-- what the drawing of a claim, so deep, gives -/
def ClmAt (M : Mc) (p : Prog) (ws : List (List Nat)) (deep : Nat) : Prop := ∀ xs : List Int, (∀ x ∈ xs, 0 ≤ x) → ∃ (c : Cl) (ys : List Int), ClOk p c ∧ ht c + 1 ≤ deep ∧ ys.length ≤ xs.length ∧ (∀ y ∈ ys, 0 ≤ y) ∧
    M.cf 12 [.val (progD p), .val (.lst (ws.map .str)), .own (.lst (xs.map .int)), .val (.int deep)] = .ok (clD c) false [.lst (ys.map .int)]
theorem l_claim (M : Mc) (mf : M.mf 12 = some [false, false, true, false]) {p : Prog} {ws : List (List Nat)} {deep : Nat} (h : ClmAt M p ws deep) (x4 : Option SV) : ∀ (m : Nat) (k : Int) (xs : List Int) (acc : List Cl) (x6 : Option SV), (∀ x ∈ xs, 0 ≤ x) → acc.length + m ≤ 100 → ∃ (cs : List Cl) (ys : List Int) (y6 : Option SV), cs.length = m ∧ (∀ c ∈ cs, ClOk p c ∧ ht c + 1 ≤ deep) ∧ ys.length ≤ xs.length ∧ (∀ y ∈ ys, 0 ≤ y) ∧
    xF M none (.nm 6) q12_4 (rangeL k m) [some (.val (progD p)), some (.val (.lst (ws.map .str))), some (.own (.lst (xs.map .int))), some (.val (.int ((deep : Int) + 1))), x4, some (.own (.lst (acc.map clD))), x6]
      = .ok (.nx, [some (.val (progD p)), some (.val (.lst (ws.map .str))), some (.own (.lst (ys.map .int))), some (.val (.int ((deep : Int) + 1))), x4, some (.own (.lst ((acc ++ cs).map clD))), y6])
  | 0, k, xs, acc, x6, ho, _ => ⟨[], xs, x6, rfl, fun _ h => (nomatch h), Nat.le_refl _, ho, by simp [rangeL]⟩
  | m + 1, k, xs, acc, x6, ho, hl => by
    obtain ⟨c, zs, c1, c2, c3, c4, c5⟩ := h xs ho
    obtain ⟨cs, ys, y6, q1, q2, q3, q4, q5⟩ := l_claim M mf h x4 m (k + 1) zs (acc ++ [c]) (some (.val (.int k))) c4 (by simp; omega)
    refine ⟨c :: cs, ys, y6, by simp [q1], fun x hx => ?_, by omega, q4, ?_⟩
    · rcases List.mem_cons.mp hx with rfl | hx
      · exact ⟨c1, c2⟩
      · exact q2 x hx
    · have ap : muD 0 (.lst (acc.map clD)) [clD c] = some (.non, .lst (acc.map clD ++ [clD c])) := app_ok (by simp; omega)
      simp only [List.map_append, List.map_cons, List.map_nil, List.append_assoc, List.cons_append, List.nil_append] at q5
      rw [List.map_append, List.map_cons]
      generalize xs.map D.int = xd at *
      generalize zs.map D.int = zd at *
      generalize ys.map D.int = yd at *
      generalize ws.map D.str = wd at *
      generalize acc.map clD = ad at *
      generalize cs.map clD = cd at *
      generalize clD c = d at *
      generalize progD p = pd at *
      simp -implicitDefEqProofs [rangeL, xF_cons, mf, c5, ap]
      simpa using q5
theorem c_claim {p : Prog} {kinds : List (List Nat)} (ok : ProgOk kinds p) (ws : List (List Nat)) (hw : ws.length = 4) (wo : ∀ w ∈ ws, WordOk w) : ∀ deep : Nat, ClmAt (mkM (tab L) W (n + deep + 2)) p ws (deep + 1)
  | deep, xs, ho => by
    have ih : 0 < deep → ClmAt (mkM (tab L) W (n + deep + 1)) p ws deep := fun h => by
      cases deep with
      | zero => omega
      | succ d => exact c_claim ok ws hw wo d
    have mfl : (mkM (tab L) W (n + deep + 1)).mf 11 = some [false, false, false, false] := rfl
    have mfc : (mkM (tab L) W (n + deep + 1)).mf 12 = some [false, false, true, false] := rfl
    have lf : ∀ d o : Int, 0 ≤ d → 0 ≤ o → ∃ c : Cl, ClOk p c ∧ ht c = 0 ∧ (mkM (tab L) W (n + deep + 1)).cf 11 [.val (progD p), .val (.lst (ws.map .str)), .val (.int d), .val (.int o)] = .ok (clD c) false [] := fun d o h1 h2 => by rw [mk_cf]; exact c_leaf ok ws hw wo d o h1 h2
    obtain ⟨r0, hr0⟩ : ∃ r, p.roles[0]? = some r := ⟨_, List.getElem?_eq_getElem (by have := ok.nl; omega)⟩
    have gp1 : ixD (progD p) (.int 1) = some (.tup (p.roles.map roleD)) := ix1 _ _ _
    have gp2 : ixD (.tup (p.roles.map roleD)) (.int 0) = some (roleD r0) := ix_tup (by decide) (by simp [hr0])
    have gp3 : ixD (roleD r0) (.int 0) = some (.str r0.nm) := ix0 _ _
    rw [mk_cf, call_eq T12 rfl rfl]
    generalize mkM (tab L) W (n + deep + 1) = M at *
    by_cases few3 : xs.length < 3
    · refine ⟨.at_ r0.nm 0 1, xs, ?_, by simp [ht], Nat.le_refl _, ho, ?_⟩
      · simp only [ClOk]
        exact ⟨⟨r0, List.mem_of_getElem? hr0, rfl, by decide, by omega⟩, by decide, by decide⟩
      · have ln : biD .len [.lst (xs.map .int)] = some (.int xs.length, false) := by rw [len_lst, List.length_map]
        have lt : decide ((xs.length : Int) < 3) = true := decide_eq_true (by omega)
        generalize xs.map D.int = xd at *
        generalize p.roles.map roleD = rld at *
        generalize roleD r0 = rd at *
        generalize progD p = pd at *
        generalize ws.map D.str = wd at *
        simp -implicitDefEqProofs [-len_lst, -decide_eq_true_eq, f12, ln, lt, gp1, gp2, gp3, clD]
    · obtain ⟨x, y, zs, rfl⟩ : ∃ x y zs, xs = x :: y :: zs := by
        cases xs with
        | nil => simp at few3
        | cons x xs =>
          cases xs with
          | nil => simp at few3
          | cons y zs => exact ⟨x, y, zs, rfl⟩
      have x0 := ho x List.mem_cons_self
      have y0 := ho y (by simp)
      have zo : ∀ z ∈ zs, 0 ≤ z := fun z hz => ho z (by simp [hz])
      have yzo : ∀ z ∈ y :: zs, 0 ≤ z := fun z hz => ho z (List.mem_cons_of_mem _ hz)
      have ln : biD .len [.lst ((x :: y :: zs).map .int)] = some (.int ((x :: y :: zs).length : Int), false) := by rw [len_lst, List.length_map]
      have lt : decide (((x :: y :: zs).length : Int) < 3) = false := decide_eq_false (by omega)
      have po1 : muD 4 (.lst ((x :: y :: zs).map .int)) [.int 0] = some (.int x, .lst ((y :: zs).map .int)) := pop0 D.int x (y :: zs)
      have po2 : muD 4 (.lst ((y :: zs).map .int)) [.int 0] = some (.int y, .lst (zs.map .int)) := pop0 D.int y zs
      have p5 : (0 : Int) < 5 := by decide
      have p2 : (0 : Int) < 2 := by decide
      have cz : cmpD .Eq (.int ((deep : Int) + 1)) (.int 1) = some (decide (deep = 0)) := by rw [cmp_eq]; exact congrArg some (by rw [Bool.eq_iff_iff]; simp only [decide_eq_true_eq]; omega)
      have nx5 : 0 ≤ x / 5 := by omega
      generalize hL : ((x :: y :: zs).length : Int) = len at *
      generalize h1 : (x :: y :: zs).map D.int = d1 at *
      generalize h2 : (y :: zs).map D.int = d2 at *
      by_cases c1 : deep = 0 ∨ x % 5 < 2
      · obtain ⟨c, k1, k2, k3⟩ := lf (x / 5) y nx5 y0
        refine ⟨c, zs, k1, by omega, by simp; omega, zo, ?_⟩
        generalize zs.map D.int = d3 at *
        generalize progD p = pd at *
        generalize ws.map D.str = wd at *
        generalize clD c = cd at *
        by_cases c2 : deep = 0
        · rw [decide_eq_true c2] at cz
          simp -implicitDefEqProofs [-len_lst, -cmp_eq, f12, ln, lt, po1, po2, cz, bin_div, p5, mfl, k3]
        · rw [decide_eq_false c2] at cz
          have c3 : x % 5 < 2 := c1.resolve_left c2
          simp -implicitDefEqProofs [-len_lst, -cmp_eq, f12, ln, lt, po1, po2, cz, bin_div, bin_mod, p5, mfl, k3, c3]
      · obtain ⟨c2, c3⟩ := not_or.mp c1
        rw [decide_eq_false c2] at cz
        have I := ih (by omega)
        have e52 : cmpD .Eq (.int (x % 5)) (.int 2) = some (decide (x % 5 = 2)) := cmp_eq _ _
        by_cases c4 : x % 5 = 2
        · obtain ⟨c, ys, k1, k2, k3, k4, k5⟩ := I (y :: zs) yzo
          rw [h2] at k5
          refine ⟨.no c, ys, by simpa only [ClOk] using k1, by simp only [ht]; omega, by simp at k3 ⊢; omega, k4, ?_⟩
          generalize zs.map D.int = d3 at *
          generalize ys.map D.int = d4 at *
          generalize progD p = pd at *
          generalize ws.map D.str = wd at *
          rw [clD]
          generalize clD c = cd at *
          simp -implicitDefEqProofs [-len_lst, -cmp_eq, f12, ln, lt, po1, cz, bin_mod, p5, mfc, k5, c3, e52, decide_eq_true c4]
        · obtain ⟨m, m1, m2, gm⟩ : ∃ m : Nat, 1 ≤ m ∧ m ≤ 4 ∧ ixD (.lst [.int 1, .int 2, .int 2, .int 3, .int 4]) (.int (x / 5 % 5)) = some (.int m) := by
            have : x / 5 % 5 = 0 ∨ x / 5 % 5 = 1 ∨ x / 5 % 5 = 2 ∨ x / 5 % 5 = 3 ∨ x / 5 % 5 = 4 := by omega
            rcases this with h | h | h | h | h <;> rw [h]
            · exact ⟨1, by decide, by decide, rfl⟩
            · exact ⟨2, by decide, by decide, rfl⟩
            · exact ⟨2, by decide, by decide, rfl⟩
            · exact ⟨3, by decide, by decide, rfl⟩
            · exact ⟨4, by decide, by decide, rfl⟩
          have sm : smallI (m : Int) = true := small_int (by omega) (by omega)
          have rg : biD .range [.int (m : Int)] = some (.lst (rangeL 0 m), false) := by rw [bi_range sm]; rfl
          obtain ⟨cs, ys, y6, q1, q2, q3, q4, q5⟩ := l_claim M mfc I (some (.val (.int x))) m 0 (y :: zs) [] none yzo (by simp; omega)
          rw [h2] at q5
          simp only [List.map_nil, List.nil_append] at q5
          have hts' : hts cs + 1 ≤ deep := by
            have := hts_le (n := deep - 1) (cs := cs) fun c hc => by have := (q2 c hc).2; omega
            omega
          have cok : ClsOk p cs := clsOk_iff.mpr fun c hc => (q2 c hc).1
          have ad : ∀ w, binD .Add (.tup [.str w]) (.tup (cs.map clD)) = some (.tup (.str w :: cs.map clD), false) := fun w => add_tupD (by simp; omega)
          have fin_ : ∀ w, ixD (.lst [.str [97, 110, 100], .str [111, 114]]) (.int (x % 2)) = some (.str w) → fin f12 (xSs M f12.body [some (.val (progD p)), some (.val (.lst (ws.map .str))), some (.own (.lst d1)), some (.val (.int ((deep : Int) + 1))), none, none, none]) = .ok (.tup (.str w :: cs.map clD)) false [.lst (ys.map .int)] := fun w gw => by
            have ad := ad w
            generalize zs.map D.int = d3 at *
            generalize ys.map D.int = d4 at *
            generalize progD p = pd at *
            generalize ws.map D.str = wd at *
            generalize cs.map clD = cd at *
            generalize rangeL 0 m = rgl at *
            simp -implicitDefEqProofs [-len_lst, -cmp_eq, f12, ln, lt, po1, cz, bin_mod, bin_div, p5, p2, c3, e52, decide_eq_false c4, gm, rg, q5, gw, ad]
          by_cases c5 : x % 2 = 0
          · refine ⟨.an cs, ys, by simp only [ClOk]; exact ⟨by omega, cok⟩, by simp only [ht]; omega, by simp at q3 ⊢; omega, q4, ?_⟩
            rw [clD, clsD_map]
            exact fin_ andS (by rw [c5]; rfl)
          · refine ⟨.oc cs, ys, by simp only [ClOk]; exact ⟨by omega, cok⟩, by simp only [ht]; omega, by simp at q3 ⊢; omega, q4, ?_⟩
            rw [clD, clsD_map]
            exact fin_ orS (by rw [show x % 2 = 1 by omega]; rfl)
/-- the claim put in the place of an on too many -/
def fewQ (p : Prog) : Cl := .at_ ((p.roles[0]?).elim [] (·.nm)) 0 1
theorem fewQ_ok {p : Prog} {kinds : List (List Nat)} (ok : ProgOk kinds p) : ClOk p (fewQ p) := by
  obtain ⟨r0, hr0⟩ : ∃ r, p.roles[0]? = some r := ⟨_, List.getElem?_eq_getElem (by have := ok.nl; omega)⟩
  simp only [fewQ, ClOk, hr0, Option.elim]
  exact ⟨⟨r0, List.mem_of_getElem? hr0, rfl, by decide, by omega⟩, by decide, by decide⟩
def FewAt (M : Mc) (p : Prog) (h : Nat) : Prop := ∀ (c : Cl) (os : List D), ClAr c → ht c ≤ h → os.length + ons c ≤ 1000 → ∃ os' : List D, os'.length = os.length + ons c ∧
    M.cf 13 [.val (progD p), .val (clD c), .own (.lst os)] = .ok (clD (few (fewQ p) c os.length).1) false [.lst os']
theorem l_few (M : Mc) (mf : M.mf 13 = some [false, false, true]) {p : Prog} {h : Nat} (F : FewAt M p h) (x1 : Option SV) : ∀ (cs : List Cl) (os : List D) (acc : List Cl) (x4 : Option SV), ClsAr cs → hts cs ≤ h → os.length + onss cs ≤ 1000 → acc.length + cs.length ≤ 100 → ∃ (os' : List D) (y4 : Option SV), os'.length = os.length + onss cs ∧
    xF M none (.nm 4) q13_4 (clsD cs) [some (.val (progD p)), x1, some (.own (.lst os)), some (.own (.lst (acc.map clD))), x4]
      = .ok (.nx, [some (.val (progD p)), x1, some (.own (.lst os')), some (.own (.lst ((acc ++ (fews (fewQ p) cs os.length).1).map clD))), y4])
  | [], os, acc, x4, _, _, _, _ => ⟨os, x4, rfl, by simp [clsD, fews]⟩
  | c :: cs, os, acc, x4, ar, hh, ol, al => by
    simp only [ClsAr, hts, onss] at ar hh ol
    obtain ⟨o1, k1, k2⟩ := F c os ar.1 (by omega) (by omega)
    have al' : acc.length + cs.length + 1 ≤ 100 := by simpa [Nat.add_assoc] using al
    obtain ⟨o2, y4, j1, j2⟩ := l_few M mf F x1 cs o1 (acc ++ [(few (fewQ p) c os.length).1]) (some (.val (clD c))) ar.2 (by omega) (by omega) (by simp; omega)
    refine ⟨o2, y4, by simp only [onss]; omega, ?_⟩
    have ap : muD 0 (.lst (acc.map clD)) [clD (few (fewQ p) c os.length).1] = some (.non, .lst (acc.map clD ++ [clD (few (fewQ p) c os.length).1])) := app_ok (by simp; omega)
    have e2 : (few (fewQ p) c os.length).2 = o1.length := by rw [few_cnt, k1]
    simp only [clsD, fews, e2]
    simp only [List.map_append, List.map_cons, List.map_nil, List.append_assoc, List.cons_append, List.nil_append] at j2
    rw [List.map_append, List.map_cons, xF_cons]
    generalize (fews (fewQ p) cs o1.length).1.map clD = fd at *
    generalize clD (few (fewQ p) c os.length).1 = cd' at *
    generalize clD c = cd at *
    generalize clsD cs = csd at *
    generalize acc.map clD = ad at *
    generalize progD p = pd at *
    simp -implicitDefEqProofs [mf, k2, ap]
    simpa using j2
theorem c_few {p : Prog} {kinds : List (List Nat)} (ok : ProgOk kinds p) : ∀ h : Nat, FewAt (mkM (tab L) W (n + h + 1)) p h
  | h, c, os, ar, hh, ol => by
    obtain ⟨r0, hr0⟩ : ∃ r, p.roles[0]? = some r := ⟨_, List.getElem?_eq_getElem (by have := ok.nl; omega)⟩
    have gp1 : ixD (progD p) (.int 1) = some (.tup (p.roles.map roleD)) := ix1 _ _ _
    have gp2 : ixD (.tup (p.roles.map roleD)) (.int 0) = some (roleD r0) := ix_tup (by decide) (by simp [hr0])
    have gp3 : ixD (roleD r0) (.int 0) = some (.str r0.nm) := ix0 _ _
    have mfc : (mkM (tab L) W (n + h)).mf 13 = some [false, false, true] := rfl
    have ih : ∀ j, h = j + 1 → FewAt (mkM (tab L) W (n + h)) p j := fun j e => by subst e; exact c_few ok j
    have hq : fewQ p = .at_ r0.nm 0 1 := by simp [fewQ, hr0]
    rw [mk_cf, call_eq T13 rfl rfl]
    generalize mkM (tab L) W (n + h) = M at *
    have nd : ∀ (w : List Nat) (cs : List Cl), (w = notS ∨ w = andS ∨ w = orS) → (ClsAr cs) → cs.length ≤ 10 → hts cs + 1 ≤ h → os.length + onss cs ≤ 1000 → ∃ os' : List D, os'.length = os.length + onss cs ∧ fin f13 (xSs M f13.body [some (.val (progD p)), some (.val (.tup (.str w :: clsD cs))), some (.own (.lst os)), none, none]) = .ok (.tup (.str w :: clsD (fews (fewQ p) cs os.length).1)) false [.lst os'] := fun w cs hw a1 a2 a3 a4 => by
      obtain ⟨j, rfl⟩ : ∃ j, h = j + 1 := ⟨h - 1, by omega⟩
      obtain ⟨os', y4, j1, j2⟩ := l_few M mfc (ih j rfl) (some (.val (.tup (.str w :: clsD cs)))) cs os [] none a1 (by omega) a4 (by simp; omega)
      refine ⟨os', j1, ?_⟩
      have i0 : ixD (.tup (.str w :: clsD cs)) (.int 0) = some (.str w) := ix0 _ _
      have w1 : cmpD .Eq (.str w) (.str [97, 116]) = some false := by rw [cmp_eq_str]; rcases hw with rfl | rfl | rfl <;> rfl
      have w2 : cmpD .Eq (.str w) (.str [104, 97, 115]) = some false := by rw [cmp_eq_str]; rcases hw with rfl | rfl | rfl <;> rfl
      have w3 : cmpD .Eq (.str w) (.str [111, 110]) = some false := by rw [cmp_eq_str]; rcases hw with rfl | rfl | rfl <;> rfl
      have c1 := cut1 (.str w) (clsD cs)
      have c2 := cut01 (.str w) (clsD cs)
      simp only [List.map_nil, List.nil_append] at j2
      rw [← clsD_map] at j2
      have ad : binD .Add (.tup [.str w]) (.tup (clsD (fews (fewQ p) cs os.length).1)) = some (.tup (.str w :: clsD (fews (fewQ p) cs os.length).1), false) := add_tupD (by rw [clsD_map]; simp only [List.length_map, fews_len, List.length_cons, List.length_nil]; omega)
      generalize clsD (fews (fewQ p) cs os.length).1 = fd at *
      generalize clsD cs = csd at *
      generalize progD p = pd at *
      simp -implicitDefEqProofs [-cmp_eq_str, f13, i0, w1, w2, w3, c1, c2, j2, ad]
    cases c with
    | at_ nm i j =>
      refine ⟨os, rfl, ?_⟩
      simp only [few, clD]
      generalize progD p = pd at *
      simp -implicitDefEqProofs [f13, ix0]
    | has nm i j k =>
      refine ⟨os, rfl, ?_⟩
      simp only [few, clD]
      generalize progD p = pd at *
      simp -implicitDefEqProofs [f13, ix0]
    | on r k m =>
      have ap : muD 0 (.lst os) [.tup [.str [111, 110], .int r, .str k, .int m]] = some (.non, .lst (os ++ [.tup [.str [111, 110], .int r, .str k, .int m]])) := app_ok (by omega)
      refine ⟨os ++ [clD (.on r k m)], by simp [ons], ?_⟩
      simp only [few]
      by_cases z : os.length + 1 > 2
      · rw [if_pos z, hq]
        simp only [clD]
        have lt : decide ((2 : Int) < (os.length : Int) + 1) = true := decide_eq_true (by omega)
        generalize p.roles.map roleD = rld at *
        generalize roleD r0 = rd at *
        generalize progD p = pd at *
        simp -implicitDefEqProofs [-decide_eq_true_eq, f13, ix0, ap, lt, gp1, gp2, gp3]
      · rw [if_neg z]
        simp only [clD]
        have lt : decide ((2 : Int) < (os.length : Int) + 1) = false := decide_eq_false (by omega)
        generalize progD p = pd at *
        simp -implicitDefEqProofs [-decide_eq_false_iff_not, f13, ix0, ap, lt]
    | no c =>
      simp only [ht, ons, ClAr] at hh ol ar
      obtain ⟨os', k1, k2⟩ := nd notS [c] (.inl rfl) (by simp only [ClsAr]; exact ⟨ar, trivial⟩) (by simp) (by simp only [hts]; omega) (by simp only [onss]; omega)
      refine ⟨os', by rw [k1]; simp only [onss, ons]; omega, ?_⟩
      simp only [few, clD]
      simp only [clsD, fews] at k2
      exact k2
    | an cs =>
      simp only [ht, ons, ClAr] at hh ol ar
      obtain ⟨os', k1, k2⟩ := nd andS cs (.inr (.inl rfl)) ar.2 ar.1.2 hh ol
      refine ⟨os', by rw [k1]; simp only [ons], ?_⟩
      simp only [few, clD]
      exact k2
    | oc cs =>
      simp only [ht, ons, ClAr] at hh ol ar
      obtain ⟨os', k1, k2⟩ := nd orS cs (.inr (.inr rfl)) ar.2 ar.1.2 hh ol
      refine ⟨os', by rw [k1]; simp only [ons], ?_⟩
      simp only [few, clD]
      exact k2
/-- a drawn claim of the program -/
structure ClDrawn (p : Prog) (c : Cl) : Prop where
  ok : ClOk p c
  ht : ht c ≤ 3
  ons : ons c ≤ 2
theorem c_claim_of {p : Prog} {kinds : List (List Nat)} (ok : ProgOk kinds p) (ws : List (List Nat)) (hw : ws.length = 4) (wo : ∀ w ∈ ws, WordOk w) (xs : List Int) (ho : ∀ x ∈ xs, 0 ≤ x) :
    ∃ (c : Cl) (ys : List Int), ClDrawn p c ∧ callF (tab L) W (n + 6) 14 [.val (progD p), .val (.lst (ws.map .str)), .own (.lst (xs.map .int))] = .ok (clD c) false [.lst (ys.map .int)] := by
  obtain ⟨c, ys, k1, k2, k3, k4, k5⟩ := c_claim (W := W) (n := n) ok ws hw wo 3 xs ho
  have o1 := ons_le (h := 3) k1 (by omega)
  obtain ⟨os', j1, j2⟩ := c_few (W := W) (n := n + 1) ok 3 c [] (ar_of_ok k1) (by omega) (by simp; omega)
  refine ⟨(few (fewQ p) c 0).1, ys, ⟨few_ok (fewQ_ok ok) c 0 k1, by rw [few_ht (by rfl)]; omega, ?_⟩, ?_⟩
  · have := (few_ons (q := fewQ p) (by rfl) c 0).1
    omega
  · have mfc : (mkM (tab L) W (n + 5)).mf 12 = some [false, false, true, false] := rfl
    have mff : (mkM (tab L) W (n + 5)).mf 13 = some [false, false, true] := rfl
    have k5 : (mkM (tab L) W (n + 5)).cf 12 [.val (progD p), .val (.lst (ws.map .str)), .own (.lst (xs.map .int)), .val (.int 4)] = .ok (clD c) false [.lst (ys.map .int)] := k5
    have j2 : (mkM (tab L) W (n + 5)).cf 13 [.val (progD p), .val (clD c), .own (.lst [])] = .ok (clD (few (fewQ p) c 0).1) false [.lst os'] := j2
    rw [call_eq T14 rfl rfl]
    generalize mkM (tab L) W (n + 5) = M at *
    generalize clD (few (fewQ p) c 0).1 = fd at *
    generalize clD c = cd at *
    generalize progD p = pd at *
    generalize ws.map D.str = wd at *
    generalize xs.map D.int = xd at *
    generalize ys.map D.int = yd at *
    simp -implicitDefEqProofs [f14, mfc, k5, mff, j2]
theorem c_ons : ∀ (h : Nat) (c : Cl), ClAr c → ht c ≤ h → callF (tab L) W (n + h + 1) 0 [.val (clD c)] = .ok (.int (ons c : Nat)) false []
  | h, c, ar, hh => by
    have mf : (mkM (tab L) W (n + h)).mf 0 = some [false] := rfl
    have ih : ∀ j c, h = j + 1 → ClAr c → ht c ≤ j → (mkM (tab L) W (n + h)).cf 0 [.val (clD c)] = .ok (.int (ons c : Nat)) false [] := fun j c e a b => by subst e; rw [mk_cf]; exact c_ons j c a b
    rw [call_eq T0 rfl rfl]
    generalize mkM (tab L) W (n + h) = M at *
    have nd : ∀ (w : List Nat) (cs : List Cl), (w = notS ∨ w = andS ∨ w = orS) → ClsAr cs → cs.length ≤ 10 → hts cs + 1 ≤ h → fin f0 (xSs M f0.body [some (.val (.tup (.str w :: clsD cs))), none]) = .ok (.int (onss cs : Nat)) false [] := fun w cs hw a1 a2 a3 => by
      obtain ⟨j, rfl⟩ : ∃ j, h = j + 1 := ⟨h - 1, by omega⟩
      have i0 : ixD (.tup (.str w :: clsD cs)) (.int 0) = some (.str w) := ix0 _ _
      have w1 : cmpD .Eq (.str w) (.str [111, 110]) = some false := by rw [cmp_eq_str]; rcases hw with rfl | rfl | rfl <;> rfl
      have w2 : cmpD .Eq (.str w) (.str [97, 116]) = some false := by rw [cmp_eq_str]; rcases hw with rfl | rfl | rfl <;> rfl
      have w3 : cmpD .Eq (.str w) (.str [104, 97, 115]) = some false := by rw [cmp_eq_str]; rcases hw with rfl | rfl | rfl <;> rfl
      have c1 := cut1 (.str w) (clsD cs)
      have q := lcL_of (own := [1]) (tn := turn M (.call 0 [.nm 1]) (.nm 1) none) (ρ := [some (.val (.tup (.str w :: clsD cs))), none]) clD (fun c => .int (ons c : Nat)) cs (fun c hc => by
        have e := ih j c rfl (clsAr_iff.mp a1 c hc) (by have := ht_mem hc; omega)
        refine ⟨_, by simp -implicitDefEqProofs [mf, e]; rfl, by simp [wip]⟩)
      rw [← clsD_map] at q
      have ln : decide (line ≤ (clsD cs).length) = false := ln_ok (by rw [clsD_map]; simp; omega)
      have sm : biD .sum [.lst (cs.map fun c => .int (ons c : Nat))] = some (.int (onss cs : Nat), false) := by
        have e : (cs.map fun c => D.int (ons c : Nat)) = (cs.map fun c => (ons c : Int)).map D.int := by rw [List.map_map]; rfl
        rw [e]
        show (intsD _).map _ = _
        rw [intsD_map]
        have : ∀ cs : List Cl, (cs.map fun c => (ons c : Int)).sum = (onss cs : Nat) := fun cs => by
          induction cs with
          | nil => rfl
          | cons c cs ih => simp only [List.map_cons, List.sum_cons, ih, onss]; omega
        show some (D.int ((cs.map fun c => (ons c : Int)).sum), false) = _
        rw [this]
      generalize clsD cs = csd at *
      generalize (cs.map fun c => D.int (ons c : Nat)) = sd at *
      simp -implicitDefEqProofs [-cmp_eq_str, f0, i0, w1, w2, w3, c1, ln, wip, q, back, sm]
    cases c with
    | at_ nm i j => simp only [clD]; simp -implicitDefEqProofs [f0, ix0, ons]
    | has nm i j k => simp only [clD]; simp -implicitDefEqProofs [f0, ix0, ons]
    | on r k m => simp only [clD]; simp -implicitDefEqProofs [f0, ix0, ons]
    | no c =>
      simp only [ht, ClAr] at hh ar
      have := nd notS [c] (.inl rfl) (by simp only [ClsAr]; exact ⟨ar, trivial⟩) (by simp) (by simp only [hts]; omega)
      simp only [clD, clsD, onss, ons, Nat.add_zero] at this ⊢
      exact this
    | an cs =>
      simp only [ht, ClAr] at hh ar
      have := nd andS cs (.inr (.inl rfl)) ar.2 ar.1.2 hh
      simp only [clD, ons] at this ⊢
      exact this
    | oc cs =>
      simp only [ht, ClAr] at hh ar
      have := nd orS cs (.inr (.inr rfl)) ar.2 ar.1.2 hh
      simp only [clD, ons] at this ⊢
      exact this
theorem c_grows : ∀ (h : Nat) (c : Cl), ClAr c → ht c ≤ h → callF (tab L) W (n + h + 2) 1 [.val (clD c)] = .ok (.bl (grw c)) false []
  | h, c, ar, hh => by
    have mf : (mkM (tab L) W (n + h + 1)).mf 1 = some [false] := rfl
    have mo : (mkM (tab L) W (n + h + 1)).mf 0 = some [false] := rfl
    have on_ : ∀ c, ClAr c → ht c ≤ h → (mkM (tab L) W (n + h + 1)).cf 0 [.val (clD c)] = .ok (.int (ons c : Nat)) false [] := fun c a b => by rw [mk_cf]; exact c_ons (n := n) h c a b
    have ih : ∀ j c, h = j + 1 → ClAr c → ht c ≤ j → (mkM (tab L) W (n + h + 1)).cf 1 [.val (clD c)] = .ok (.bl (grw c)) false [] := fun j c e a b => by subst e; rw [mk_cf]; exact c_grows j c a b
    rw [call_eq T1 rfl rfl]
    generalize mkM (tab L) W (n + h + 1) = M at *
    have nd : ∀ (w : List Nat) (cs : List Cl), (w = andS ∨ w = orS) → ClsAr cs → cs.length ≤ 10 → hts cs + 1 ≤ h → fin f1 (xSs M f1.body [some (.val (.tup (.str w :: clsD cs))), none]) = .ok (.bl (grws cs)) false [] := fun w cs hw a1 a2 a3 => by
      obtain ⟨j, rfl⟩ : ∃ j, h = j + 1 := ⟨h - 1, by omega⟩
      have i0 : ixD (.tup (.str w :: clsD cs)) (.int 0) = some (.str w) := ix0 _ _
      have w1 : cmpD .Eq (.str w) (.str [110, 111, 116]) = some false := by rw [cmp_eq_str]; rcases hw with rfl | rfl <;> rfl
      have w2 : cmpD .Eq (.str w) (.str [97, 110, 100]) = some (decide (w = andS)) := by rw [cmp_eq_str]
      have w3 : cmpD .Eq (.str w) (.str [111, 114]) = some (decide (w = orS)) := by rw [cmp_eq_str]
      have wd : decide (w = andS) = true ∨ (decide (w = andS) = false ∧ decide (w = orS) = true) := by rcases hw with rfl | rfl <;> decide
      have c1 := cut1 (.str w) (clsD cs)
      have q := lcL_of (own := [1]) (tn := turn M (.call 1 [.nm 1]) (.nm 1) none) (ρ := [some (.val (.tup (.str w :: clsD cs))), none]) clD (fun c => .bl (grw c)) cs (fun c hc => by
        have e := ih j c rfl (clsAr_iff.mp a1 c hc) (by have := ht_mem hc; omega)
        refine ⟨_, by simp -implicitDefEqProofs [mf, e]; rfl, by simp [wip]⟩)
      rw [← clsD_map] at q
      have ln : decide (line ≤ (clsD cs).length) = false := ln_ok (by rw [clsD_map]; simp; omega)
      have sm : biD .all [.lst (cs.map fun c => .bl (grw c))] = some (.bl (grws cs), false) := by
        have e : (cs.map fun c => D.bl (grw c)) = (cs.map grw).map D.bl := by rw [List.map_map]; rfl
        rw [e, bi_all, grws_map]
      generalize clsD cs = csd at *
      generalize (cs.map fun c => D.bl (grw c)) = sd at *
      generalize decide (w = andS) = t1 at *
      generalize decide (w = orS) = t2 at *
      rcases wd with rfl | ⟨rfl, rfl⟩ <;> simp -implicitDefEqProofs [-cmp_eq_str, f1, i0, w1, w2, w3, c1, ln, wip, q, back, sm]
    cases c with
    | at_ nm i j => simp only [clD]; simp -implicitDefEqProofs [f1, ix0, grw]
    | has nm i j k => simp only [clD]; simp -implicitDefEqProofs [f1, ix0, grw]
    | on r k m => simp only [clD]; simp -implicitDefEqProofs [f1, ix0, grw]
    | no c =>
      simp only [ht, ClAr] at hh ar
      have e := on_ c ar (by omega)
      simp only [clD]
      generalize clD c = cd at *
      have ez : cmpD .Eq (.int (ons c : Nat)) (.int 0) = some (decide (ons c = 0)) := by rw [cmp_eq]; exact congrArg some (by rw [Bool.eq_iff_iff]; simp only [decide_eq_true_eq]; omega)
      simp -implicitDefEqProofs [-cmp_eq, f1, ix0, ix1, mo, e, ez, grw]
    | an cs =>
      simp only [ht, ClAr] at hh ar
      have := nd andS cs (.inl rfl) ar.2 ar.1.2 hh
      simp only [clD, grw] at this ⊢
      exact this
    | oc cs =>
      simp only [ht, ClAr] at hh ar
      have := nd orS cs (.inr rfl) ar.2 ar.1.2 hh
      simp only [clD, grw] at this ⊢
      exact this
end G.K35

namespace G.K35
open G
variable {W n : Nat}
theorem l_ben (M : Mc) (mf : M.mf 15 = some [false, false]) {h : Nat} (F : ∀ c d, ClAr c → ht c ≤ h → M.cf 15 [.val (clD c), .val (.bl d)] = .ok (.bl (ben c d)) false []) (w : List Nat) (ps : List D) (d d' : Bool) (hd : d' = (d || decide (w = notS))) : ∀ (cs : List Cl) (b : Bool) (x3 : Option SV), ClsAr cs → hts cs ≤ h → ∃ y3 : Option SV,
    xF M none (.nm 3) q15_3 (clsD cs) [some (.val (.tup (.str w :: ps))), some (.val (.bl d)), some (.val (.bl b)), x3] = .ok (.nx, [some (.val (.tup (.str w :: ps))), some (.val (.bl d)), some (.val (.bl (b || bens cs d'))), y3])
  | [], b, x3, _, _ => ⟨x3, by simp [clsD, bens]⟩
  | c :: cs, b, x3, ar, hh => by
    simp only [ClsAr, hts] at ar hh
    have e := F c d' ar.1 (by omega)
    have i0 : ixD (.tup (.str w :: ps)) (.int 0) = some (.str w) := ix0 _ _
    have w1 : cmpD .Eq (.str w) (.str [110, 111, 116]) = some (decide (w = notS)) := by rw [cmp_eq_str]
    obtain ⟨y3, ih⟩ := l_ben M mf F w ps d d' hd cs (b || ben c d') (some (.val (clD c))) ar.2 (by omega)
    refine ⟨y3, ?_⟩
    simp only [clsD, bens]
    rw [xF_cons]
    rw [show (b || (ben c d' || bens cs d')) = (b || ben c d' || bens cs d') from (Bool.or_assoc _ _ _).symm]
    generalize bens cs d' = t3 at *
    generalize ben c d' = t4 at *
    generalize clD c = cd at *
    generalize clsD cs = csd at *
    generalize decide (w = notS) = t1 at *
    subst hd
    cases d <;> cases t1 <;> cases t4 <;> simp -implicitDefEqProofs at e ih <;> simp -implicitDefEqProofs [-cmp_eq_str, mf, e, i0, w1, ih]
theorem c_ben : ∀ (h : Nat) (c : Cl) (d : Bool), ClAr c → ht c ≤ h → callF (tab L) W (n + h + 1) 15 [.val (clD c), .val (.bl d)] = .ok (.bl (ben c d)) false []
  | h, c, d, ar, hh => by
    have mf : (mkM (tab L) W (n + h)).mf 15 = some [false, false] := rfl
    have ih : ∀ j, h = j + 1 → ∀ c d, ClAr c → ht c ≤ j → (mkM (tab L) W (n + h)).cf 15 [.val (clD c), .val (.bl d)] = .ok (.bl (ben c d)) false [] := fun j e c d a b => by subst e; rw [mk_cf]; exact c_ben j c d a b
    rw [call_eq T15 rfl rfl]
    generalize mkM (tab L) W (n + h) = M at *
    have nd : ∀ (w : List Nat) (cs : List Cl), (w = notS ∨ w = andS ∨ w = orS) → ClsAr cs → cs.length ≤ 10 → hts cs + 1 ≤ h → fin f15 (xSs M f15.body [some (.val (.tup (.str w :: clsD cs))), some (.val (.bl d)), none, none]) = .ok (.bl (bens cs (d || decide (w = notS)))) false [] := fun w cs hw a1 a2 a3 => by
      obtain ⟨j, rfl⟩ : ∃ j, h = j + 1 := ⟨h - 1, by omega⟩
      obtain ⟨y3, q⟩ := l_ben M mf (ih j rfl) w (clsD cs) d _ rfl cs false none a1 (by omega)
      have i0 : ixD (.tup (.str w :: clsD cs)) (.int 0) = some (.str w) := ix0 _ _
      have w1 : cmpD .Eq (.str w) (.str [111, 110]) = some false := by rw [cmp_eq_str]; rcases hw with rfl | rfl | rfl <;> rfl
      have w2 : cmpD .Eq (.str w) (.str [97, 116]) = some false := by rw [cmp_eq_str]; rcases hw with rfl | rfl | rfl <;> rfl
      have w3 : cmpD .Eq (.str w) (.str [104, 97, 115]) = some false := by rw [cmp_eq_str]; rcases hw with rfl | rfl | rfl <;> rfl
      have c1 := cut1 (.str w) (clsD cs)
      simp only [Bool.false_or] at q
      generalize bens cs (d || decide (w = notS)) = t at *
      generalize clsD cs = csd at *
      simp -implicitDefEqProofs [-cmp_eq_str, f15, i0, w1, w2, w3, c1, q]
    cases c with
    | at_ nm i j => simp only [clD]; simp -implicitDefEqProofs [f15, ix0, ben]
    | has nm i j k => simp only [clD]; simp -implicitDefEqProofs [f15, ix0, ben]
    | on r k m => simp only [clD]; simp -implicitDefEqProofs [f15, ix0, ben]
    | no c =>
      simp only [ht, ClAr] at hh ar
      have := nd notS [c] (.inl rfl) (by simp only [ClsAr]; exact ⟨ar, trivial⟩) (by simp) (by simp only [hts]; omega)
      simp [clD, clsD, bens, ben] at this ⊢
      exact this
    | an cs =>
      simp only [ht, ClAr] at hh ar
      have := nd andS cs (.inr (.inl rfl)) ar.2 ar.1.2 hh
      simp [clD, ben] at this ⊢
      exact this
    | oc cs =>
      simp only [ht, ClAr] at hh ar
      have := nd orS cs (.inr (.inr rfl)) ar.2 ar.1.2 hh
      simp [clD, ben] at this ⊢
      exact this
/-- claims put together -/
def putOk (cs : List Cl) : Prop := ∀ c ∈ cs, ClAr c ∧ ht c ≤ 3
theorem c_put (xs : List Int) (hx : xs.length = 3) (ho : ∀ x ∈ xs, 0 ≤ x) : ∃ cs : List Cl, cs.length = 7 ∧ (∀ c ∈ cs, ClAr c ∧ ht c ≤ 3) ∧ callF (tab L) W (n + 1) 16 [.val (.lst (xs.map .int))] = .ok (.lst (cs.map clD)) true [] := by
  obtain ⟨a, b, d, rfl⟩ : ∃ a b d, xs = [a, b, d] := by
    match xs, hx with
    | [a, b, d], _ => exact ⟨a, b, d, rfl⟩
  have d0 := ho d (by simp)
  rw [call_eq T16 rfl rfl]
  generalize mkM (tab L) W n = M
  have p4 : (0 : Int) < 4 := by decide
  have p2 : (0 : Int) < 2 := by decide
  have p13 : (0 : Int) < 13 := by decide
  have p6 : (0 : Int) < 6 := by decide
  let on_ : Cl := .on (a % 4) [97] (1 + a / 4 % 2)
  let at1 : Cl := .at_ [98] (b % 13) (1 + b / 13 % 6)
  have pick : ∀ t : Int, 0 ≤ t → ∃ c : Cl, ClAr c ∧ ht c ≤ 1 ∧ ixD (.lst [clD on_, clD at1, .tup [.str notS, clD on_], .tup [.str notS, clD at1]]) (.int (t % 4)) = some (clD c) := fun t h0 => by
    have : t % 4 = 0 ∨ t % 4 = 1 ∨ t % 4 = 2 ∨ t % 4 = 3 := by omega
    rcases this with h | h | h | h <;> rw [h]
    · exact ⟨on_, by simp [on_, ClAr], by simp [on_, ht], rfl⟩
    · exact ⟨at1, by simp [at1, ClAr], by simp [at1, ht], rfl⟩
    · exact ⟨.no on_, by simp [on_, ClAr], by simp [on_, ht], by rw [clD]; rfl⟩
    · exact ⟨.no at1, by simp [at1, ClAr], by simp [at1, ht], by rw [clD]; rfl⟩
  obtain ⟨c1, r1, r2, g1⟩ := pick d d0
  obtain ⟨c2, r3, r4, g2⟩ := pick (d / 4) (by omega)
  refine ⟨[.an [c1, c2], .oc [c2, c1], .no (.no on_), .no (.an [at1, c1]), c1, .an [at1, at1, at1, c1], .no (.oc [at1, at1, at1, .has [98] 0 1 1])], rfl, fun c hc => ?_, ?_⟩
  · have oa : ClAr on_ := by simp [on_, ClAr]
    have oh : ht on_ = 0 := by simp [on_, ht]
    have aa : ClAr at1 := by simp [at1, ClAr]
    have ah : ht at1 = 0 := by simp [at1, ht]
    simp only [List.mem_cons, List.not_mem_nil, or_false] at hc
    rcases hc with rfl | rfl | rfl | rfl | rfl | rfl | rfl <;> refine ⟨?_, ?_⟩ <;> first | omega | (simp only [ClAr, ClsAr, ht, hts, oa, oh, aa, ah, r1, r3, and_self, and_true, List.length_cons, List.length_nil] <;> omega)
  · have eo : clD on_ = .tup [.str [111, 110], .int (a % 4), .str [97], .int (1 + a / 4 % 2)] := by simp only [on_, clD]
    have ea : clD at1 = .tup [.str [97, 116], .str [98], .int (b % 13), .int (1 + b / 13 % 6)] := by simp only [at1, clD]
    have i0 : ixD (.lst [.int a, .int b, .int d]) (.int 0) = some (.int a) := rfl
    have i1 : ixD (.lst [.int a, .int b, .int d]) (.int 1) = some (.int b) := rfl
    have i2 : ixD (.lst [.int a, .int b, .int d]) (.int 2) = some (.int d) := rfl
    simp only [List.map_cons, List.map_nil, clD, clsD]
    have ad : ∀ u1 u2 u3 u4 v1 v2 v3 : D, binD .Add (.lst [u1, u2, u3, u4]) (.lst [v1, v2, v3]) = some (.lst [u1, u2, u3, u4, v1, v2, v3], true) := fun _ _ _ _ _ _ _ => add_lstD (by simp)
    rw [eo, ea] at g1 g2
    rw [eo, ea]
    generalize clD c1 = k1 at *
    generalize clD c2 = k2 at *
    simp -implicitDefEqProofs [f16, i0, i1, i2, bin_mod, bin_div, p4, p2, p13, p6, g1, g2, ad]
end G.K35

namespace G.K35
open G
variable {W n : Nat}
theorem l_inn (M : Mc) (m1 : M.mf 1 = some [false]) (m15 : M.mf 15 = some [false, false]) (f1 : ∀ c, ClAr c → ht c ≤ 3 → M.cf 1 [.val (clD c)] = .ok (.bl (grw c)) false []) (f15 : ∀ c, ClAr c → ht c ≤ 3 → M.cf 15 [.val (clD c), .val (.bl false)] = .ok (.bl (ben c false)) false []) (x0 x1 x2 x3 x4 : Option SV) : ∀ (cs : List Cl) (x5 x6 : Option SV), (∀ c ∈ cs, ClAr c ∧ ht c ≤ 3) → ∃ y5 y6 : Option SV,
    xF M none (.nm 5) q17_2 (cs.map clD) [x0, x1, x2, x3, x4, x5, x6] = .ok (.nx, [x0, x1, x2, x3, x4, y5, y6])
  | [], x5, x6, _ => ⟨x5, x6, by simp⟩
  | c :: cs, x5, x6, h => by
    obtain ⟨a, b⟩ := h c List.mem_cons_self
    have e1 := f1 c a b
    have e2 := f15 c a b
    rw [grw_ben] at e1
    obtain ⟨y5, y6, q⟩ := l_inn M m1 m15 f1 f15 x0 x1 x2 x3 x4 cs (some (.val (clD c))) (some (.val (.bl (!ben c false)))) (fun x hx => h x (List.mem_cons_of_mem _ hx))
    refine ⟨y5, y6, ?_⟩
    rw [List.map_cons, xF_cons]
    generalize ben c false = t at *
    generalize clD c = cd at *
    generalize cs.map clD = csd at *
    cases t <;> simp -implicitDefEqProofs at e1 q <;> simp -implicitDefEqProofs [m1, m15, e1, e2, q, tyOk, isT1]
structure Cc (M : Mc) (pd : D) (wd : D) : Prop where
  m1 : M.mf 1 = some [false]
  m15 : M.mf 15 = some [false, false]
  m4 : M.mf 4 = some [false, false]
  m14 : M.mf 14 = some [false, false, true]
  m16 : M.mf 16 = some [false]
  f1 : ∀ c, ClAr c → ht c ≤ 3 → M.cf 1 [.val (clD c)] = .ok (.bl (grw c)) false []
  f15 : ∀ c, ClAr c → ht c ≤ 3 → M.cf 15 [.val (clD c), .val (.bl false)] = .ok (.bl (ben c false)) false []
  f4 : ∀ c : Int, ∃ xs : List Int, xs.length = 60 ∧ (∀ x ∈ xs, 0 ≤ x ∧ x < 1000) ∧ M.cf 4 [.val (.int c), .val (.int 60)] = .ok (.lst (xs.map .int)) true []
  f14 : ∀ xs : List Int, (∀ x ∈ xs, 0 ≤ x) → ∃ (c : Cl) (ys : List Int), ClAr c ∧ ht c ≤ 3 ∧ M.cf 14 [.val pd, .val wd, .own (.lst (xs.map .int))] = .ok (clD c) false [.lst (ys.map .int)]
  f16 : ∀ xs : List Int, xs.length = 3 → (∀ x ∈ xs, 0 ≤ x) → ∃ cs : List Cl, cs.length = 7 ∧ (∀ c ∈ cs, ClAr c ∧ ht c ≤ 3) ∧ M.cf 16 [.val (.lst (xs.map .int))] = .ok (.lst (cs.map clD)) true []
theorem l_out (M : Mc) {pd wd : D} (C : Cc M pd wd) (x0 : Option SV) : ∀ (zs : List Int) (x3 x4 x5 x6 : Option SV), ∃ y3 y4 y5 y6 : Option SV,
    xF M none (.nm 3) q17_1 (zs.map .int) [x0, some (.val wd), some (.val pd), x3, x4, x5, x6] = .ok (.nx, [x0, some (.val wd), some (.val pd), y3, y4, y5, y6])
  | [], x3, x4, x5, x6 => ⟨x3, x4, x5, x6, by simp⟩
  | z :: zs, x3, x4, x5, x6 => by
    obtain ⟨xs, h1, h2, h3⟩ := C.f4 z
    have c1 : cut (xs.map D.int) none (some 55) = (xs.take 55).map .int := cut_take D.int xs 55
    have c2 : cut (xs.map D.int) (some 55) (some 58) = ((xs.drop 55).take 3).map .int := cut_mid D.int xs 55 58 (by decide) (by omega)
    obtain ⟨c, ys, k1, k2, k3⟩ := C.f14 (xs.take 55) (fun x hx => (h2 x (List.mem_of_mem_take hx)).1)
    obtain ⟨cs, j1, j2, j3⟩ := C.f16 ((xs.drop 55).take 3) (by simp; omega) (fun x hx => (h2 x (List.mem_of_mem_drop (List.mem_of_mem_take hx))).1)
    obtain ⟨y5, y6, q⟩ := l_inn M C.m1 C.m15 C.f1 C.f15 x0 (some (.val wd)) (some (.val pd)) (some (.val (.int z))) (some (.val (.lst (xs.map .int)))) (c :: cs) x5 x6 (fun x hx => by
      rcases List.mem_cons.mp hx with rfl | hx
      · exact ⟨k1, k2⟩
      · exact j2 x hx)
    obtain ⟨z3, z4, z5, z6, r⟩ := l_out M C x0 zs (some (.val (.int z))) (some (.val (.lst (xs.map .int)))) y5 y6
    refine ⟨z3, z4, z5, z6, ?_⟩
    have ad : binD .Add (.lst [clD c]) (.lst (cs.map clD)) = some (.lst (clD c :: cs.map clD), true) := add_lstD (by simp; omega)
    rw [List.map_cons] at q
    rw [List.map_cons, xF_cons]
    have m4 := C.m4
    have m14 := C.m14
    have m16 := C.m16
    clear C
    generalize (xs.take 55).map D.int = d1 at *
    generalize ((xs.drop 55).take 3).map D.int = d2 at *
    generalize xs.map D.int = xd at *
    generalize ys.map D.int = yd at *
    generalize zs.map D.int = zd at *
    generalize clD c = cd at *
    generalize cs.map clD = csd at *
    simp -implicitDefEqProofs [-q17_2_x, m4, m14, m16, h3, c1, c2, k3, j3, ad, q, r]
theorem plain0 (ns : List Int) (hn : ns.length ≤ 63) : callF (tab L) W (n + 8) 17 [.val (.lst (ns.map .int))] = .ok (.bl true) false [] := by
  obtain ⟨v, h1⟩ := c_cell (W := W) (n := n + 6) ns 0
  obtain ⟨v1, h2⟩ := c_cell (W := W) (n := n + 6) ns 1
  obtain ⟨ws, w1, w2, w3⟩ := c_words (W := W) (n := n + 4) v
  obtain ⟨p, ok, hp⟩ := c_program (W := W) (n := n + 4) ws w1 w2 v1
  have C : Cc (mkM (tab L) W (n + 7)) (progD p) (.lst (ws.map .str)) := {
    m1 := rfl, m15 := rfl, m4 := rfl, m14 := rfl, m16 := rfl
    f1 := fun c a b => by rw [mk_cf]; exact c_grows (n := n + 2) 3 c a b
    f15 := fun c a b => by rw [mk_cf]; exact c_ben (n := n + 3) 3 c false a b
    f4 := fun c => by rw [mk_cf]; exact c_draws (n := n + 5) c 60 (by omega)
    f14 := fun xs hx => by
      obtain ⟨c, ys, k1, k2⟩ := c_claim_of (W := W) (n := n + 1) ok ws w1 w2 xs hx
      exact ⟨c, ys, ar_of_ok k1.ok, k1.ht, by rw [mk_cf]; exact k2⟩
    f16 := fun xs a b => by rw [mk_cf]; exact c_put (n := n + 6) xs a b }
  have m2 : (mkM (tab L) W (n + 7)).mf 2 = some [false, false] := rfl
  have m5 : (mkM (tab L) W (n + 7)).mf 5 = some [false] := rfl
  have m10 : (mkM (tab L) W (n + 7)).mf 10 = some [false, false] := rfl
  have e2 : (mkM (tab L) W (n + 7)).cf 2 [.val (.lst (ns.map .int)), .val (.int 0)] = .ok (.int v) false [] := by rw [mk_cf]; exact h1
  have e2b : (mkM (tab L) W (n + 7)).cf 2 [.val (.lst (ns.map .int)), .val (.int 1)] = .ok (.int v1) false [] := by rw [mk_cf]; exact h2
  have e5 : (mkM (tab L) W (n + 7)).cf 5 [.val (.int v)] = .ok (.lst (ws.map .str)) true [] := by rw [mk_cf]; exact w3
  have e10 : (mkM (tab L) W (n + 7)).cf 10 [.val (.lst (ws.map .str)), .val (.int v1)] = .ok (progD p) false [] := by rw [mk_cf]; exact hp
  rw [call_eq T17 rfl rfl]
  generalize mkM (tab L) W (n + 7) = M at *
  obtain ⟨y3, y4, y5, y6, q⟩ := l_out M C (some (.val (.lst (ns.map .int)))) (0 :: ns.drop 2) none none none none
  have ct : cut (ns.map D.int) (some 2) none = (ns.drop 2).map .int := cut_drop D.int ns 2
  have ad : binD .Add (.lst [.int 0]) (.lst ((ns.drop 2).map .int)) = some (.lst (.int 0 :: (ns.drop 2).map .int), true) := add_lstD (by simp; omega)
  rw [List.map_cons] at q
  clear C
  generalize (ns.drop 2).map D.int = nd at *
  generalize ns.map D.int = nsd at *
  generalize ws.map D.str = wd at *
  generalize progD p = pd at *
  simp -implicitDefEqProofs [-q17_1_x, G.K35.f17, m2, m5, m10, e2, e2b, e5, e10, ct, ad, q]
theorem plain : ∀ ns : List Int, ns.length ≤ 63 → (∀ z ∈ ns, PySem.Builtin.Int.intBits z ≤ 1048576) → callF (tab L) 1000 8 17 [.val (.lst (ns.map .int))] = .ok (.bl true) false [] := fun ns hn _ => plain0 (W := 1000) (n := 0) ns hn
end G.K35

namespace G.K35
open PySem PySem.Spec L2
abbrev prog : Program := PySem.Challenge.pw_lettermoat_k35_claims_that_grow
theorem chk : chAll prog L C = true := by decide +kernel
theorem bd0 : d0.Binds prog := fun _ _ _ _ _ _ us hl => match us, hl with | [_], _ => rfl
theorem bd1 : d1.Binds prog := fun _ _ _ _ _ _ us hl => match us, hl with | [_], _ => rfl
theorem bd2 : d2.Binds prog := fun _ _ _ _ _ _ us hl => match us, hl with | [_, _], _ => rfl
theorem bd3 : d3.Binds prog := fun _ _ _ _ _ _ us hl => match us, hl with | [_, _], _ => rfl
theorem bd4 : d4.Binds prog := fun _ _ _ _ _ _ us hl => match us, hl with | [_, _], _ => rfl
theorem bd5 : d5.Binds prog := fun _ _ _ _ _ _ us hl => match us, hl with | [_], _ => rfl
theorem bd6 : d6.Binds prog := fun _ _ _ _ _ _ us hl => match us, hl with | [_, _], _ => rfl
theorem bd7 : d7.Binds prog := fun _ _ _ _ _ _ us hl => match us, hl with | [_], _ => rfl
theorem bd8 : d8.Binds prog := fun _ _ _ _ _ _ us hl => match us, hl with | [_, _, _], _ => rfl
theorem bd9 : d9.Binds prog := fun _ _ _ _ _ _ us hl => match us, hl with | [_], _ => rfl
theorem bd10 : d10.Binds prog := fun _ _ _ _ _ _ us hl => match us, hl with | [_, _], _ => rfl
theorem bd11 : d11.Binds prog := fun _ _ _ _ _ _ us hl => match us, hl with | [_, _, _, _], _ => rfl
theorem bd12 : d12.Binds prog := fun _ _ _ _ _ _ us hl => match us, hl with | [_, _, _, _], _ => rfl
theorem bd13 : d13.Binds prog := fun _ _ _ _ _ _ us hl => match us, hl with | [_, _, _], _ => rfl
theorem bd14 : d14.Binds prog := fun _ _ _ _ _ _ us hl => match us, hl with | [_, _, _], _ => rfl
theorem bd15 : d15.Binds prog := fun _ _ _ _ _ _ us hl => match us, hl with | [_, _], _ => rfl
theorem bd16 : d16.Binds prog := fun _ _ _ _ _ _ us hl => match us, hl with | [_], _ => rfl
theorem bd17 : d17.Binds prog := fun _ _ _ _ _ _ us hl => match us, hl with | [_], _ => rfl
theorem bds : AllB prog L := .cons bd0 (.cons bd1 (.cons bd2 (.cons bd3 (.cons bd4 (.cons bd5 (.cons bd6 (.cons bd7 (.cons bd8 (.cons bd9 (.cons bd10 (.cons bd11 (.cons bd12 (.cons bd13 (.cons bd14 (.cons bd15 (.cons bd16 (.cons bd17 (.nil))))))))))))))))))
def see (s : PySem.W.SharedT) := seeG 4 (facts L C) (fns prog L) (fxs C) (HandSHeadRun.getT s)
theorem see_eq (s : PySem.W.SharedT) : see s = (hookG 4 (facts L C) (fns prog L) (fxs C)).obs s.abs := seeG_eq (HandSHeadRun.getT_eq s)
theorem runs (w : World) : HandSHeadRun.RunEq (PySem.W.OpenLaw.row PySem.Challenge.rw_lettermoat_k35_claims_that_grow) (PySem.W.view prog [19]) (hookG 4 (facts L C) (fns prog L) (fxs C)) see 6000 (("ons_in" : PySem.Str) :: ("grows" : PySem.Str) :: ("_law_cell_at" : PySem.Str) :: ("_law_mix" : PySem.Str) :: ("_law_draws" : PySem.Str) :: ("_law_words" : PySem.Str) :: ("_law_letter" : PySem.Str) :: ("_law_road" : PySem.Str) :: ("_law_lying" : PySem.Str) :: ("_law_names" : PySem.Str) :: ("_law_program" : PySem.Str) :: ("_law_leaf" : PySem.Str) :: ("_law_claim" : PySem.Str) :: ("_law_few" : PySem.Str) :: ("_law_claim_of" : PySem.Str) :: ("_law_beneath" : PySem.Str) :: ("_law_put" : PySem.Str) :: []) w := by
  intro os
  kernel_rfl
end G.K35
open PySem PySem.W PySem.Calls PyProof.Rows
theorem PySem.Challenge.cw_lettermoat_k35_claims_that_grow_holds : PySem.Challenge.rw_lettermoat_k35_claims_that_grow.Holds := by
  w_on; o_law
  refine HandSHeadRun.head_any (r := OpenLaw.row PySem.Challenge.rw_lettermoat_k35_claims_that_grow) (q := view G.K35.prog [19]) (H := G.hookG 4 (G.facts G.K35.L G.K35.C) (G.fns G.K35.prog G.K35.L) (G.fxs G.K35.C)) (ob := G.K35.see) (M := 6000) (loose := (("ons_in" : PySem.Str) :: ("grows" : PySem.Str) :: ("_law_cell_at" : PySem.Str) :: ("_law_mix" : PySem.Str) :: ("_law_draws" : PySem.Str) :: ("_law_words" : PySem.Str) :: ("_law_letter" : PySem.Str) :: ("_law_road" : PySem.Str) :: ("_law_lying" : PySem.Str) :: ("_law_names" : PySem.Str) :: ("_law_program" : PySem.Str) :: ("_law_leaf" : PySem.Str) :: ("_law_claim" : PySem.Str) :: ("_law_few" : PySem.Str) :: ("_law_claim_of" : PySem.Str) :: ("_law_beneath" : PySem.Str) :: ("_law_put" : PySem.Str) :: [])) (d := HandSHeadRun.topDef G.K35.prog 19) (kwd := []) G.K35.see_eq
    (by kernel_rfl) (fun s => by kernel_rfl) G.K35.runs (by kernel_rfl) (by kernel_rfl) (by kernel_rfl) (by rfl) (by first | assumption | decide +kernel) (by decide +kernel) ⟨rfl, rfl, rfl, rfl, rfl, by decide +kernel⟩ ?hw ?hc
  case hw => w_witness2
  case hc => exact G.law_end (l := PySem.Challenge.rw_lettermoat_k35_claims_that_grow) (k := 7) (m := 17) (dl := G.K35.d17) rfl (by kernel_rfl) ⟨rfl, by decide, by decide⟩ G.K35.chk G.K35.bds rfl (by kernel_rfl) rfl rfl G.K35.plain

