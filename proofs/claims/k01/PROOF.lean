import PyProof.Rows.All
import HandS.ForMost
import HandS.ForExc
import HandS.TupAny
import HandS.IsInst
import HandS.Flow
import HandS.TupMul
import HandS.Deep
import PyProof.StrLawsIn
import HandS.Style
import HandS.RaiseMore
import KE.KDictPairs
import HandS.ExcOwn
import HandS.Small
import HandS.TryOnly
import HandS.TryMany
import HandS.Iter
import HandS.Defaults
import HandS.Comp
import HandS.SetTxt0
import HandS.TupSets
import HandS.Strs
import KE.KStateDown
import HandS.Head0
import HandS.Head1
import HandS.Head2
import HandS.HeadEnd
import HandS.HeadHook4
import HandS.HeadHook2
import PySem.Challenge.RW_treelayers_k01_trees_layers_and_claims_r
set_option Elab.async false
section
set_option linter.all false
namespace Tl
/-! ### values -/
inductive PV where
  | non
  | bl (b : Bool)
  | int (i : Int)
  | str (x : List Nat)
  | tup (xs : List PV)
  | lst (xs : List PV)
  | scr (xs : List PV)
  | dic (ks vs : List PV)
  deriving Inhabited

def PV.isNon : PV → Bool
  | .non => true
  | _ => false
def PV.isDic : PV → Bool
  | .dic _ _ => true
  | _ => false
def PV.isCont : PV → Bool
  | .lst _ => true
  | .dic _ _ => true
  | _ => false

mutual
/-- Python's == on data -/
def PV.eq : PV → PV → Bool
  | .non, .non => true
  | .bl a, .bl b => a == b
  | .bl a, .int j => (if a then 1 else 0) == j
  | .int i, .bl b => i == (if b then 1 else 0)
  | .int i, .int j => i == j
  | .str x, .str y => x == y
  | .tup xs, .tup ys => PV.eqL xs ys
  | .lst xs, .lst ys => PV.eqL xs ys
  | _, _ => false
def PV.eqL : List PV → List PV → Bool
  | [], [] => true
  | x :: xs, y :: ys => PV.eq x y && PV.eqL xs ys
  | _, _ => false
end
mutual
/-- how deep a datum is nested -/
def PV.dep : PV → Nat
  | .tup xs => PV.depL xs + 1
  | .lst xs => PV.depL xs + 1
  | _ => 0
def PV.depL : List PV → Nat
  | [] => 0
  | x :: xs => max (PV.dep x) (PV.depL xs)
end
mutual
/-- no dict within -/
def PV.flat : PV → Bool
  | .tup xs => PV.flatL xs
  | .lst xs => PV.flatL xs
  | .dic _ _ => false
  | .scr _ => false
  | _ => true
def PV.flatL : List PV → Bool
  | [] => true
  | x :: xs => PV.flat x && PV.flatL xs
end
/-- may two data be compared here -/
def PV.cmpb (a b : PV) : Bool := a.flat && b.flat && decide (min a.dep b.dep ≤ 100)

def big : Nat := 16777216
/-- the place of an index -/
def ixOf (n : Nat) (i : Int) : Option Nat := if 0 ≤ i then (if i < n then some i.toNat else none) else if -(n : Int) ≤ i then some (i + n).toNat else none
def getAt {α : Type} (xs : List α) (i : Int) : Option α := (ixOf xs.length i).bind fun j => xs[j]?
/-- the end of a slice -/
def sAt (n d : Nat) : Option Int → Nat
  | none => d
  | some v => if v < 0 then (v + (n : Int)).toNat else min v.toNat n
def cut {α : Type} (xs : List α) (lo hi : Option Int) : List α := (xs.drop (sAt xs.length 0 lo)).take (sAt xs.length xs.length hi - sAt xs.length 0 lo)
def allS : List PV → Option (List (List Nat))
  | [] => some []
  | .str x :: r => (allS r).map (x :: ·)
  | _ => none
def allI : List PV → Option (List Int)
  | [] => some []
  | .int x :: r => (allI r).map (x :: ·)
  | _ => none
def allB : List PV → Option (List Bool)
  | [] => some []
  | .bl x :: r => (allB r).map (x :: ·)
  | _ => none
/-- a text is less than another one -/
def tlt : List Nat → List Nat → Bool
  | [], [] => false
  | [], _ :: _ => true
  | _ :: _, [] => false
  | a :: x, b :: y => if a < b then true else if a = b then tlt x y else false
def insT (x : List Nat) : List (List Nat) → List (List Nat)
  | [] => [x]
  | y :: r => if tlt y x then y :: insT x r else if x = y then y :: r else x :: y :: r
/-- ascending, each text once -/
def sortT : List (List Nat) → List (List Nat)
  | [] => []
  | x :: r => insT x (sortT r)
/-- ascending, each text as often as it comes -/
def insA (x : List Nat) : List (List Nat) → List (List Nat)
  | [] => [x]
  | y :: r => if tlt y x then y :: insA x r else x :: y :: r
def sortA : List (List Nat) → List (List Nat)
  | [] => []
  | x :: r => insA x (sortA r)
/-- a dict's value -/
def dget : List PV → List PV → List Nat → Option PV
  | .str k :: ks, v :: vs, x => if k = x then some v else dget ks vs x
  | _, _, _ => none
def dmap : List PV → List PV → List Nat → PV → List PV
  | .str k :: ks, v :: vs, x, y => (if k = x then y else v) :: dmap ks vs x y
  | _, vs, _, _ => vs
def dput (ks vs : List PV) (x : List Nat) (y : PV) : List PV × List PV := if (dget ks vs x).isSome then (ks, dmap ks vs x y) else (ks ++ [.str x], vs ++ [y])
def ddel : List PV → List PV → List Nat → List PV × List PV
  | .str k :: ks, v :: vs, x => let r := ddel ks vs x; if k = x then r else (.str k :: r.1, v :: r.2)
  | ks, vs, _ => (ks, vs)
/-- dict(pairs) -/
def dofs : List PV → List PV × List PV → Option (List PV × List PV)
  | [], d => some d
  | .tup [.str k, v] :: r, d => dofs r (dput d.1 d.2 k v)
  | _, _ => none
/-- the pairs of a sort by their first texts -/
def pairK : PV → Option (List Nat)
  | .tup (.str k :: _) => some k
  | _ => none
def insP (k : List Nat) (x : PV) : List (List Nat × PV) → List (List Nat × PV)
  | [] => [(k, x)]
  | y :: r => if tlt k y.1 then (k, x) :: y :: r else y :: insP k x r
def pairKs : List PV → Option (List (List Nat × PV))
  | [] => some []
  | x :: r => match pairK x, pairKs r with
    | some k, some l => some ((k, x) :: l)
    | _, _ => none
def foldP : List (List Nat × PV) → List (List Nat × PV) → List (List Nat × PV)
  | acc, [] => acc
  | acc, x :: r => foldP (insP x.1 x.2 acc) r
def joinT (sep : List Nat) : List (List Nat) → List Nat
  | [] => []
  | [x] => x
  | x :: r => x ++ sep ++ joinT sep r
def zipP : List PV → List PV → List PV
  | k :: ks, v :: vs => .tup [k, v] :: zipP ks vs
  | _, _ => []

inductive Op where
  | add | sub | mul | fdiv | mod | neg
  | eq | ne | lt | le | gt | ge | isN | notN | isin | notin
  | mkDic
  | idx | sl (lo hi : Bool) | rev
  | len | isStr | isTup | isBool | isLst
  | all | sum | toInt | toStr | toTup | toLst | toDic | sorted | sortSet | sortKey | min2 | max2 | minL
  | get1 | get2
  | rng1 | rng2 | enum | items
  deriving DecidableEq

def okMul (i j : Int) : Bool := (decide (-(18446744073709551616) < i) && decide (i < 18446744073709551616)) || (decide (-(18446744073709551616) < j) && decide (j < 18446744073709551616))
def rep {α : Type} (xs : List α) (n : Nat) : List α := (List.replicate n xs).flatten
def minI : Int → List Int → Int
  | m, [] => m
  | m, x :: r => minI (if x < m then x else m) r
def rangeP (a : Int) : Nat → List PV
  | 0 => []
  | n + 1 => .int a :: rangeP (a + 1) n
def enumP (a : Int) : List PV → List PV
  | [] => []
  | x :: r => .tup [.int a, x] :: enumP (a + 1) r
def small (i : Int) : Bool := decide (-1000 ≤ i) && decide (i < 1000)

def opIn (x c : PV) : Option Bool := match c with
  | .lst ys => if x.cmpb (.lst ys) then some (ys.any fun y => y.eq x) else none
  | .tup ys => if x.cmpb (.tup ys) then some (ys.any fun y => y.eq x) else none
  | .str cs => (match x with
    | .str [c] => some (cs.any (· == c))
    | _ => none)
  | .dic ks vs => (match x with
    | .str k => some (dget ks vs k).isSome
    | _ => none)
  | _ => none

def dAdd : List PV → Option PV
  | [.int i, .int j] => some (.int (i + j))
  | [.str x, .str y] => if x.length + y.length ≤ big then some (.str (x ++ y)) else none
  | [.tup x, .tup y] => if x.length + y.length ≤ big then some (.tup (x ++ y)) else none
  | [.lst x, .lst y] => if x.length + y.length ≤ big then some (.lst (x ++ y)) else none
  | _ => none
def dSub : List PV → Option PV
  | [.int i, .int j] => some (.int (i - j))
  | _ => none
def dMul : List PV → Option PV
  | [.int i, .int j] => if okMul i j then some (.int (i * j)) else none
  | [.tup x, .int j] => if x.isEmpty = false ∧ 2 ≤ j ∧ j ≤ 1000 ∧ x.length ≤ 1000 then some (.tup (rep x j.toNat)) else none
  | [.lst x, .int j] => if 0 ≤ j ∧ j ≤ 100 ∧ x.length ≤ 1000 then some (.lst (rep x j.toNat)) else none
  | [.str x, .int j] => if 2 ≤ j ∧ j ≤ 100 ∧ x.isEmpty = false ∧ x.length ≤ 1000 then some (.str (rep x j.toNat)) else none
  | _ => none
def dFdiv : List PV → Option PV
  | [.int i, .int j] => if 0 < j ∧ j < 1073741824 then some (.int (i / j)) else none
  | _ => none
def dMod : List PV → Option PV
  | [.int i, .int j] => if 0 < j then some (.int (i % j)) else none
  | _ => none
def dNeg : List PV → Option PV
  | [.int i] => some (.int (-i))
  | _ => none
def dEq : List PV → Option PV
  | [a, b] => if a.cmpb b then some (.bl (a.eq b)) else none
  | _ => none
def dNe : List PV → Option PV
  | [a, b] => if a.cmpb b then some (.bl (!a.eq b)) else none
  | _ => none
def dLt : List PV → Option PV
  | [.int i, .int j] => some (.bl (decide (i < j)))
  | [.str i, .str j] => some (.bl (tlt i j))
  | _ => none
def dLe : List PV → Option PV
  | [.int i, .int j] => some (.bl (decide (i ≤ j)))
  | [.str i, .str j] => some (.bl (!tlt j i))
  | _ => none
def dGt : List PV → Option PV
  | [.int i, .int j] => some (.bl (decide (j < i)))
  | _ => none
def dGe : List PV → Option PV
  | [.int i, .int j] => some (.bl (decide (j ≤ i)))
  | _ => none
def dIsN : List PV → Option PV
  | [a] => some (.bl a.isNon)
  | _ => none
def dNotN : List PV → Option PV
  | [a] => some (.bl (!a.isNon))
  | _ => none
def dIsin : List PV → Option PV
  | [x, c] => (opIn x c).map .bl
  | _ => none
def dNotin : List PV → Option PV
  | [x, c] => (opIn x c).map fun b => .bl !b
  | _ => none
def dMkDic : List PV → Option PV
  | [] => some (.dic [] [])
  | _ => none
def dIdx : List PV → Option PV
  | [.lst xs, .int i] => getAt xs i
  | [.tup xs, .int i] => getAt xs i
  | [.scr xs, .int i] => getAt xs i
  | [.str xs, .int i] => if xs.length ≤ big then (getAt xs i).map fun c => .str [c] else none
  | [.dic ks vs, .str x] => dget ks vs x
  | _ => none
def dSl : Bool → Bool → List PV → Option PV
  | false, false, [.lst xs] => some (.lst (cut xs none none))
  | true, false, [.lst xs, .int i] => some (.lst (cut xs (some i) none))
  | false, true, [.lst xs, .int j] => some (.lst (cut xs none (some j)))
  | true, true, [.lst xs, .int i, .int j] => some (.lst (cut xs (some i) (some j)))
  | false, false, [.tup xs] => some (.tup (cut xs none none))
  | true, false, [.tup xs, .int i] => some (.tup (cut xs (some i) none))
  | false, true, [.tup xs, .int j] => some (.tup (cut xs none (some j)))
  | true, true, [.tup xs, .int i, .int j] => some (.tup (cut xs (some i) (some j)))
  | _, _, _ => none
def dRev : List PV → Option PV
  | [.lst xs] => some (.lst xs.reverse)
  | [.tup xs] => some (.tup xs.reverse)
  | _ => none
def dLen : List PV → Option PV
  | [.lst xs] => some (.int xs.length)
  | [.tup xs] => some (.int xs.length)
  | [.scr xs] => some (.int xs.length)
  | [.str xs] => if xs.length ≤ big then some (.int xs.length) else none
  | [.dic ks _] => some (.int ks.length)
  | _ => none
def dIsStr : List PV → Option PV
  | [a] => some (.bl (match a with | .str _ => true | _ => false))
  | _ => none
def dIsTup : List PV → Option PV
  | [a] => some (.bl (match a with | .tup _ => true | _ => false))
  | _ => none
def dIsBool : List PV → Option PV
  | [a] => some (.bl (match a with | .bl _ => true | _ => false))
  | _ => none
def dIsLst : List PV → Option PV
  | [a] => some (.bl (match a with | .lst _ => true | .scr _ => true | _ => false))
  | _ => none
def dAll : List PV → Option PV
  | [.lst xs] => (allB xs).map fun bs => .bl (bs.all id)
  | _ => none
def dSum : List PV → Option PV
  | [.lst xs] => (allI xs).map fun ns => .int ns.sum
  | _ => none
def dToInt : List PV → Option PV
  | [.int i] => some (.int i)
  | [.bl b] => some (.int (if b then 1 else 0))
  | _ => none
def dToStr : List PV → Option PV
  | [.str x] => some (.str x)
  | _ => none
def dToTup : List PV → Option PV
  | [.lst xs] => some (.tup xs)
  | [.tup xs] => some (.tup xs)
  | _ => none
def dToLst : List PV → Option PV
  | [.lst xs] => some (.lst xs)
  | [.tup xs] => some (.lst xs)
  | _ => none
def dToDic : List PV → Option PV
  | [.tup xs] => if xs.length ≤ 1000 then (dofs xs ([], [])).map fun d => .dic d.1 d.2 else none
  | [.dic ks vs] => some (.dic ks vs)
  | _ => none
def dSorted : List PV → Option PV
  | [.lst xs] => (allS xs).bind fun ts => if ts.length < 64 then some (.lst ((sortA ts).map .str)) else none
  | _ => none
def dSortSet : List PV → Option PV
  | [.lst xs] => (allS xs).bind fun ts => if ts.length < 64 then some (.lst ((sortT ts).map .str)) else none
  | [.tup xs] => (allS xs).bind fun ts => if ts.length < 64 then some (.lst ((sortT ts).map .str)) else none
  | _ => none
def dSortKey : List PV → Option PV
  | [.lst xs] => (pairKs xs).bind fun l => if xs.length < 64 then some (.lst ((foldP [] l).map (·.2))) else none
  | _ => none
def dMin2 : List PV → Option PV
  | [.int i, .int j] => some (.int (if j < i then j else i))
  | _ => none
def dMax2 : List PV → Option PV
  | [.int i, .int j] => some (.int (if i < j then j else i))
  | _ => none
def dMinL : List PV → Option PV
  | [.lst xs] => (allI xs).bind fun ns => (match ns with | [] => none | n :: r => some (.int (minI n r)))
  | _ => none
def dGet1 : List PV → Option PV
  | [.dic ks vs, .str x] => some ((dget ks vs x).getD .non)
  | _ => none
def dGet2 : List PV → Option PV
  | [.dic ks vs, .str x, d] => if d.isCont then none else some ((dget ks vs x).getD d)
  | _ => none
def dRng1 : List PV → Option PV
  | [.int n] => if small n then some (.lst (rangeP 0 n.toNat)) else none
  | _ => none
def dRng2 : List PV → Option PV
  | [.int a, .int b] => if small a && small b then some (.lst (rangeP a (b - a).toNat)) else none
  | _ => none
def dEnum : List PV → Option PV
  | [.lst xs] => some (.lst (enumP 0 xs))
  | [.tup xs] => some (.lst (enumP 0 xs))
  | _ => none
def dItems : List PV → Option PV
  | [.dic ks vs] => some (.lst (zipP ks vs))
  | _ => none
/-- what an operation makes of its arguments -/
def opDen : Op → List PV → Option PV
  | .add => dAdd
  | .sub => dSub
  | .mul => dMul
  | .fdiv => dFdiv
  | .mod => dMod
  | .neg => dNeg
  | .eq => dEq
  | .ne => dNe
  | .lt => dLt
  | .le => dLe
  | .gt => dGt
  | .ge => dGe
  | .isN => dIsN
  | .notN => dNotN
  | .isin => dIsin
  | .notin => dNotin
  | .mkDic => dMkDic
  | .idx => dIdx
  | .sl a b => dSl a b
  | .rev => dRev
  | .len => dLen
  | .isStr => dIsStr
  | .isTup => dIsTup
  | .isBool => dIsBool
  | .isLst => dIsLst
  | .all => dAll
  | .sum => dSum
  | .toInt => dToInt
  | .toStr => dToStr
  | .toTup => dToTup
  | .toLst => dToLst
  | .toDic => dToDic
  | .sorted => dSorted
  | .sortSet => dSortSet
  | .sortKey => dSortKey
  | .min2 => dMin2
  | .max2 => dMax2
  | .minL => dMinL
  | .get1 => dGet1
  | .get2 => dGet2
  | .rng1 => dRng1
  | .rng2 => dRng2
  | .enum => dEnum
  | .items => dItems
/-- may what an operation makes be a new list or dict -/
def Op.makes : Op → Bool
  | .idx | .get1 | .get2 => false
  | _ => true

/-! ### code -/
mutual
inductive C where
  | var (i : Nat)
  | lit (v : PV)
  | op (o : Op) (a : CL)
  | seq (l : Bool) (a : CL)
  | not (a : C)
  | meth (m : Op) (o a : CL)
  | and (a b : C)
  | or (a b : C)
  | ite (c a b : C)
  | chain (o p : Op) (a c : CL)
  | call (f : Nat) (bs : List Bool) (a : CL)
  | comp (tg own : List Nat) (it cond elt : C)
inductive CL where
  | nil
  | cons (c : C) (r : CL)
end
inductive S where
  | skip
  | seq (a b : S)
  | set (i : Nat) (c : C)
  | setT (is : List Nat) (c : C)
  | par (is : List Nat) (a : CL)
  | ixset (i : Nat) (k c : C)
  | app (i : Nat) (c : C)
  | dpop (i : Nat) (c : C)
  | ite (c : C) (a b : S)
  | for (tg : List Nat) (it : C) (b : S)
  | while (c : C) (b : S)
  | ret (c : C)
  | raise (x : Nat)
  | try (n : Nat) (b : S) (hs : List (Nat × PV))
  | ex (c : C)
  | brk
  | cont

inductive Res (α : Type) where
  | val (a : α)
  | exn (x : Nat)
abbrev Slot := Option (Bool × PV)
abbrev Env := List Slot
abbrev M (α : Type) := Option (Res α × Env)
abbrev Fun := Nat → List PV → Option (Res (PV × Bool) × List PV)

def M.bind {α β : Type} (m : M α) (f : α → Env → M β) : M β := match m with
  | none => none
  | some (.val a, ρ) => f a ρ
  | some (.exn x, ρ) => some (.exn x, ρ)

/-- an argument: a place, or a value -/
abbrev Arg := Sum Nat PV
/-- the values of arguments that are only looked at -/
def looked (ρ : Env) : List Arg → Option (List PV)
  | [] => some []
  | .inr v :: r => (looked ρ r).map (v :: ·)
  | .inl i :: r => match ρ[i]?, looked ρ r with
    | some (some (_, v)), some vs => some (v :: vs)
    | _, _ => none
/-- arguments of a call: the lent ones are places that own a list -/
def lent (ρ : Env) : List Arg → Option (List PV)
  | [] => some []
  | .inr v :: r => (lent ρ r).map (v :: ·)
  | .inl i :: r => match ρ[i]?, lent ρ r with
    | some (some (true, v)), some vs => some (v :: vs)
    | _, _ => none
def places : List Arg → List Nat
  | [] => []
  | .inr _ :: r => places r
  | .inl i :: r => i :: places r
/-- what was lent comes back -/
def back (ρ : Env) : List Nat → List PV → Option Env
  | [], [] => some ρ
  | i :: is, v :: vs => back (ρ.set i (some (true, v))) is vs
  | _, _ => none
def nodupB : List Nat → Bool
  | [] => true
  | i :: r => !r.contains i && nodupB r
def allIn (ρ : Env) (is : List Nat) : Bool := is.all fun i => decide (i < ρ.length)
def bindT (tg : List Nat) (v : PV) (ρ : Env) : Option Env := if allIn ρ tg = false then none else match tg with
  | [i] => some (ρ.set i (some (false, v)))
  | is => match v with
    | .tup vs => if vs.length = is.length then some ((is.zip vs).foldl (fun ρ p => ρ.set p.1 (some (false, p.2))) ρ) else none
    | _ => none
def itemsOf : PV → Option (List PV)
  | .lst xs => some xs
  | .tup xs => some xs
  | .str x => some (x.map fun c => .str [c])
  | _ => none
def wipeP (ρ : Env) : List Nat → Env
  | [] => ρ
  | i :: r => (wipeP ρ r).set i none
/-- the slots at some places as they were -/
def keepP (ρ ρ' : Env) : List Nat → Env
  | [] => ρ'
  | i :: r => (keepP ρ ρ' r).set i (ρ[i]?.getD none)
def compLoop (fc fe : Env → M (PV × Bool)) (tg own : List Nat) : List PV → List PV → Env → M (List PV)
  | [], acc, ρ => some (.val acc, ρ)
  | x :: xs, acc, ρ => match bindT tg x ρ with
    | none => none
    | some ρ1 => match fc ρ1 with
      | some (.val (.bl true, _), ρ2) => (match fe ρ2 with
        | some (.val (v, _), ρ3) => compLoop fc fe tg own xs (acc ++ [v]) (wipeP ρ3 own)
        | _ => none)
      | some (.val (.bl false, _), ρ2) => compLoop fc fe tg own xs acc (wipeP ρ2 own)
      | _ => none

mutual
/-- what an expression is worth, and whether it is a list or dict that nobody else has -/
def den (Φ : Fun) : C → Env → M (PV × Bool)
  | .var i, ρ => match ρ[i]? with
    | some (some (f, v)) => some (.val (v, false), if f then ρ.set i (some (false, v)) else ρ)
    | _ => none
  | .lit v, ρ => some (.val (v, false), ρ)
  | .op o a, ρ => (denL Φ a ρ).bind fun as ρ' => match looked ρ' as with
    | none => none
    | some vs => match opDen o vs with
      | none => none
      | some v => some (.val (v, o.makes && v.isCont), ρ')
  | .seq l a, ρ => (denV Φ a ρ).bind fun vs ρ' => some (.val (if l then (.lst vs, true) else (.tup vs, false)), ρ')
  | .not a, ρ => (den Φ a ρ).bind fun v ρ' => match v.1 with
    | .bl b => some (.val (.bl !b, false), ρ')
    | _ => none
  | .meth m o a, ρ => (denL Φ o ρ).bind fun ho ρ1 => match looked ρ1 ho with
    | some [w] => if w.isDic then (denL Φ a ρ1).bind fun as ρ2 => match looked ρ2 (ho ++ as) with
      | none => none
      | some vs => match opDen m vs with
        | none => none
        | some v => some (.val (v, m.makes && v.isCont), ρ2) else none
    | _ => none
  | .and a b, ρ => (den Φ a ρ).bind fun v ρ' => match v.1 with
    | .bl true => den Φ b ρ'
    | .bl false => some (.val (.bl false, false), ρ')
    | _ => none
  | .or a b, ρ => (den Φ a ρ).bind fun v ρ' => match v.1 with
    | .bl false => den Φ b ρ'
    | .bl true => some (.val (.bl true, false), ρ')
    | _ => none
  | .ite c a b, ρ => (den Φ c ρ).bind fun v ρ' => match v.1 with
    | .bl true => den Φ a ρ'
    | .bl false => den Φ b ρ'
    | _ => none
  | .chain o p a c, ρ => (denL Φ a ρ).bind fun as ρ1 => match looked ρ1 as with
    | some [x, y] => if y.isCont then none else (match opDen o [x, y] with
      | some (.bl true) => (denL Φ c ρ1).bind fun as2 ρ2 => match looked ρ2 (.inr y :: as2) with
        | some vs => (match opDen p vs with
          | some v => some (.val (v, false), ρ2)
          | none => none)
        | none => none
      | some (.bl false) => some (.val (.bl false, false), ρ1)
      | _ => none)
    | _ => none
  | .call f bs a, ρ => (denB Φ bs a ρ).bind fun as ρ' => match lent ρ' as with
    | none => none
    | some vs => if nodupB (places as) then (match Φ f vs with
      | none => none
      | some (r, ws) => match back ρ' (places as) ws with
        | none => none
        | some ρ2 => some (r, ρ2)) else none
  | .comp tg own it cond elt, ρ => (den Φ it ρ).bind fun v ρ1 => match itemsOf v.1 with
    | none => none
    | some xs => if xs.length ≤ big then (compLoop (fun ρ => den Φ cond ρ) (fun ρ => den Φ elt ρ) tg own xs [] (wipeP ρ1 own)).bind fun ys ρ2 => some (.val (.lst ys, true), keepP ρ1 ρ2 own) else none
def denL (Φ : Fun) : CL → Env → M (List Arg)
  | .nil, ρ => some (.val [], ρ)
  | .cons (.var i) r, ρ => match ρ[i]? with
    | some (some _) => (denL Φ r ρ).bind fun as ρ2 => some (.val (.inl i :: as), ρ2)
    | _ => none
  | .cons c r, ρ => (den Φ c ρ).bind fun v ρ1 => (denL Φ r ρ1).bind fun as ρ2 => some (.val (.inr v.1 :: as), ρ2)
def denV (Φ : Fun) : CL → Env → M (List PV)
  | .nil, ρ => some (.val [], ρ)
  | .cons c r, ρ => (den Φ c ρ).bind fun v ρ1 => (denV Φ r ρ1).bind fun vs ρ2 => some (.val (v.1 :: vs), ρ2)
def denB (Φ : Fun) : List Bool → CL → Env → M (List Arg)
  | [], .nil, ρ => some (.val [], ρ)
  | true :: bs, .cons (.var i) r, ρ => match ρ[i]? with
    | some (some (true, _)) => (denB Φ bs r ρ).bind fun as ρ2 => some (.val (.inl i :: as), ρ2)
    | _ => none
  | false :: bs, .cons c r, ρ => (den Φ c ρ).bind fun v ρ1 => (denB Φ bs r ρ1).bind fun as ρ2 => some (.val (.inr v.1 :: as), ρ2)
  | _, _, _ => none
end

/-- expressions side by side, none of them shared -/
def denF (Φ : Fun) : CL → Env → M (List (PV × Bool))
  | .nil, ρ => some (.val [], ρ)
  | .cons c r, ρ => (den Φ c ρ).bind fun v ρ1 => (denF Φ r ρ1).bind fun vs ρ2 => some (.val (v :: vs), ρ2)
/-- what is returned: a place gives its list away -/
def mv (Φ : Fun) : C → Env → M (PV × Bool)
  | .var i, ρ => match ρ[i]? with
    | some (some (f, v)) => some (.val (v, f), ρ.set i none)
    | _ => none
  | .ite c a b, ρ => (den Φ c ρ).bind fun v ρ' => match v.1 with
    | .bl true => mv Φ a ρ'
    | .bl false => mv Φ b ρ'
    | _ => none
  | c, ρ => den Φ c ρ

inductive Fl where
  | nx | bk | ct
  | rt (v : PV) (f : Bool)

def setAll : List Nat → List (PV × Bool) → Env → Option Env
  | [], [], ρ => some ρ
  | i :: is, v :: vs, ρ => setAll is vs (ρ.set i (some (v.2, v.1)))
  | _, _, _ => none
def forLoop (f : Env → M Fl) (tg : List Nat) : List PV → Env → M Fl
  | [], ρ => some (.val .nx, ρ)
  | x :: xs, ρ => match bindT tg x ρ with
    | none => none
    | some ρ1 => (f ρ1).bind fun r ρ2 => match r with
      | .nx => forLoop f tg xs ρ2
      | .ct => forLoop f tg xs ρ2
      | .bk => some (.val .nx, ρ2)
      | .rt v b => some (.val (.rt v b), ρ2)
def whileLoop (fc : Env → M (PV × Bool)) (f : Env → M Fl) : Nat → Env → M Fl
  | 0, _ => none
  | n + 1, ρ => (fc ρ).bind fun v ρ1 => match v.1 with
    | .bl false => some (.val .nx, ρ1)
    | .bl true => (f ρ1).bind fun r ρ2 => match r with
      | .nx => whileLoop fc f n ρ2
      | .ct => whileLoop fc f n ρ2
      | .bk => some (.val .nx, ρ2)
      | .rt v b => some (.val (.rt v b), ρ2)
    | _ => none
def noneIn (fx is : List Nat) : Bool := is.all fun i => !fx.contains i
/-- x[k] = v of a list or dict that is one's own -/
def putIx (o k v : PV) : Option PV := match o, k with
  | .lst xs, .int i => (ixOf xs.length i).map fun j => .lst (xs.set j v)
  | .dic ks vs, .str x => if ks.length < 1000 then (let d := dput ks vs x v; some (.dic d.1 d.2)) else none
  | _, _ => none
def setAt (ρ : Env) (i : Nat) : Bool := match ρ[i]? with
  | some (some _) => true
  | _ => false
def lstAt (ρ : Env) (i : Nat) : Bool := match ρ[i]? with
  | some (some (true, .lst _)) => true
  | _ => false
def dicAt (ρ : Env) (i : Nat) : Bool := match ρ[i]? with
  | some (some (true, .dic _ _)) => true
  | _ => false
def exe (Φ : Fun) (fx : List Nat) : S → Env → M Fl
  | .skip, ρ => some (.val .nx, ρ)
  | .seq a b, ρ => (exe Φ fx a ρ).bind fun f ρ' => match f with
    | .nx => exe Φ fx b ρ'
    | f => some (.val f, ρ')
  | .set i c, ρ => (den Φ c ρ).bind fun v ρ' => if noneIn fx [i] && decide (i < ρ'.length) then some (.val .nx, ρ'.set i (some (v.2, v.1))) else none
  | .setT is c, ρ => (den Φ c ρ).bind fun v ρ' => if noneIn fx is then (match bindT is v.1 ρ' with
    | some ρ2 => some (.val .nx, ρ2)
    | none => none) else none
  | .par is a, ρ => (denF Φ a ρ).bind fun vs ρ' => if noneIn fx is && nodupB is then (match setAll is vs ρ' with
    | some ρ2 => some (.val .nx, ρ2)
    | none => none) else none
  | .ixset i k c, ρ => (den Φ c ρ).bind fun v ρ1 => if setAt ρ1 i then (den Φ k ρ1).bind fun j ρ2 => match ρ2[i]? with
    | some (some (true, o)) => (match putIx o j.1 v.1 with
      | some o' => some (.val .nx, ρ2.set i (some (true, o')))
      | none => none)
    | _ => none else none
  | .app i c, ρ => if lstAt ρ i then (den Φ c ρ).bind fun v ρ1 => match ρ1[i]? with
    | some (some (true, .lst xs)) => if xs.length < big then some (.val .nx, ρ1.set i (some (true, .lst (xs ++ [v.1])))) else none
    | _ => none else none
  | .dpop i c, ρ => if dicAt ρ i then (den Φ c ρ).bind fun v ρ1 => match ρ1[i]?, v.1 with
    | some (some (true, .dic ks vs)), .str x => if (dget ks vs x).isSome then (let d := ddel ks vs x; some (.val .nx, ρ1.set i (some (true, .dic d.1 d.2)))) else none
    | _, _ => none else none
  | .ite c a b, ρ => (den Φ c ρ).bind fun v ρ' => match v.1 with
    | .bl true => exe Φ fx a ρ'
    | .bl false => exe Φ fx b ρ'
    | _ => none
  | .for tg it b, ρ => (den Φ it ρ).bind fun v ρ1 => match itemsOf v.1 with
    | some xs => if noneIn fx tg then forLoop (fun ρ => exe Φ fx b ρ) tg xs ρ1 else none
    | none => none
  | .while c b, ρ => whileLoop (fun ρ => den Φ c ρ) (fun ρ => exe Φ fx b ρ) 64 ρ
  | .ret c, ρ => (mv Φ c ρ).bind fun v ρ' => some (.val (.rt v.1 v.2), ρ')
  | .raise x, ρ => some (.exn x, ρ)
  | .try n b hs, ρ => match exe Φ fx b ρ with
    | some (.exn x, ρ') => if x < n then (match hs.find? fun h => h.1 == x with
      | some h => some (.val (.rt h.2 false), ρ')
      | none => some (.exn x, ρ')) else none
    | r => r
  | .ex c, ρ => (den Φ c ρ).bind fun _ ρ' => some (.val .nx, ρ')
  | .brk, ρ => some (.val .bk, ρ)
  | .cont, ρ => some (.val .ct, ρ)

/-- a def: how many names it has, which parameters are lent, its body -/
structure Fn where
  names : Nat
  lent : List Bool
  body : S
def lentIx : Nat → List Bool → List Nat
  | _, [] => []
  | i, true :: r => i :: lentIx (i + 1) r
  | i, false :: r => lentIx (i + 1) r
def backs (ρ : Env) : List Nat → Option (List PV)
  | [] => some []
  | i :: r => match ρ[i]?, backs ρ r with
    | some (some (true, v)), some vs => some (v :: vs)
    | _, _ => none
def entry (fn : Fn) (vs : List PV) : Env := (fn.lent.zip vs).map some ++ List.replicate (fn.names - vs.length) none
def runFn (Φ : Fun) (fn : Fn) (vs : List PV) : Option (Res (PV × Bool) × List PV) :=
  if vs.length = fn.lent.length ∧ vs.length ≤ fn.names then
    match exe Φ (lentIx 0 fn.lent) fn.body (entry fn vs) with
    | some (.val .nx, ρ) => (backs ρ (lentIx 0 fn.lent)).map fun ws => (.val (.non, false), ws)
    | some (.val (.rt v f), ρ) => (backs ρ (lentIx 0 fn.lent)).map fun ws => (.val (v, f), ws)
    | some (.exn x, ρ) => (backs ρ (lentIx 0 fn.lent)).map fun ws => (.exn x, ws)
    | _ => none
  else none
/-- calls nested at most so deep -/
def callN (T : List Fn) : Nat → Fun
  | 0, _, _ => none
  | n + 1, f, vs => match T[f]? with
    | some fn => runFn (callN T n) fn vs
    | none => none
end Tl
end
section
set_option linter.all false
set_option maxRecDepth 100000
namespace Tl
open PySem PySem.Spec L2

abbrev asT (x : List Nat) : Str := ⟨x.toArray⟩
def Asc (x : List Nat) : Prop := ∀ c ∈ x, c < 128

/-- a tuple whose object has no dict of its own -/
def TupN (K : PySem.W.Frag) (Z : Hp) (a : Addr) (xs : List V) : Prop :=
  (∃ o : Obj, Z a = some (.frz o (.tup xs)) ∧ o.dict = none) ∨
    ∃ (o : Obj) (its : Array Value) (n : Nat), K.lookup a = some o ∧ o.cls = .type "tuple" ∧ o.dict = none ∧ o.data = .seq its n ∧ its.size ≤ sizeLine ∧ Vals xs its.toList
theorem TupN.sq {K : PySem.W.Frag} {Z : Hp} {a : Addr} {xs : List V} (h : TupN K Z a xs) : SqT K Z a xs := by
  rcases h with ⟨o, h, _⟩ | ⟨o, its, n, h1, h2, _, h3, h4, h5⟩
  · exact .inl (.inr ⟨o, h⟩)
  · exact .inr ⟨o, its, n, h1, h2, h3, h4, h5⟩
section
variable (K : PySem.W.Frag)
mutual
/-- a value of the machine bears a datum; Z: what stays as it is -/
inductive Rep (Z : Hp) : V → PV → Prop
  | non : Rep Z .non .non
  | bl (b : Bool) : Rep Z (.bl b) (.bl b)
  | int (i : Int) : Rep Z (.int i) (.int i)
  | str (x : List Nat) : Asc x → Rep Z (.str (asT x)) (.str x)
  | tup {a : Addr} {xs : List V} {ps : List PV} : TupN K Z a xs → RepL Z xs ps → Rep Z (.ref a) (.tup ps)
  | lst {a : Addr} {xs : List V} {ps : List PV} : Z a = some (.lst xs) → RepL Z xs ps → Rep Z (.ref a) (.lst ps)
  | scr {a : Addr} {xs : List V} {ps : List PV} : SqL K Z a xs → RepL Z xs ps → Rep Z (.ref a) (.scr ps)
  | dic {a : Addr} {kvs : List (Key × V)} {ks vs : List PV} : Z a = some (.dK kvs) → RepD Z kvs ks vs → Rep Z (.ref a) (.dic ks vs)
inductive RepL (Z : Hp) : List V → List PV → Prop
  | nil : RepL Z [] []
  | cons {v : V} {vs : List V} {p : PV} {ps : List PV} : Rep Z v p → RepL Z vs ps → RepL Z (v :: vs) (p :: ps)
inductive RepD (Z : Hp) : List (Key × V) → List PV → List PV → Prop
  | nil : RepD Z [] [] []
  | cons {x : List Nat} {v : V} {kvs : List (Key × V)} {p : PV} {ks vs : List PV} : Asc x → Rep Z v p → RepD Z kvs ks vs → RepD Z ((.inr (asT x), v) :: kvs) (.str x :: ks) (p :: vs)
end
/-- a list or dict that nobody else has -/
def OwnRep (Z H : Hp) (a : Addr) (p : PV) : Prop := Z a = none ∧
  ((∃ xs ps, p = .lst ps ∧ H a = some (.lst xs) ∧ RepL K Z xs ps) ∨ (∃ kvs ks vs, p = .dic ks vs ∧ H a = some (.dK kvs) ∧ RepD K Z kvs ks vs))
def PRep (Z H : Hp) (u : V) (p : PV) : Prop := Rep K Z u p ∨ ∃ a, u = .ref a ∧ OwnRep K Z H a p
inductive PRepL (Z H : Hp) : List V → List PV → Prop
  | nil : PRepL Z H [] []
  | cons {v : V} {vs : List V} {p : PV} {ps : List PV} : PRep K Z H v p → PRepL Z H vs ps → PRepL Z H (v :: vs) (p :: ps)
end

/-- what stays stands in the heap (a dict that is walked is locked) -/
def ZOk (Z H : Hp) : Prop := ∀ a u, Z a = some u → H a = some u ∨ ∃ o kvs, u = .dK kvs ∧ H a = some (.frz o u)
def ZLe (Z Z' : Hp) : Prop := ∀ a u, Z a = some u → Z' a = some u
theorem ZLe.refl {Z : Hp} : ZLe Z Z := fun _ _ h => h
theorem ZLe.trans {Z Z' Z2 : Hp} (h : ZLe Z Z') (h' : ZLe Z' Z2) : ZLe Z Z2 := fun a u e => h' a u (h a u e)

section
variable {K : PySem.W.Frag} {Z Z' H H' : Hp}
theorem rd_zle {a : Addr} {u : HO} (r : Rd Z a u) (h : ZLe Z Z') : Rd Z' a u := by
  rcases r with r | ⟨o, r⟩
  · exact .inl (h _ _ r)
  · exact .inr ⟨o, h _ _ r⟩
theorem sql_zle {a : Addr} {xs : List V} (r : SqL K Z a xs) (h : ZLe Z Z') : SqL K Z' a xs := by
  rcases r with r | r
  · exact .inl (rd_zle r h)
  · exact .inr r
theorem sqt_zle {a : Addr} {xs : List V} (r : SqT K Z a xs) (h : ZLe Z Z') : SqT K Z' a xs := by
  rcases r with r | r
  · exact .inl (rd_zle r h)
  · exact .inr r
theorem TupN.zle {a : Addr} {xs : List V} (r : TupN K Z a xs) (h : ZLe Z Z') : TupN K Z' a xs := by
  rcases r with ⟨o, r, d⟩ | r
  · exact .inl ⟨o, h _ _ r, d⟩
  · exact .inr r
theorem rd_zok {a : Addr} {u : HO} (r : Rd Z a u) (h : ZOk Z H) : Rd H a u := by
  rcases r with r | ⟨o, r⟩
  · rcases h _ _ r with e | ⟨o, kvs, _, e⟩
    · exact .inl e
    · exact .inr ⟨o, e⟩
  · rcases h _ _ r with e | ⟨o, kvs, e, _⟩
    · exact .inr ⟨_, e⟩
    · cases e
theorem sql_zok {a : Addr} {xs : List V} (r : SqL K Z a xs) (h : ZOk Z H) : SqL K H a xs := by
  rcases r with r | r
  · exact .inl (rd_zok r h)
  · exact .inr r
theorem TupN.zok {a : Addr} {xs : List V} (r : TupN K Z a xs) (h : ZOk Z H) : TupN K H a xs := by
  rcases r with ⟨o, r, d⟩ | r
  · rcases h _ _ r with e | ⟨_, _, e, _⟩
    · exact .inl ⟨o, e, d⟩
    · cases e
  · exact .inr r
theorem sqt_zok {a : Addr} {xs : List V} (r : SqT K Z a xs) (h : ZOk Z H) : SqT K H a xs := by
  rcases r with r | r
  · exact .inl (rd_zok r h)
  · exact .inr r
mutual
theorem Rep.mono (h : ZLe Z Z') : ∀ {p : PV} {v : V}, Rep K Z v p → Rep K Z' v p
  | .non, _, .non => .non
  | .bl _, _, .bl _ => .bl _
  | .int _, _, .int _ => .int _
  | .str _, _, .str _ a => .str _ a
  | .tup _, _, .tup s r => .tup (s.zle h) (RepL.mono h r)
  | .lst _, _, .lst s r => .lst (h _ _ s) (RepL.mono h r)
  | .scr _, _, .scr s r => .scr (sql_zle s h) (RepL.mono h r)
  | .dic _ _, _, .dic s r => .dic (h _ _ s) (RepD.mono h r)
theorem RepL.mono (h : ZLe Z Z') : ∀ {ps : List PV} {vs : List V}, RepL K Z vs ps → RepL K Z' vs ps
  | [], _, .nil => .nil
  | _ :: _, _, .cons r s => .cons (Rep.mono h r) (RepL.mono h s)
theorem RepD.mono (h : ZLe Z Z') : ∀ {ks vs : List PV} {kvs : List (Key × V)}, RepD K Z kvs ks vs → RepD K Z' kvs ks vs
  | _, [], _, .nil => .nil
  | _, _ :: _, _, .cons a r s => .cons a (Rep.mono h r) (RepD.mono h s)
end
theorem RepL.length : ∀ {ps : List PV} {vs : List V}, RepL K Z vs ps → vs.length = ps.length
  | [], _, .nil => rfl
  | _ :: _, _, .cons _ s => by simp [RepL.length s]
theorem RepD.length : ∀ {ks vs : List PV} {kvs : List (Key × V)}, RepD K Z kvs ks vs → kvs.length = ks.length ∧ kvs.length = vs.length
  | _, [], _, .nil => ⟨rfl, rfl⟩
  | _, _ :: _, _, .cons _ _ s => by have := RepD.length s; simp [this.1, this.2]; omega
theorem RepL.get : ∀ {ps : List PV} {vs : List V} {i : Nat} {p : PV}, RepL K Z vs ps → ps[i]? = some p → ∃ v, vs[i]? = some v ∧ Rep K Z v p
  | [], _, _, _, .nil, e => by simp at e
  | _ :: _, _, 0, _, .cons r _, e => by simp at e; subst e; exact ⟨_, rfl, r⟩
  | _ :: _, _, i + 1, _, .cons _ s, e => by
    obtain ⟨v, h1, h2⟩ := RepL.get (i := i) s (by simpa using e)
    exact ⟨v, by simpa using h1, h2⟩
theorem RepL.get' : ∀ {ps : List PV} {vs : List V} {i : Nat} {v : V}, RepL K Z vs ps → vs[i]? = some v → ∃ p, ps[i]? = some p ∧ Rep K Z v p
  | [], _, _, _, .nil, e => by simp at e
  | _ :: _, _, 0, _, .cons r _, e => by simp at e; subst e; exact ⟨_, rfl, r⟩
  | _ :: _, _, i + 1, _, .cons _ s, e => by
    obtain ⟨v, h1, h2⟩ := RepL.get' (i := i) s (by simpa using e)
    exact ⟨v, by simpa using h1, h2⟩
theorem RepL.append : ∀ {ps qs : List PV} {vs us : List V}, RepL K Z vs ps → RepL K Z us qs → RepL K Z (vs ++ us) (ps ++ qs)
  | [], _, _, _, .nil, s => s
  | _ :: _, _, _, _, .cons r t, s => .cons r (RepL.append t s)
theorem RepL.take : ∀ {ps : List PV} {vs : List V} (n : Nat), RepL K Z vs ps → RepL K Z (vs.take n) (ps.take n)
  | _, _, 0, _ => by simp; exact .nil
  | [], _, _ + 1, .nil => .nil
  | _ :: _, _, n + 1, .cons r t => .cons r (RepL.take n t)
theorem RepL.drop : ∀ {ps : List PV} {vs : List V} (n : Nat), RepL K Z vs ps → RepL K Z (vs.drop n) (ps.drop n)
  | _, _, 0, r => r
  | [], _, _ + 1, .nil => .nil
  | _ :: _, _, n + 1, .cons r t => RepL.drop n t
theorem RepL.set : ∀ {ps : List PV} {vs : List V} (n : Nat) {p : PV} {v : V}, RepL K Z vs ps → Rep K Z v p → RepL K Z (vs.set n v) (ps.set n p)
  | [], _, _, _, _, .nil, _ => .nil
  | _ :: _, _, 0, _, _, .cons _ t, r => .cons r t
  | _ :: _, _, n + 1, _, _, .cons q t, r => .cons q (RepL.set n t r)
theorem RepL.reverse {ps : List PV} {vs : List V} (r : RepL K Z vs ps) : RepL K Z vs.reverse ps.reverse := by
  induction ps generalizing vs with
  | nil => cases r; exact .nil
  | cons p ps ih =>
    cases r with
    | cons r s =>
      simp only [List.reverse_cons]
      exact (ih s).append (.cons r .nil)
theorem Rep.notDic {v : V} {p : PV} (r : Rep K Z v p) (h : ∀ a, v ≠ .ref a) : p.isCont = false := by
  cases r <;> first | rfl | exact absurd rfl (h _)
end

/-! ### the state of a frame -/
def Own (ρ : Env) (σ : St) (a : Addr) : Prop := ∃ (i : Nat) (p : PV), ρ[i]? = some (some (true, p)) ∧ σ[i]? = some (some (V.ref a))
structure StOk (K : PySem.W.Frag) (Z : Hp) (ρ : Env) (σ : St) (H : Hp) : Prop where
  z : ZOk Z H
  len : ρ.length = σ.length
  sh : ∀ (i : Nat) (p : PV), ρ[i]? = some (some (false, p)) → ∃ v, σ[i]? = some (some v) ∧ Rep K Z v p
  ow : ∀ (i : Nat) (p : PV), ρ[i]? = some (some (true, p)) → ∃ a, σ[i]? = some (some (V.ref a)) ∧ OwnRep K Z H a p
  inj : ∀ (i j : Nat) (p q : PV) (a : Addr), ρ[i]? = some (some (true, p)) → ρ[j]? = some (some (true, q)) → σ[i]? = some (some (V.ref a)) → σ[j]? = some (some (V.ref a)) → i = j
/-- from one state to a later one: O, O' what is owned -/
structure Step (O O' : Addr → Prop) (Z H Z' H' : Hp) : Prop where
  fr : ∀ a u, H a = some u → ¬ O a → H' a = some u
  zm : ZLe Z Z'
  zn : ∀ a, Z a = none → H a ≠ none → ¬ O a → Z' a = none
  on : ∀ a, O' a → O a ∨ H a = none
  al : ∀ a, H a ≠ none → H' a ≠ none

section
variable {K : PySem.W.Frag} {Z Z1 Z2 H H1 H2 : Hp} {ρ ρ1 : Env} {σ : St} {O O1 O2 : Addr → Prop} {a : Addr} {p : PV}
theorem Step.refl : Step O O Z H Z H := ⟨fun _ _ e _ => e, .refl, fun _ e _ _ => e, fun _ h => .inl h, fun _ h => h⟩
theorem Step.trans (s : Step O O1 Z H Z1 H1) (t : Step O1 O2 Z1 H1 Z2 H2) : Step O O2 Z H Z2 H2 := by
  have nO : ∀ a, H a ≠ none → ¬ O a → ¬ O1 a := fun a h1 h2 h3 => (s.on a h3).elim h2 h1
  refine ⟨fun a u e n => ?_, s.zm.trans t.zm, fun a e h n => ?_, fun a h => ?_, fun a h => t.al a (s.al a h)⟩
  · exact t.fr a u (s.fr a u e n) (nO a (by rw [e]; exact fun z => nomatch z) n)
  · exact t.zn a (s.zn a e h n) (s.al a h) (nO a h n)
  · rcases t.on a h with h | h
    · exact s.on a h
    · refine .inr ?_
      cases e : H a with
      | none => rfl
      | some u => exact absurd h (s.al a (by rw [e]; exact fun z => nomatch z))
theorem Step.imp {O' O1' : Addr → Prop} (s : Step O O1 Z H Z1 H1) (h : ∀ a, O a → O' a) (h' : ∀ a, O1' a → O1 a ∨ O' a) : Step O' O1' Z H Z1 H1 :=
  ⟨fun a u e n => s.fr a u e fun z => n (h a z), s.zm, fun a e k n => s.zn a e k fun z => n (h a z), fun a z => by
    rcases h' a z with z | z
    · rcases s.on a z with z | z
      · exact .inl (h a z)
      · exact .inr z
    · exact .inl z, s.al⟩
theorem OwnRep.h (r : OwnRep K Z H a p) : H a ≠ none := by
  rcases r.2 with ⟨_, _, _, e, _⟩ | ⟨_, _, _, _, e, _⟩ <;> rw [e] <;> exact fun z => nomatch z
theorem OwnRep.move (r : OwnRep K Z H a p) (zm : ZLe Z Z1) (zn : Z1 a = none) (fr : ∀ u, H a = some u → H1 a = some u) : OwnRep K Z1 H1 a p := by
  refine ⟨zn, ?_⟩
  rcases r.2 with ⟨xs, ps, e1, e2, e3⟩ | ⟨kvs, ks, vs, e1, e2, e3⟩
  · exact .inl ⟨xs, ps, e1, fr _ e2, e3.mono zm⟩
  · exact .inr ⟨kvs, ks, vs, e1, fr _ e2, e3.mono zm⟩
theorem StOk.own_h (s : StOk K Z ρ σ H) (h : Own ρ σ a) : H a ≠ none := by
  obtain ⟨i, p, e1, e2⟩ := h
  obtain ⟨b, e3, r⟩ := s.ow i p e1
  rw [e2] at e3; cases e3
  exact r.h
theorem StOk.own_z (s : StOk K Z ρ σ H) (h : Own ρ σ a) : Z a = none := by
  obtain ⟨i, p, e1, e2⟩ := h
  obtain ⟨b, e3, r⟩ := s.ow i p e1
  rw [e2] at e3; cases e3
  exact r.1
/-- an owned thing is from now on shared -/
def contOf (H : Hp) (Z : Hp) (a : Addr) : Hp := fun b => if b = a then H a else Z b
theorem contOf_le (hz : Z a = none) : ZLe Z (contOf H Z a) := fun b u e => by
  unfold contOf
  by_cases h : b = a
  · subst h; rw [hz] at e; cases e
  · rw [if_neg h]; exact e
theorem contOf_ne {b : Addr} (h : b ≠ a) : contOf H Z a b = Z b := if_neg h
theorem contOf_eq : contOf H Z a a = H a := if_pos rfl
theorem OwnRep.freeze (r : OwnRep K Z H a p) : Rep K (contOf H Z a) (V.ref a) p := by
  have le := contOf_le (H := H) r.1
  rcases r.2 with ⟨xs, ps, rfl, e2, e3⟩ | ⟨kvs, ks, vs, rfl, e2, e3⟩
  · exact .lst (by rw [contOf_eq]; exact e2) (e3.mono le)
  · exact .dic (by rw [contOf_eq]; exact e2) (e3.mono le)
theorem ZOk.cont (h : ZOk Z H) : ZOk (contOf H Z a) H := fun b u e => by
  by_cases q : b = a
  · subst q; rw [contOf_eq] at e; exact .inl e
  · rw [contOf_ne q] at e; exact h b u e
theorem StOk.cont (s : StOk K Z ρ σ H) (r : OwnRep K Z H a p) (n : ¬ Own ρ σ a) : StOk K (contOf H Z a) ρ σ H := by
  have le := contOf_le (H := H) r.1
  refine ⟨s.z.cont, s.len, fun i p e => ?_, fun i q e => ?_, s.inj⟩
  · obtain ⟨v, e1, e2⟩ := s.sh i p e
    exact ⟨v, e1, e2.mono le⟩
  · obtain ⟨b, e1, e2⟩ := s.ow i q e
    have hb : b ≠ a := fun z => n ⟨i, q, e, by rw [← z]; exact e1⟩
    exact ⟨b, e1, e2.move le (by rw [contOf_ne hb]; exact e2.1) fun _ z => z⟩
theorem Step.cont (s : Step O O1 Z H Z1 H1) (r : OwnRep K Z1 H1 a p) (h : O a ∨ H a = none) : Step O O1 Z H (contOf H1 Z1 a) H1 := by
  refine ⟨s.fr, s.zm.trans (contOf_le r.1), fun b e k n => ?_, s.on, s.al⟩
  have hb : b ≠ a := fun z => by
    subst z
    exact h.elim n k
  rw [contOf_ne hb]
  exact s.zn b e k n
end
end Tl
end
section
set_option linter.all false
set_option maxRecDepth 100000
namespace Tl
open PySem PySem.Spec L2
section
variable {K : PySem.W.Frag} {Z H : Hp} {u : V} {p : PV}
/-! ### what bears a datum -/
theorem prep_sc (h : PRep K Z H u p) (c : p.isCont = false) : Rep K Z u p := by
  rcases h with h | ⟨a, rfl, _, h⟩
  · exact h
  · rcases h with ⟨_, _, rfl, _⟩ | ⟨_, _, _, rfl, _⟩ <;> cases c
theorem prep_non (h : PRep K Z H u .non) : u = .non := by cases prep_sc h rfl; rfl
theorem prep_bl {b : Bool} (h : PRep K Z H u (.bl b)) : u = .bl b := by cases prep_sc h rfl; rfl
theorem prep_int {i : Int} (h : PRep K Z H u (.int i)) : u = .int i := by cases prep_sc h rfl; rfl
theorem prep_str {x : List Nat} (h : PRep K Z H u (.str x)) : u = .str (asT x) ∧ Asc x := by cases prep_sc h rfl; exact ⟨rfl, by assumption⟩
theorem prep_tup {ps : List PV} (h : PRep K Z H u (.tup ps)) : ∃ a xs, u = .ref a ∧ TupN K Z a xs ∧ RepL K Z xs ps := by cases prep_sc h rfl; exact ⟨_, _, rfl, by assumption, by assumption⟩
theorem prep_scr {ps : List PV} (h : PRep K Z H u (.scr ps)) : ∃ a xs, u = .ref a ∧ SqL K Z a xs ∧ RepL K Z xs ps := by cases prep_sc h rfl; exact ⟨_, _, rfl, by assumption, by assumption⟩
theorem zok_lst (hz : ZOk Z H) {a : Addr} {xs : List V} (e : Z a = some (.lst xs)) : H a = some (.lst xs) := by
  rcases hz _ _ e with h | ⟨_, _, h, _⟩
  · exact h
  · cases h
theorem prep_lst (hz : ZOk Z H) {ps : List PV} (h : PRep K Z H u (.lst ps)) : ∃ a xs, u = .ref a ∧ H a = some (.lst xs) ∧ RepL K Z xs ps := by
  rcases h with h | ⟨a, rfl, _, h⟩
  · cases h with
    | lst e r => exact ⟨_, _, rfl, zok_lst hz e, r⟩
  · rcases h with ⟨xs, qs, e, h, r⟩ | ⟨_, _, _, e, _⟩
    · cases e; exact ⟨a, xs, rfl, h, r⟩
    · cases e
theorem prep_dic (hz : ZOk Z H) {ks vs : List PV} (h : PRep K Z H u (.dic ks vs)) : ∃ a kvs, u = .ref a ∧ Rd H a (.dK kvs) ∧ RepD K Z kvs ks vs := by
  rcases h with h | ⟨a, rfl, _, h⟩
  · cases h with
    | dic e r =>
      rcases hz _ _ e with h | ⟨o, _, _, h⟩
      · exact ⟨_, _, rfl, .inl h, r⟩
      · exact ⟨_, _, rfl, .inr ⟨o, h⟩, r⟩
  · rcases h with ⟨_, _, e, _⟩ | ⟨kvs, ks', vs', e, h, r⟩
    · cases e
    · cases e; exact ⟨a, kvs, rfl, .inl h, r⟩
theorem prepL_1 {vs : List PV} (h : PRepL K Z H [u] vs) : ∃ p, vs = [p] ∧ PRep K Z H u p := by
  cases h with
  | cons a b => cases b; exact ⟨_, rfl, a⟩
theorem prepL_2 {x y : V} {vs : List PV} (h : PRepL K Z H [x, y] vs) : ∃ p q, vs = [p, q] ∧ PRep K Z H x p ∧ PRep K Z H y q := by
  cases h with
  | cons a b => cases b with
    | cons b c => cases c; exact ⟨_, _, rfl, a, b⟩
theorem prepL_3 {x y z : V} {vs : List PV} (h : PRepL K Z H [x, y, z] vs) : ∃ p q r, vs = [p, q, r] ∧ PRep K Z H x p ∧ PRep K Z H y q ∧ PRep K Z H z r := by
  cases h with
  | cons a b => cases b with
    | cons b c => cases c with
      | cons c d => cases d; exact ⟨_, _, _, rfl, a, b, c⟩
end

/-- what an operation gives back: a new list or dict of its own, or a datum that stays -/
def OpVal (K : PySem.W.Frag) (H Z' H' : Hp) (o : Op) (u : V) (v : PV) : Prop :=
  if (o.makes && v.isCont) = true then ∃ a, u = .ref a ∧ OwnRep K Z' H' a v ∧ H a = none else Rep K Z' u v
/-- the heap grows -/
structure Grow (Z H Z' H' : Hp) : Prop where
  z : ZLe Z Z'
  h : ZLe H H'
  n : ∀ a, Z a = none → H a ≠ none → Z' a = none
  k : ZOk Z' H'
/-- an operation, by data -/
def rDat (K : PySem.W.Frag) (o : Op) (us : List V) (H : Hp) (Q : VK) : Prop := ∃ Z vs v, ZOk Z H ∧ PRepL K Z H us vs ∧ opDen o vs = some v ∧ ∀ Z' H' u, Grow Z H Z' H' → OpVal K H Z' H' o u v → Q u H'
section
variable {K : PySem.W.Frag} {Z H : Hp} {o : Op} {v : PV} {Q : VK}
theorem Grow.refl (hz : ZOk Z H) : Grow Z H Z H := ⟨.refl, .refl, fun _ e _ => e, hz⟩
theorem upd_le {a : Addr} {x : HO} (hn : H a = none) : ZLe H (upd H a x) := fun b u e => by rw [upd_ne (ne_of_none e hn)]; exact e
theorem zok_none (hz : ZOk Z H) {a : Addr} (hn : H a = none) : Z a = none := by
  cases e : Z a with
  | none => rfl
  | some u =>
    rcases hz _ _ e with h | ⟨_, _, _, h⟩ <;> (rw [hn] at h; cases h)
theorem zok_upd (hz : ZOk Z H) {a : Addr} {x : HO} (hn : H a = none) : ZOk Z (upd H a x) := fun b u e => by
  have hb : b ≠ a := fun z => by subst z; rw [zok_none hz hn] at e; cases e
  rw [upd_ne hb]
  exact hz b u e
theorem zok_upd2 (hz : ZOk Z H) {a : Addr} {x : HO} (hn : H a = none) : ZOk (upd Z a x) (upd H a x) := fun b u e => by
  by_cases hb : b = a
  · subst hb; rw [upd_same] at e ⊢; exact .inl e
  · rw [upd_ne hb] at e ⊢; exact hz b u e
/-- a datum that stays -/
theorem fin_rep {u : V} (hz : ZOk Z H) (q : ∀ Z' H' u, Grow Z H Z' H' → OpVal K H Z' H' o u v → Q u H') (r : Rep K Z u v) (c : (o.makes && v.isCont) = false) : Q u H := by
  refine q Z H u (.refl hz) ?_
  unfold OpVal
  rw [c]
  exact r
/-- a new list -/
theorem fin_lst {ps : List PV} {xs : List V} {a : Addr} (hz : ZOk Z H) (q : ∀ Z' H' u, Grow Z H Z' H' → OpVal K H Z' H' o u (.lst ps) → Q u H') (r : RepL K Z xs ps) (m : o.makes = true) (hn : H a = none) : Q (.ref a) (upd H a (.lst xs)) := by
  refine q Z _ _ ⟨.refl, upd_le hn, fun _ e _ => e, zok_upd hz hn⟩ ?_
  unfold OpVal
  rw [m]
  exact ⟨a, rfl, ⟨zok_none hz hn, .inl ⟨xs, ps, rfl, upd_same, r⟩⟩, hn⟩
/-- a new dict -/
theorem fin_dic {ks vs : List PV} {kvs : List (Key × V)} {a : Addr} (hz : ZOk Z H) (q : ∀ Z' H' u, Grow Z H Z' H' → OpVal K H Z' H' o u (.dic ks vs) → Q u H') (r : RepD K Z kvs ks vs) (m : o.makes = true) (hn : H a = none) : Q (.ref a) (upd H a (.dK kvs)) := by
  refine q Z _ _ ⟨.refl, upd_le hn, fun _ e _ => e, zok_upd hz hn⟩ ?_
  unfold OpVal
  rw [m]
  exact ⟨a, rfl, ⟨zok_none hz hn, .inr ⟨kvs, ks, vs, rfl, upd_same, r⟩⟩, hn⟩
/-- a new tuple -/
theorem fin_tup {ps : List PV} {xs : List V} {a : Addr} {ob : Obj} (hz : ZOk Z H) (q : ∀ Z' H' u, Grow Z H Z' H' → OpVal K H Z' H' o u (.tup ps) → Q u H') (r : RepL K Z xs ps) (hn : H a = none) (hd : ob.dict = none) : Q (.ref a) (upd H a (.frz ob (.tup xs))) := by
  have hza := zok_none hz hn
  refine q (upd Z a (.frz ob (.tup xs))) _ _ ⟨upd_le hza, upd_le hn, fun b e k => ?_, zok_upd2 hz hn⟩ ?_
  · have hb : b ≠ a := fun z => by subst z; exact k hn
    rw [upd_ne hb]; exact e
  · unfold OpVal
    rw [show (o.makes && (PV.tup ps).isCont) = false by simp [PV.isCont]]
    exact .tup (.inl ⟨ob, upd_same, hd⟩) (r.mono (upd_le hza))
end
/-- the object of a new tuple -/
abbrev tupOb (its : List Value) : Obj := { cls := .type "tuple", data := .seq its.toArray }
section
variable {X : Cx} {pins : List (Addr × Obj)} {σ : St} {H : Hp} {s : Shared}
theorem inv_tup {xs : List V} {its : List Value} {tk : Tok} (I : L2.Inv X pins σ H s) (hz : xs.length ≤ sizeLine) (r : Vals xs its) :
    L2.Inv X pins σ (upd H s.heap.objs.size (.frz (tupOb its) (.tup xs))) { s with heap := s.heap.push (tupOb its), toks := tk } :=
  I.laid (t' := tk) (fun b u e => Heap.get?_push_of_some _ e) (Nat.le_refl _) ⟨Heap.get?_push_size _ rfl, hz, its, r, ⟨_, Heap.get?_push_size _ rfl, rfl, _, rfl⟩⟩
theorem inv_fresh (I : L2.Inv X pins σ H s) : H s.heap.objs.size = none := I.hok.fresh (Nat.le_refl _)
end
theorem asT_len (x : List Nat) : (asT x).length = x.length := by simp [asT, Str.length]
theorem asT_app (x y : List Nat) : asT x ++ asT y = asT (x ++ y) := by
  show (⟨x.toArray ++ y.toArray⟩ : Str) = ⟨(x ++ y).toArray⟩
  congr 1
  simp
theorem asT_inj {x y : List Nat} : asT x = asT y ↔ x = y := by
  constructor
  · intro h
    have := congrArg (fun z : Str => z.cps.toList) h
    simpa [asT] using this
  · rintro rfl; rfl
theorem RepL.rep {K : PySem.W.Frag} {Z : Hp} {vs : List V} {ps : List PV} (r : RepL K Z vs ps) : ∀ n : Nat, RepL K Z (List.replicate n vs).flatten (rep ps n)
  | 0 => .nil
  | n + 1 => by
    unfold Tl.rep
    rw [List.replicate_succ, List.replicate_succ, List.flatten_cons, List.flatten_cons]
    exact r.append (RepL.rep r n)
theorem foldl_rep (xs : List Nat) : ∀ (n : Nat) (acc : List Nat), List.foldl (fun x1 x2 => x1 ++ x2) acc.toArray (List.replicate n xs.toArray) = (acc ++ (List.replicate n xs).flatten).toArray
  | 0, acc => by simp
  | n + 1, acc => by
    rw [List.replicate_succ, List.foldl_cons, List.replicate_succ, List.flatten_cons]
    have e : acc.toArray ++ xs.toArray = (acc ++ xs).toArray := by simp
    rw [e, foldl_rep xs n]
    simp
theorem Asc.rep {x : List Nat} (h : Asc x) (n : Nat) : Asc (rep x n) := fun c hc => by
  unfold Tl.rep at hc
  obtain ⟨l, h1, h2⟩ := List.mem_flatten.mp hc
  rw [(List.mem_replicate.mp h1).2] at h2
  exact h c h2
theorem Asc.app {x y : List Nat} (h : Asc x) (k : Asc y) : Asc (x ++ y) := fun c hc => (List.mem_append.mp hc).elim (h c) (k c)
theorem big_eq : big = sizeLine := by rw [sizeLine_eq]; rfl

theorem vals_rep {xs : List V} {us : List Value} (r : Vals xs us) : ∀ n : Nat, Vals (List.replicate n xs).flatten (List.replicate n us).flatten
  | 0 => .nil
  | n + 1 => by
    rw [List.replicate_succ, List.replicate_succ, List.flatten_cons, List.flatten_cons]
    exact r.append (vals_rep r n)
theorem rep_tup {prog : Program} {w : World} {A : Around} {E : Value → Shared → Prop} {s : Shared} {l : Addr} {its : List Value} {k : Int} {t : Tok} {Q : Value → Shared → Prop} (hT : PyProof.Rows.IsTup s.heap l its.toArray) (h0 : its ≠ []) (h1 : 2 ≤ k) (h2 : k ≤ 1000) (h3 : its.length ≤ 1000)
    (h : Q (.ref s.heap.objs.size) { s with heap := s.heap.push (tupOb (List.replicate k.toNat its).flatten) }) : wpAny (model prog w) A (binaryOp .Mult (.ref l) (.int k t)) Q E s := by
  obtain ⟨⟨c, dd, dt, sl⟩, ho, hc, n, hd⟩ := hT
  simp only at hc hd
  subst hc hd
  have hb : ((its.toArray.size : Nat) : Int) * k ≤ 1000000 := by
    have := Int.mul_le_mul_of_nonneg_right (show ((its.toArray.size : Nat) : Int) ≤ 1000 by simp; omega) (show (0 : Int) ≤ k by omega)
    omega
  have hfl : (List.replicate k.toNat its).flatten.length ≤ sizeLine := by
    rw [PyProof.Rows.lm_len_rep_flat, sizeLine_eq]
    have := Nat.mul_le_mul (show k.toNat ≤ 1000 by omega) h3
    omega
  have he : List.foldl (fun x1 x2 => x1 ++ x2) #[] (List.replicate k.toNat its.toArray) = (List.replicate k.toNat its).flatten.toArray := size_rep its k.toNat
  have hi : its.toArray.isEmpty = false := by cases its <;> simp_all
  refine wpAny_binaryOp_repeat_ref (T := "tuple") (U := "int") (by decide) ⟨_, ho, rfl⟩ (fun s' => typeIs_int s' k t) noFill_tuple_mul F.fills_int_mul F.slot_int_rmul repeat_tuple F.slot_int_index.lookup
    (call_meets F.slot_int_rmul (typeIs_int s k t) F.entry_int_rmul (F.args_int_rmul_2 _ _) (int_rmul_tuple k t l its.toArray n dd sl)
      ⟨ho, rfl, ⟨_, ho, rfl⟩, call_meets F.slot_tuple_mul ⟨_, ho, rfl⟩ F.entry_tuple_mul (F.args_tuple_mul_2 _ _)
        (tuple_mulW l its.toArray n dd sl k t (by rw [decide_eq_false (by omega), decide_eq_false (by omega)]; rfl) (by rw [hi]; simp; omega) (by rw [hi, decide_eq_false (by omega)]; rfl) (by omega) ?_ (by rw [he]; simpa using hfl)) ⟨ho, ?_⟩⟩)
  · unfold Builtin.Tuple.tupleTooMany
    rw [decide_eq_false (by rw [sizeLine_eq]; omega)]
  · rw [he]; exact h
section
variable {X : Cx}
abbrev rDat2 (K : PySem.W.Frag) (o : Op) : R2 := fun x y H Q => rDat K o [x, y] H Q
/-! ### + - * // % -/
theorem u_add : OpR X (binaryOp .Add) (rDat2 X.K .add) := by
  intro pins s σ H x y v u Q I rx ry ⟨Z, vs, w, hz, hp, hd, q⟩
  obtain ⟨p, p', rfl, h1, h2⟩ := prepL_2 hp
  change dAdd [p, p'] = some w at hd
  unfold dAdd at hd
  split at hd
  · rename_i i j e
    cases e; cases hd
    cases prep_int h1; cases prep_int h2
    exact op_add pins s σ H _ _ v u Q I rx ry ⟨_, _, rfl, rfl, fin_rep hz q (.int _) rfl⟩
  · rename_i i j e
    cases e
    obtain ⟨rfl, a1⟩ := prep_str h1
    obtain ⟨rfl, a2⟩ := prep_str h2
    split at hd <;> cases hd
    rename_i hl
    refine op_add_str pins s σ H _ _ v u Q I rx ry ⟨_, _, rfl, rfl, by rw [asT_len, asT_len, ← big_eq]; exact hl, ?_⟩
    rw [asT_app]
    exact fin_rep hz q (.str _ (a1.app a2)) rfl
  · rename_i i j e
    cases e
    obtain ⟨a, xs, rfl, ha, r1⟩ := prep_tup h1
    obtain ⟨b, ys, rfl, hb, r2⟩ := prep_tup h2
    split at hd <;> cases hd
    rename_i hl
    cases rx; cases ry
    obtain ⟨i1, v1, t1, _⟩ := I.tuple (sqt_zok ha.sq hz)
    obtain ⟨i2, v2, t2, _⟩ := I.tuple (sqt_zok hb.sq hz)
    by_cases e : xs = []
    · subst e
      cases r1; cases v1
      exact cat_tup0 t1 t2 ⟨.ref b, H, I, rfl, fin_rep hz q (.tup hb r2) rfl⟩
    · have l1 := v1.length
      have l2 := v2.length
      have hb2 : xs.length + ys.length ≤ sizeLine := by rw [r1.length, r2.length, ← big_eq]; exact hl
      refine HT.cat_tup t1 t2 (fun z => e (v1.nil_iff.mp z)) (fun z => ?_) (fun z => ?_) (by omega)
      · have e2 := v2.nil_iff.mp z
        subst e2
        cases r2
        rw [List.append_nil] at q
        exact ⟨.ref a, H, I, rfl, fin_rep hz q (.tup ha r1) rfl⟩
      · exact ⟨.ref _, _, inv_tup (tk := s.toks) I (by rw [List.length_append]; exact hb2) (v1.append v2), rfl, fin_tup hz q (r1.append r2) (inv_fresh I) rfl⟩
  · rename_i i j e
    cases e
    obtain ⟨a, xs, rfl, ha, r1⟩ := prep_lst hz h1
    obtain ⟨b, ys, rfl, hb, r2⟩ := prep_lst hz h2
    split at hd <;> cases hd
    rename_i hl
    exact op_cat pins s σ H _ _ v u Q I rx ry ⟨_, _, _, _, rfl, rfl, ha, hb, by rw [r1.length, r2.length, ← big_eq]; exact hl, fun t ht => fin_lst hz q (r1.append r2) rfl ht⟩
  · cases hd
theorem u_sub : OpR X (binaryOp .Sub) (rDat2 X.K .sub) := by
  intro pins s σ H x y v u Q I rx ry ⟨Z, vs, w, hz, hp, hd, q⟩
  obtain ⟨p, p', rfl, h1, h2⟩ := prepL_2 hp
  change dSub [p, p'] = some w at hd
  unfold dSub at hd
  split at hd
  · rename_i i j e
    cases e; cases hd
    cases prep_int h1; cases prep_int h2
    exact op_sub pins s σ H _ _ v u Q I rx ry ⟨_, _, rfl, rfl, fin_rep hz q (.int _) rfl⟩
  · cases hd
theorem u_mul : OpR X (binaryOp .Mult) (rDat2 X.K .mul) := by
  intro pins s σ H x y v u Q I rx ry ⟨Z, vs, w, hz, hp, hd, q⟩
  obtain ⟨p, p', rfl, h1, h2⟩ := prepL_2 hp
  change dMul [p, p'] = some w at hd
  unfold dMul at hd
  split at hd
  · rename_i i j e
    cases e
    split at hd <;> cases hd
    rename_i hc
    cases prep_int h1; cases prep_int h2
    have hc' : CMul i j := by
      unfold okMul at hc
      simp only [Bool.or_eq_true, Bool.and_eq_true, decide_eq_true_eq] at hc
      unfold CMul
      omega
    exact op_mul pins s σ H _ _ v u Q I rx ry ⟨_, _, rfl, rfl, hc', fin_rep hz q (.int _) rfl⟩
  · rename_i i j e
    cases e
    obtain ⟨a, xs, rfl, ha, r1⟩ := prep_tup h1
    cases prep_int h2
    split at hd <;> cases hd
    rename_i hl
    obtain ⟨l0, l1, l2, l3⟩ := hl
    have hne : xs ≠ [] := fun e => by subst e; cases r1; simp at l0
    cases rx
    obtain ⟨t, rfl⟩ := ry
    obtain ⟨its, rv, ht, hs⟩ := I.tuple (sqt_zok ha.sq hz)
    have hl := rv.length
    have hl2 := r1.length
    refine rep_tup ht (fun z => hne (rv.nil_iff.mp z)) l1 l2 (by omega) ?_
    have hf : (List.replicate j.toNat xs).flatten.length ≤ sizeLine := by
      rw [PyProof.Rows.lm_len_rep_flat, sizeLine_eq]
      have := Nat.mul_le_mul (show j.toNat ≤ 1000 by omega) (show xs.length ≤ 1000 by omega)
      omega
    exact ⟨.ref _, _, inv_tup (tk := s.toks) I hf (vals_rep rv _), rfl, fin_tup hz q (RepL.rep r1 _) (inv_fresh I) rfl⟩
  · rename_i i j e
    cases e
    obtain ⟨a, xs, rfl, ha, r1⟩ := prep_lst hz h1
    cases prep_int h2
    split at hd <;> cases hd
    rename_i hl
    obtain ⟨l0, l1, l2⟩ := hl
    refine op_rep pins s σ H _ _ v u Q I rx ry ⟨_, _, _, rfl, rfl, ha, by omega, by omega, ?_, fun t ht => fin_lst hz q (RepL.rep r1 _) rfl ht⟩
    rw [r1.length, sizeLine_eq]
    have : i.length * j.toNat ≤ 1000 * 100 := Nat.mul_le_mul l2 (by omega)
    omega
  · rename_i i j e
    cases e
    obtain ⟨rfl, a1⟩ := prep_str h1
    cases prep_int h2
    split at hd <;> cases hd
    rename_i hl
    obtain ⟨l0, l1, l2, l3⟩ := hl
    obtain ⟨t, rfl⟩ := rx
    obtain ⟨t', rfl⟩ := ry
    have e1 : (asT i).length = i.length := asT_len i
    have hmul : i.length * j.toNat ≤ 1000 * 100 := Nat.mul_le_mul l3 (by omega)
    have hz0 : i.length ≠ 0 := by cases i <;> simp_all
    refine SB.mul ⟨?_, fun _ _ => ?_, fun _ _ => ?_⟩ fun t2 k => ?_
    · simp; omega
    · rw [e1]
      have : (9007199254740992 : Int) ≤ (2 ^ 63 - 1) / j := by
        refine (Int.le_ediv_iff_mul_le (by omega)).mpr ?_
        omega
      omega
    · rw [e1]
      show decide (i.length * j.toNat > sizeLine) = false
      rw [sizeLine_eq]
      exact decide_eq_false (by omega)
    · have ev : Txt.mul (asT i) j = asT (rep i j.toNat) := by
        unfold Txt.mul
        rw [if_neg (by omega), if_neg (by rw [e1]; simp only [Bool.or_eq_true, beq_iff_eq]; omega)]
        show (⟨_⟩ : Str) = ⟨_⟩
        congr 1
        have := foldl_rep i j.toNat []
        rw [List.nil_append] at this
        exact this
      rw [ev]
      exact ⟨.str (asT (rep i j.toNat)), H, I.tok _, ⟨t2, rfl⟩, fin_rep hz q (.str _ (Asc.rep a1 _)) rfl⟩
  · cases hd
theorem u_fdiv : OpR X (binaryOp .FloorDiv) (rDat2 X.K .fdiv) := by
  intro pins s σ H x y v u Q I rx ry ⟨Z, vs, w, hz, hp, hd, q⟩
  obtain ⟨p, p', rfl, h1, h2⟩ := prepL_2 hp
  change dFdiv [p, p'] = some w at hd
  unfold dFdiv at hd
  split at hd
  · rename_i i j e
    cases e
    split at hd <;> cases hd
    rename_i hc
    cases prep_int h1; cases prep_int h2
    exact op_fdiv pins s σ H _ _ v u Q I rx ry ⟨_, _, rfl, rfl, hc, fin_rep hz q (.int _) rfl⟩
  · cases hd
theorem u_mod : OpR X (binaryOp .Mod) (rDat2 X.K .mod) := by
  intro pins s σ H x y v u Q I rx ry ⟨Z, vs, w, hz, hp, hd, q⟩
  obtain ⟨p, p', rfl, h1, h2⟩ := prepL_2 hp
  change dMod [p, p'] = some w at hd
  unfold dMod at hd
  split at hd
  · rename_i i j e
    cases e
    split at hd <;> cases hd
    rename_i hc
    cases prep_int h1; cases prep_int h2
    exact op_mod pins s σ H _ _ v u Q I rx ry ⟨_, _, rfl, rfl, hc, fin_rep hz q (.int _) rfl⟩
  · cases hd
abbrev rDat1 (K : PySem.W.Frag) (o : Op) : V → Hp → VK → Prop := fun x H Q => rDat K o [x] H Q
theorem u_neg : UnR X (unaryOp .USub) (rDat1 X.K .neg) := by
  intro pins s σ H x v Q I rx ⟨Z, vs, w, hz, hp, hd, q⟩
  obtain ⟨p, rfl, h1⟩ := prepL_1 hp
  change dNeg [p] = some w at hd
  unfold dNeg at hd
  split at hd
  · rename_i i e
    cases e; cases hd
    cases prep_int h1
    exact un_neg pins s σ H _ v Q I rx ⟨_, rfl, fin_rep hz q (.int _) rfl⟩
  · cases hd
end
end Tl
end
section
set_option linter.all false
set_option maxRecDepth 100000
namespace Tl
open PySem PySem.Spec L2
/-! ### == -/
mutual
def toD : PV → PyData
  | .non => .none
  | .bl b => .bool b
  | .int i => .int i
  | .str x => .str (asT x)
  | .tup xs => .tuple (toDL xs)
  | .lst xs => .list (toDL xs)
  | .scr _ => .none
  | .dic _ _ => .none
def toDL : List PV → List PyData
  | [] => []
  | x :: xs => toD x :: toDL xs
end
mutual
theorem eqv_toD : ∀ a b : PV, a.flat = true → b.flat = true → PyData.eqv (toD a) (toD b) = a.eq b
  | .non, b, _, hb => by cases b <;> first | rfl | cases hb
  | .bl x, b, _, hb => by cases b <;> first | rfl | cases hb
  | .int x, b, _, hb => by cases b <;> first | rfl | cases hb
  | .str x, b, _, hb => by
    cases b <;> first | rfl | cases hb | skip
    rename_i y
    show (asT x == asT y) = (x == y)
    by_cases h : x = y
    · subst h; simp
    · have h2 : asT x ≠ asT y := fun z => h (asT_inj.mp z)
      rw [beq_eq_false_iff_ne.mpr h, beq_eq_false_iff_ne.mpr h2]
  | .tup xs, b, ha, hb => by
    cases b <;> first | rfl | cases hb | skip
    exact eqvL_toD xs _ (by simpa [PV.flat] using ha) (by simpa [PV.flat] using hb)
  | .lst xs, b, ha, hb => by
    cases b <;> first | rfl | cases hb | skip
    exact eqvL_toD xs _ (by simpa [PV.flat] using ha) (by simpa [PV.flat] using hb)
theorem eqvL_toD : ∀ a b : List PV, PV.flatL a = true → PV.flatL b = true → PyData.eqvAll (toDL a) (toDL b) = PV.eqL a b
  | [], [], _, _ => rfl
  | [], _ :: _, _, _ => rfl
  | _ :: _, [], _, _ => rfl
  | x :: xs, y :: ys, ha, hb => by
    simp only [PV.flatL, Bool.and_eq_true] at ha hb
    show (PyData.eqv (toD x) (toD y) && PyData.eqvAll (toDL xs) (toDL ys)) = (PV.eq x y && PV.eqL xs ys)
    rw [eqv_toD x y ha.1 hb.1, eqvL_toD xs ys ha.2 hb.2]
end
mutual
theorem dep_toD : ∀ a : PV, (toD a).depth = a.dep
  | .non => rfl
  | .bl _ => rfl
  | .int _ => rfl
  | .str _ => rfl
  | .tup xs => by
    show PyData.depthAll (toDL xs) + 1 = PV.depL xs + 1
    rw [depL_toD xs]
  | .lst xs => by
    show PyData.depthAll (toDL xs) + 1 = PV.depL xs + 1
    rw [depL_toD xs]
  | .scr _ => rfl
  | .dic _ _ => rfl
theorem depL_toD : ∀ a : List PV, PyData.depthAll (toDL a) = PV.depL a
  | [] => rfl
  | x :: xs => by
    show max (PyData.depth (toD x)) (PyData.depthAll (toDL xs)) = max (PV.dep x) (PV.depL xs)
    rw [dep_toD x, depL_toD xs]
end
section
variable {K : PySem.W.Frag} {Z H : Hp}
theorem asc_ok {x : List Nat} (h : Asc x) : PyData.strOk (asT x) = true := by
  show (x.toArray).all (· < 0x110000) = true
  simp only [List.all_toArray, List.all_eq_true, decide_eq_true_eq]
  intro c hc
  have := h c hc
  omega
mutual
theorem rep_lay : ∀ {p : PV} {u : V}, Rep K Z u p → (toD p).canLay0 = true
  | .non, _, _ => rfl
  | .bl _, _, _ => rfl
  | .int _, _, _ => rfl
  | .str _, _, .str _ a => asc_ok a
  | .tup _, _, .tup _ r => repL_lay r
  | .lst _, _, .lst _ r => repL_lay r
  | .scr _, _, _ => rfl
  | .dic _ _, _, _ => rfl
theorem repL_lay : ∀ {ps : List PV} {us : List V}, RepL K Z us ps → PyData.canLayAll0 (toDL ps) = true
  | [], _, _ => rfl
  | _ :: _, _, .cons r s => by
    show (_ && _) = true
    rw [rep_lay r, repL_lay s]; rfl
end
mutual
theorem rep_dp (hz : ZOk Z H) : ∀ {p : PV} {u : V}, Rep K Z u p → p.flat = true → Dp K H u (toD p)
  | .non, _, .non, _ => .non
  | .bl _, _, .bl _, _ => .bl _
  | .int _, _, .int _, _ => .int _
  | .str _, _, .str _ _, _ => .str _
  | .tup _, _, .tup s r, h => .tup (sqt_zok s.sq hz) (repL_dp hz r (by simpa [PV.flat] using h))
  | .lst _, _, .lst s r, h => .lst (.inl (.inl (zok_lst hz s))) (repL_dp hz r (by simpa [PV.flat] using h))
  | .scr _, _, _, h => by cases h
  | .dic _ _, _, _, h => by cases h
theorem repL_dp (hz : ZOk Z H) : ∀ {ps : List PV} {us : List V}, RepL K Z us ps → PV.flatL ps = true → DpAll K H us (toDL ps)
  | [], _, .nil, _ => .nil
  | _ :: _, _, .cons r s, h => by
    simp only [PV.flatL, Bool.and_eq_true] at h
    exact .cons (rep_dp hz r h.1) (repL_dp hz s h.2)
end
theorem prep_dp (hz : ZOk Z H) {p : PV} {u : V} (h : PRep K Z H u p) (f : p.flat = true) : Dp K H u (toD p) ∧ (toD p).canLay0 = true := by
  rcases h with h | ⟨a, rfl, _, h⟩
  · exact ⟨rep_dp hz h f, rep_lay h⟩
  · rcases h with ⟨xs, ps, rfl, e, r⟩ | ⟨_, _, _, rfl, _⟩
    · exact ⟨.lst (.inl (.inl e)) (repL_dp hz r (by simpa [PV.flat] using f)), repL_lay r⟩
    · cases f
theorem cmpb_of {a b : PV} (h : a.cmpb b = true) : a.flat = true ∧ b.flat = true ∧ min a.dep b.dep ≤ 100 := by
  unfold PV.cmpb at h
  simp only [Bool.and_eq_true, decide_eq_true_eq] at h
  exact ⟨h.1.1, h.1.2, h.2⟩
end
section
variable {X : Cx}
theorem u_eq (hu : X.A.units + 200 < cLine) : OpR X (compareOp .Eq) (rDat2 X.K .eq) := by
  intro pins s σ H x y v u Q I rx ry ⟨Z, vs, w, hz, hp, hd, q⟩
  obtain ⟨p, p', rfl, h1, h2⟩ := prepL_2 hp
  change dEq [p, p'] = some w at hd
  unfold dEq at hd
  simp only at hd
  split at hd <;> cases hd
  rename_i hc
  obtain ⟨f1, f2, hm⟩ := cmpb_of hc
  obtain ⟨d1, l1⟩ := prep_dp hz h1 f1
  obtain ⟨d2, l2⟩ := prep_dp hz h2 f2
  obtain ⟨as, r1⟩ := Dp.reads I _ _ _ d1 rx
  obtain ⟨bs, r2⟩ := Dp.reads I _ _ _ d2 ry
  refine SeqAt.compareEq_reads r1 r2 l1 l2 (by rw [dep_toD, dep_toD]; omega) ?_
  rw [eqv_toD _ _ f1 f2]
  exact ⟨.bl _, H, I, rfl, fin_rep hz q (.bl _) rfl⟩
theorem u_ne (hu : X.A.units + 200 < cLine) : OpR X (compareOp .NotEq) (rDat2 X.K .ne) := by
  intro pins s σ H x y v u Q I rx ry ⟨Z, vs, w, hz, hp, hd, q⟩
  obtain ⟨p, p', rfl, h1, h2⟩ := prepL_2 hp
  change dNe [p, p'] = some w at hd
  unfold dNe at hd
  simp only at hd
  split at hd <;> cases hd
  rename_i hc
  obtain ⟨f1, f2, hm⟩ := cmpb_of hc
  obtain ⟨d1, l1⟩ := prep_dp hz h1 f1
  obtain ⟨d2, l2⟩ := prep_dp hz h2 f2
  obtain ⟨as, r1⟩ := Dp.reads I _ _ _ d1 rx
  obtain ⟨bs, r2⟩ := Dp.reads I _ _ _ d2 ry
  refine SeqAt.compareNe_reads r1 r2 l1 l2 (by rw [dep_toD, dep_toD]; omega) ?_
  rw [eqv_toD _ _ f1 f2]
  exact ⟨.bl _, H, I, rfl, fin_rep hz q (.bl _) rfl⟩
/-! ### < and its like, is -/
theorem tlt_eq : ∀ x y : List Nat, tlt x y = decide (x < y)
  | [], [] => by simp [tlt]
  | [], _ :: _ => by simp [tlt]
  | _ :: _, [] => by simp [tlt]
  | a :: x, b :: y => by
    unfold tlt
    rw [tlt_eq x y]
    by_cases h : a < b
    · rw [if_pos h]; simp [List.cons_lt_cons_iff, h]
    · rw [if_neg h]
      by_cases e : a = b
      · rw [if_pos e]; subst e; simp [List.cons_lt_cons_iff]
      · rw [if_neg e]; simp [List.cons_lt_cons_iff, h, e]
theorem u_lt : OpR X (compareOp .Lt) (rDat2 X.K .lt) := by
  intro pins s σ H x y v u Q I rx ry ⟨Z, vs, w, hz, hp, hd, q⟩
  obtain ⟨p, p', rfl, h1, h2⟩ := prepL_2 hp
  change dLt [p, p'] = some w at hd
  unfold dLt at hd
  split at hd
  · rename_i i j e
    cases e; cases hd
    cases prep_int h1; cases prep_int h2
    exact op_lt pins s σ H _ _ v u Q I rx ry ⟨_, _, rfl, rfl, fin_rep hz q (.bl _) rfl⟩
  · rename_i i j e
    cases e; cases hd
    obtain ⟨rfl, a1⟩ := prep_str h1
    obtain ⟨rfl, a2⟩ := prep_str h2
    refine op_lt_str pins s σ H _ _ v u Q I rx ry ⟨_, _, rfl, rfl, ?_⟩
    rw [tlt_eq] at q
    exact fin_rep hz q (.bl _) rfl
  · cases hd
theorem u_le : OpR X (compareOp .LtE) (rDat2 X.K .le) := by
  intro pins s σ H x y v u Q I rx ry ⟨Z, vs, w, hz, hp, hd, q⟩
  obtain ⟨p, p', rfl, h1, h2⟩ := prepL_2 hp
  change dLe [p, p'] = some w at hd
  unfold dLe at hd
  split at hd
  · rename_i i j e
    cases e; cases hd
    cases prep_int h1; cases prep_int h2
    exact op_le pins s σ H _ _ v u Q I rx ry ⟨_, _, rfl, rfl, fin_rep hz q (.bl _) rfl⟩
  · rename_i i j e
    cases e; cases hd
    obtain ⟨rfl, a1⟩ := prep_str h1
    obtain ⟨rfl, a2⟩ := prep_str h2
    obtain ⟨t, rfl⟩ := rx
    obtain ⟨t', rfl⟩ := ry
    refine P.le_str ⟨.bl _, H, I, ?_, fin_rep hz q (.bl _) rfl⟩
    rw [tlt_eq]
    rfl
  · cases hd
theorem u_gt : OpR X (compareOp .Gt) (rDat2 X.K .gt) := by
  intro pins s σ H x y v u Q I rx ry ⟨Z, vs, w, hz, hp, hd, q⟩
  obtain ⟨p, p', rfl, h1, h2⟩ := prepL_2 hp
  change dGt [p, p'] = some w at hd
  unfold dGt at hd
  split at hd
  · rename_i i j e
    cases e; cases hd
    cases prep_int h1; cases prep_int h2
    exact op_gt pins s σ H _ _ v u Q I rx ry ⟨_, _, rfl, rfl, fin_rep hz q (.bl _) rfl⟩
  · cases hd
theorem u_ge : OpR X (compareOp .GtE) (rDat2 X.K .ge) := by
  intro pins s σ H x y v u Q I rx ry ⟨Z, vs, w, hz, hp, hd, q⟩
  obtain ⟨p, p', rfl, h1, h2⟩ := prepL_2 hp
  change dGe [p, p'] = some w at hd
  unfold dGe at hd
  split at hd
  · rename_i i j e
    cases e; cases hd
    cases prep_int h1; cases prep_int h2
    exact op_ge pins s σ H _ _ v u Q I rx ry ⟨_, _, rfl, rfl, fin_rep hz q (.bl _) rfl⟩
  · cases hd
theorem prep_isN {K : PySem.W.Frag} {Z H : Hp} {u : V} {p : PV} (h : PRep K Z H u p) : decide (u = .non) = p.isNon := by
  rcases h with h | ⟨a, rfl, _, h⟩
  · cases h <;> rfl
  · rcases h with ⟨_, _, rfl, _⟩ | ⟨_, _, _, rfl, _⟩ <;> rfl
theorem u_isN : OpR X (compareOp .Is) (fun x y H Q => y = .non ∧ rDat X.K .isN [x] H Q) := by
  intro pins s σ H x y v u Q I rx ry ⟨ey, Z, vs, w, hz, hp, hd, q⟩
  obtain ⟨p, rfl, h1⟩ := prepL_1 hp
  change dIsN [p] = some w at hd
  unfold dIsN at hd
  cases hd
  refine op_isN pins s σ H _ _ v u Q I rx ry ⟨ey, ?_⟩
  rw [prep_isN h1]
  exact fin_rep hz q (.bl _) rfl
theorem u_notN : OpR X (compareOp .IsNot) (fun x y H Q => y = .non ∧ rDat X.K .notN [x] H Q) := by
  intro pins s σ H x y v u Q I rx ry ⟨ey, Z, vs, w, hz, hp, hd, q⟩
  obtain ⟨p, rfl, h1⟩ := prepL_1 hp
  change dNotN [p] = some w at hd
  unfold dNotN at hd
  cases hd
  refine op_notN pins s σ H _ _ v u Q I rx ry ⟨ey, ?_⟩
  rw [prep_isN h1]
  exact fin_rep hz q (.bl _) rfl
end
end Tl
end
section
set_option linter.all false
set_option maxRecDepth 100000
namespace Tl
open PySem PySem.Spec L2
section
variable {K : PySem.W.Frag} {Z H : Hp}
/-! ### dicts -/
theorem repD_get {x : List Nat} : ∀ {ks vs : List PV} {kvs : List (Key × V)}, RepD K Z kvs ks vs →
    (∃ p v, dget ks vs x = some p ∧ valV kvs (.inr (asT x)) = some v ∧ Rep K Z v p) ∨ (dget ks vs x = none ∧ valV kvs (.inr (asT x)) = none)
  | _, [], _, .nil => .inr ⟨by unfold dget; rfl, rfl⟩
  | _, _ :: _, _, .cons (x := y) (v := w) (p := p) a r s => by
    by_cases h : y = x
    · subst h
      refine .inl ⟨p, w, by unfold dget; rw [if_pos rfl], valV_pos rfl, r⟩
    · have hk : (Sum.inr (asT y) : Key) ≠ Sum.inr (asT x) := fun z => h (asT_inj.mp (Sum.inr.inj z))
      have e1 : ∀ (kvs : List (Key × V)), valV ((.inr (asT y), w) :: kvs) (.inr (asT x)) = valV kvs (.inr (asT x)) := fun kvs => by
        unfold valV
        rw [List.find?_cons_of_neg (by simpa using hk)]
      rw [e1]
      unfold dget
      rw [if_neg h]
      exact repD_get s
theorem repD_some {x : List Nat} {ks vs : List PV} {kvs : List (Key × V)} {p : PV} (r : RepD K Z kvs ks vs) (h : dget ks vs x = some p) : ∃ v, valV kvs (.inr (asT x)) = some v ∧ Rep K Z v p := by
  rcases repD_get (x := x) r with ⟨p', v, h1, h2, h3⟩ | ⟨h1, _⟩
  · rw [h] at h1; cases h1; exact ⟨v, h2, h3⟩
  · rw [h] at h1; cases h1
theorem repD_none {x : List Nat} {ks vs : List PV} {kvs : List (Key × V)} (r : RepD K Z kvs ks vs) (h : dget ks vs x = none) : valV kvs (.inr (asT x)) = none := by
  rcases repD_get (x := x) r with ⟨p', v, h1, h2, h3⟩ | ⟨_, h1⟩
  · rw [h] at h1; cases h1
  · exact h1
theorem repD_isSome {x : List Nat} {ks vs : List PV} {kvs : List (Key × V)} (r : RepD K Z kvs ks vs) : (valV kvs (.inr (asT x))).isSome = (dget ks vs x).isSome := by
  cases h : dget ks vs x with
  | none => rw [repD_none r h]; rfl
  | some p => obtain ⟨v, h2, _⟩ := repD_some r h; rw [h2]; rfl
theorem asT_nil : (asT []).cps.toList = [] := rfl
theorem getAt_eq {α : Type} (xs : List α) (i : Int) : getAt xs i = atI xs i := rfl
theorem repL_at {xs : List V} {ps : List PV} {i : Int} {p : PV} (r : RepL K Z xs ps) (h : getAt ps i = some p) : ∃ v, atI xs i = some v ∧ Rep K Z v p := by
  unfold getAt at h
  unfold atI
  have hl := r.length
  have e : ixN xs.length i = ixOf ps.length i := by rw [hl]; rfl
  rw [e]
  cases hj : ixOf ps.length i with
  | none => rw [hj] at h; cases h
  | some j =>
    rw [hj] at h
    obtain ⟨v, h1, h2⟩ := r.get (i := j) h
    exact ⟨v, h1, h2⟩
theorem in_any : ∀ (ps : List PV) (x : PV), PV.flatL ps = true → x.flat = true → ((toDL ps).any fun y => PyData.eqv y (toD x)) = ps.any fun y => y.eq x
  | [], _, _, _ => rfl
  | p :: ps, x, h, hx => by
    simp only [PV.flatL, Bool.and_eq_true] at h
    show (PyData.eqv (toD p) (toD x) || (toDL ps).any _) = (p.eq x || ps.any _)
    rw [eqv_toD p x h.1 hx, in_any ps x h.2 hx]
end
section
variable {X : Cx}
/-! ### in, not in -/
theorem opIn_ok {pins : List (Addr × Obj)} {σ : St} {H : Hp} {s : Shared} {Z : Hp} {x c : V} {p q : PV} {v u : Value} {b : Bool} (hu : X.A.units + 300 < cLine) (I : L2.Inv X pins σ H s) (hz : ZOk Z H) (rx : RelV x v) (rc : RelV c u)
    (h1 : PRep X.K Z H x p) (h2 : PRep X.K Z H c q) (h : opIn p q = some b) {Q : Value → Shared → Prop} {E : Value → Shared → Prop} (hQ : ∀ s', L2.Inv X pins σ H s' → Q (.bool b) s') (hQ' : ∀ s', L2.Inv X pins σ H s' → Q' (.bool (!b)) s') :
    wpAny (model X.prog X.w) X.A (compareOp .In v u) Q E s ∧ wpAny (model X.prog X.w) X.A (compareOp .NotIn v u) Q' E s := by
  unfold opIn at h
  split at h
  · -- a list
    rename_i ys
    split at h <;> cases h
    rename_i hc
    obtain ⟨f1, f2, hm⟩ := cmpb_of hc
    obtain ⟨d1, l1⟩ := prep_dp hz h1 f1
    obtain ⟨d2, l2⟩ := prep_dp hz h2 f2
    obtain ⟨as, r1⟩ := Dp.reads I _ _ _ d1 rx
    obtain ⟨bs, r2⟩ := Dp.reads I _ _ _ d2 rc
    have hd : min (PyData.depthAll (toDL ys)) (toD p).depth ≤ 101 := by
      rw [dep_toD, depL_toD]
      have : (PV.lst ys).dep = PV.depL ys + 1 := rfl
      omega
    have e := in_any ys p (by simpa [PV.flat] using f2) f1
    exact ⟨SeqAt.in_list_reads r2 r1 l2 l1 (by omega) (by rw [e]; exact hQ s I), SeqAt.notIn_list_reads r2 r1 l2 l1 (by omega) (by rw [e]; exact hQ' s I)⟩
  · rename_i ys
    split at h <;> cases h
    rename_i hc
    obtain ⟨f1, f2, hm⟩ := cmpb_of hc
    obtain ⟨d1, l1⟩ := prep_dp hz h1 f1
    obtain ⟨d2, l2⟩ := prep_dp hz h2 f2
    obtain ⟨as, r1⟩ := Dp.reads I _ _ _ d1 rx
    obtain ⟨bs, r2⟩ := Dp.reads I _ _ _ d2 rc
    have hd : min (PyData.depthAll (toDL ys)) (toD p).depth ≤ 101 := by
      rw [dep_toD, depL_toD]
      have : (PV.tup ys).dep = PV.depL ys + 1 := rfl
      omega
    have e := in_any ys p (by simpa [PV.flat] using f2) f1
    exact ⟨SeqAt.in_tuple_reads r2 r1 l2 l1 (by omega) (by rw [e]; exact hQ s I), SeqAt.notIn_tuple_reads r2 r1 l2 l1 (by omega) (by rw [e]; exact hQ' s I)⟩
  · rename_i cs
    split at h <;> cases h
    rename_i k
    obtain ⟨rfl, _⟩ := prep_str h1
    obtain ⟨rfl, _⟩ := prep_str h2
    obtain ⟨t, rfl⟩ := rx
    obtain ⟨t', rfl⟩ := rc
    have e : (!(Builtin.Str.occurrences (asT cs) (asT [k]) 0 (asT cs).length 1).isEmpty) = cs.any (· == k) := by
      rw [PySem.StrLaws.found_one]
      rw [Bool.eq_iff_iff]
      simp [List.any_eq_true]
    exact ⟨P.in_str (by rw [e]; exact hQ s I), P.notIn_str (by rw [e]; exact hQ' s I)⟩
  · rename_i ks vs
    split at h <;> cases h
    rename_i k
    obtain ⟨rfl, _⟩ := prep_str h1
    obtain ⟨a, kvs, rfl, ha, r⟩ := prep_dic hz h2
    cases rc
    have g : DGet H a (.str (asT k)) (valV kvs (.inr (asT k))) := .inl ⟨kvs, .inr (asT k), ha, rfl, rfl⟩
    have e := repD_isSome (x := k) r
    exact ⟨d_in (by omega) I g rx fun s' I' => by rw [e]; exact hQ s' I', d_notIn (by omega) I g rx fun s' I' => by rw [e]; exact hQ' s' I'⟩
  · cases h
theorem u_isin (hu : X.A.units + 300 < cLine) : OpR X (compareOp .In) (rDat2 X.K .isin) := by
  intro pins s σ H x y v u Q I rx ry ⟨Z, vs, w, hz, hp, hd, q⟩
  obtain ⟨p, p', rfl, h1, h2⟩ := prepL_2 hp
  change dIsin [p, p'] = some w at hd
  unfold dIsin at hd
  simp only at hd
  obtain ⟨b, hb, rfl⟩ := Option.map_eq_some_iff.mp hd
  exact (opIn_ok (Q' := fun _ _ => True) hu I hz rx ry h1 h2 hb (fun s' I' => ⟨.bl _, H, I', rfl, fin_rep hz q (.bl _) rfl⟩) fun _ _ => True.intro).1
theorem u_notin (hu : X.A.units + 300 < cLine) : OpR X (compareOp .NotIn) (rDat2 X.K .notin) := by
  intro pins s σ H x y v u Q I rx ry ⟨Z, vs, w, hz, hp, hd, q⟩
  obtain ⟨p, p', rfl, h1, h2⟩ := prepL_2 hp
  change dNotin [p, p'] = some w at hd
  unfold dNotin at hd
  simp only at hd
  obtain ⟨b, hb, rfl⟩ := Option.map_eq_some_iff.mp hd
  exact (opIn_ok (Q := fun _ _ => True) hu I hz rx ry h1 h2 hb (fun _ _ => True.intro) fun s' I' => ⟨.bl _, H, I', rfl, fin_rep hz q (.bl _) rfl⟩).2
/-! ### places and slices -/
theorem u_idx (hu : X.A.units + 1 < cLine) : IxR X (rDat2 X.K .idx) := by
  intro value slice pins s σ H x y v u Q I rx ry ⟨Z, vs, w, hz, hp, hd, q⟩ hs
  obtain ⟨p, p', rfl, h1, h2⟩ := prepL_2 hp
  change dIdx [p, p'] = some w at hd
  unfold dIdx at hd
  split at hd
  · rename_i xs i e
    cases e
    obtain ⟨a, us, rfl, ha, r⟩ := prep_lst hz h1
    cases prep_int h2
    obtain ⟨z, e1, e2⟩ := repL_at r hd
    exact ix_list value slice pins s σ H _ _ v u Q I rx ry ⟨_, _, _, _, rfl, rfl, .inl (.inl ha), e1, fin_rep hz q e2 rfl⟩ hs
  · rename_i xs i e
    cases e
    obtain ⟨a, us, rfl, ha, r⟩ := prep_tup h1
    cases prep_int h2
    obtain ⟨z, e1, e2⟩ := repL_at r hd
    exact ix_tup value slice pins s σ H _ _ v u Q I rx ry ⟨_, _, _, _, rfl, rfl, sqt_zok ha.sq hz, e1, fin_rep hz q e2 rfl⟩ hs
  · rename_i xs i e
    cases e
    obtain ⟨a, us, rfl, ha, r⟩ := prep_scr h1
    cases prep_int h2
    obtain ⟨z, e1, e2⟩ := repL_at r hd
    exact ix_list value slice pins s σ H _ _ v u Q I rx ry ⟨_, _, _, _, rfl, rfl, sql_zok ha hz, e1, fin_rep hz q e2 rfl⟩ hs
  · rename_i xs i e
    cases e
    obtain ⟨rfl, a1⟩ := prep_str h1
    cases prep_int h2
    split at hd
    · rename_i hl
      obtain ⟨c, hc, rfl⟩ := Option.map_eq_some_iff.mp hd
      have hm : c ∈ xs := by
        unfold getAt at hc
        cases hj : ixOf xs.length i with
        | none => rw [hj] at hc; cases hc
        | some j => rw [hj] at hc; exact List.mem_of_getElem? hc
      refine ix_str value slice pins s σ H _ _ v u Q I rx ry ⟨asT xs, i, c, rfl, rfl, by rw [asT_len, ← big_eq]; exact hl, hc, ?_⟩ hs
      exact fin_rep hz q (.str [c] (fun d hd => by rw [List.mem_singleton.mp hd]; exact a1 c hm)) rfl
    · cases hd
  · rename_i ks vs k e
    cases e
    obtain ⟨a, kvs, rfl, ha, r⟩ := prep_dic hz h1
    obtain ⟨rfl, _⟩ := prep_str h2
    obtain ⟨z, e1, e2⟩ := repD_some r hd
    have g : DGet H a (.str (asT k)) (some z) := .inl ⟨kvs, .inr (asT k), ha, rfl, e1.symm⟩
    cases rx
    exact PyProof.Rows.tail_any (dict_typeIs I g) PySem.F.slot_dict_getitem.lookup (d_getItem hu I g ry fun w' s3 I3 rw' => ⟨z, H, I3, rw', fin_rep hz q e2 rfl⟩) hs
  · cases hd
end
end Tl
end
section
set_option linter.all false
set_option maxRecDepth 100000
namespace Tl
open PySem PySem.Spec L2
/-! ### slices -/
section
variable {K : PySem.W.Frag} {Z H : Hp}
theorem cut_eq {α : Type} (xs : List V) (lo hi : Option Int) : cutV xs lo hi = cut xs lo hi := by
  cases lo <;> cases hi <;> rfl
theorem RepL.cut {xs : List V} {ps : List PV} (r : RepL K Z xs ps) (lo hi : Option Int) : RepL K Z (cutV xs lo hi) (Tl.cut ps lo hi) := by
  rw [cut_eq (α := V)]
  unfold Tl.cut
  rw [r.length]
  exact (r.drop _).take _
end
def slArgs (x : V) (lo hi : Option Int) : List V := x :: ((lo.map V.int).toList ++ (hi.map V.int).toList)
def pvArgs (p : PV) (lo hi : Option Int) : List PV := p :: ((lo.map PV.int).toList ++ (hi.map PV.int).toList)
theorem slArgs_ok {K : PySem.W.Frag} {Z H : Hp} {x : V} {lo hi : Option Int} {vs : List PV} (h : PRepL K Z H (slArgs x lo hi) vs) : ∃ p, vs = pvArgs p lo hi ∧ PRep K Z H x p := by
  cases lo <;> cases hi
  · obtain ⟨p, rfl, h1⟩ := prepL_1 h
    exact ⟨p, rfl, h1⟩
  · obtain ⟨p, q, rfl, h1, h2⟩ := prepL_2 h
    refine ⟨p, ?_, h1⟩
    rename_i i
    have e : q = .int i := by
      rcases h2 with h2 | ⟨_, z, _⟩
      · cases h2; rfl
      · cases z
    rw [e]; rfl
  · obtain ⟨p, q, rfl, h1, h2⟩ := prepL_2 h
    refine ⟨p, ?_, h1⟩
    rename_i i
    have e : q = .int i := by
      rcases h2 with h2 | ⟨_, z, _⟩
      · cases h2; rfl
      · cases z
    rw [e]; rfl
  · obtain ⟨p, q, r, rfl, h1, h2, h3⟩ := prepL_3 h
    refine ⟨p, ?_, h1⟩
    rename_i i j
    have e : q = .int i := by
      rcases h2 with h2 | ⟨_, z, _⟩
      · cases h2; rfl
      · cases z
    have e' : r = .int j := by
      rcases h3 with h3 | ⟨_, z, _⟩
      · cases h3; rfl
      · cases z
    rw [e, e']; rfl
theorem dSl_inv {p w : PV} {lo hi : Option Int} (h : dSl lo.isSome hi.isSome (pvArgs p lo hi) = some w) : (∃ xs, p = .lst xs ∧ w = .lst (cut xs lo hi)) ∨ (∃ xs, p = .tup xs ∧ w = .tup (cut xs lo hi)) := by
  cases lo <;> cases hi <;> (cases p <;> first | (cases h; done) | (cases h; exact .inl ⟨_, rfl, rfl⟩) | (cases h; exact .inr ⟨_, rfl, rfl⟩))
def rSl (K : PySem.W.Frag) (x : V) (lo hi : Option Int) (H : Hp) (Q : VK) : Prop := rDat K (.sl lo.isSome hi.isSome) (slArgs x lo hi) H Q
section
variable {X : Cx}
theorem u_sl : SlR X (rSl X.K) := by
  intro pins s σ H x v vl vu lo hi sl Q I rx hs pl pu ⟨Z, vs, w, hz, hp, hd, q⟩
  obtain ⟨p, rfl, h1⟩ := slArgs_ok hp
  rcases dSl_inv hd with ⟨xs, rfl, rfl⟩ | ⟨xs, rfl, rfl⟩
  · obtain ⟨a, us, rfl, ha, r⟩ := prep_lst hz h1
    exact sl_list pins s σ H _ v vl vu lo hi sl Q I rx hs pl pu ⟨a, us, rfl, .inl (.inl ha), fun t ht => fin_lst hz q (r.cut lo hi) rfl ht⟩
  · obtain ⟨a, us, rfl, ha, r⟩ := prep_tup h1
    cases rx
    obtain ⟨its, rv, ht, hb⟩ := I.tuple (sqt_zok ha.sq hz)
    have hn : its.toArray.size = us.length := by rw [List.size_toArray]; exact rv.length.symm
    refine ⟨"tuple", _, PyProof.Rows.slot_tuple_getitem.lookup, ht.typeIs, ?_⟩
    by_cases hw : HT.sIx us.length 0 lo = 0 ∧ HT.sIx us.length us.length hi = us.length
    · refine getItem_tuple_whole ht hs pl pu (by rw [hn]; exact hw) ?_
      have e : cut xs lo hi = xs := by
        have h4 : sAt xs.length 0 lo = 0 ∧ sAt xs.length xs.length hi = xs.length := by
          rw [← r.length]
          exact hw
        unfold cut
        rw [h4.1, h4.2]
        simp
      rw [e] at q
      exact ⟨.ref a, H, I, rfl, fin_rep hz q (.tup ha r) rfl⟩
    · refine HT.getItem_tuple_cut ht hs pl pu (by rw [hn]; exact hw) ?_ (by rw [hn]; exact hb)
      rw [hn]
      exact ⟨.ref _, _, inv_tup (tk := s.toks) I (Nat.le_trans (cutV_length us lo hi) hb) ((rv.drop _).take _), rfl, fin_tup hz q (r.cut lo hi) (inv_fresh I) rfl⟩
end
/-! ### t[::-1] -/
theorem pick_back (xs : Array Value) : ((List.range xs.size).filterMap fun (m : Nat) => xs[(((xs.size : Int) - 1) + (m : Int) * -1).toNat]?).toArray = xs.toList.reverse.toArray := by
  congr 1
  apply List.ext_getElem?
  intro i
  have key : ∀ n, n ≤ xs.size → ((List.range n).filterMap fun (m : Nat) => xs[(((xs.size : Int) - 1) + (m : Int) * -1).toNat]?) = (xs.toList.drop (xs.size - n)).reverse := by
    intro n
    induction n with
    | zero => intro _; simp
    | succ n ih =>
      intro hn
      rw [List.range_succ, List.filterMap_append, ih (by omega)]
      have e1 : (((xs.size : Int) - 1) + (n : Int) * -1).toNat = xs.size - (n + 1) := by omega
      have h1 : xs.size - (n + 1) < xs.size := by omega
      have e2 : xs.toList.drop (xs.size - (n + 1)) = xs[xs.size - (n + 1)] :: xs.toList.drop (xs.size - n) := by
        rw [List.drop_eq_getElem_cons (by simpa using h1)]
        have : xs.size - (n + 1) + 1 = xs.size - n := by omega
        rw [this]
        simp
      rw [e2, List.reverse_cons]
      congr 1
      rw [List.filterMap_cons, e1, Array.getElem?_eq_getElem h1]
      rfl
  rw [key xs.size (Nat.le_refl _)]
  simp
section
variable {prog : Program} {w : World} {A : Around} {E : Value → Shared → Prop} {s : Shared}
theorem back_applied {sl : Addr} {vl vu vs : Value} {n : Nat} {Q : Int × Int × Nat → Shared → Prop} (hS : s.heap.IsSliceOf sl vl vu vs) (p1 : IsPart vl none) (p2 : IsPart vu none) (p3 : IsPart vs (some (-1)))
    (h : Q ((n : Int) - 1, -1, n) s) : wpAny (model prog w) A (Builtin.Slice.sliceApplied (.ref sl) (pure (n : Int))) Q E s := by
  obtain ⟨ob, g1, g2, g3⟩ := id hS
  cases p1; cases p2; cases p3
  unfold Builtin.Slice.sliceApplied Builtin.Slice.sliceFields
  refine wpAny_bind (wpAny_bind (wpAny_field g1 g3 (x := .none) rfl (wpAny_bind (wpAny_field g1 g3 (x := .none) rfl (wpAny_bind (wpAny_field g1 g3 rfl (wpAny_pure ?_)))))))
  refine wpAny_bind (PyProof.Rows.slicePart_int ?_)
  show wpAny _ _ (if ((-1 : Int) == 0) = true then _ else _) _ _ s
  rw [if_neg (by decide)]
  refine wpAny_bind (PyProof.Rows.slicePart_none (wpAny_bind (PyProof.Rows.slicePart_none (wpAny_bind (wpAny_pure ?_)))))
  have e1 : Builtin.Slice.sliceAdjust none none (-1) (n : Int) = ((n : Int) - 1, -1) := by
    unfold Builtin.Slice.sliceAdjust
    simp
  have e2 : Builtin.Slice.slicePlaces ((n : Int) - 1) (-1) (-1) = n := by
    unfold Builtin.Slice.slicePlaces
    simp
    omega
  show wpAny _ _ (match Builtin.Slice.sliceAdjust none none (-1) (n : Int) with | (lo, hi) => pure (lo, (-1 : Int), Builtin.Slice.slicePlaces lo hi (-1))) _ _ s
  rw [e1]
  show wpAny _ _ (pure ((n : Int) - 1, (-1 : Int), Builtin.Slice.slicePlaces ((n : Int) - 1) (-1) (-1))) _ _ s
  rw [e2]
  exact wpAny_pure h
theorem back_tup {t sl : Addr} {its : Array Value} {vl vu vs : Value} {Q : Value → Shared → Prop} (hT : PyProof.Rows.IsTup s.heap t its) (hS : s.heap.IsSliceOf sl vl vu vs) (p1 : IsPart vl none) (p2 : IsPart vu none) (p3 : IsPart vs (some (-1)))
    (h : Q (.ref s.heap.objs.size) { s with heap := s.heap.push { cls := .type "tuple", data := .seq its.toList.reverse.toArray } }) (hb : its.size ≤ sizeLine) : wpAny (model prog w) A (getItem (.ref t) (.ref sl)) Q E s := by
  have ok : sizeOk (.seq its.toList.reverse.toArray) := by
    show its.toList.reverse.toArray.size ≤ sizeLine
    simpa using hb
  obtain ⟨ob, g1, g2, _⟩ := id hS
  have tS : s.TypeIs (.ref sl) "slice" := ⟨ob, g1, g2⟩
  unfold getItem
  try with_reducible refine wpAny_holding ?_
  first | refine wpAny_bind (wpAny_pure ?_) | skip
  refine wpAny_bind (wpAny_sequenceKey (hT.typeIs) (by decide) ?_)
  refine wpAny_bind (wpAny_callSpecial?_slot (name := Str.ofString "__getitem__") (hT.typeIs) PyProof.Rows.slot_tuple_getitem (wpAny_call_entry PyProof.Rows.slot_tuple_getitem (hT.typeIs) PyProof.Rows.entry_tuple_getitem ?_ (PyProof.Rows.args_tuple_getitem _ _)))
  show wpAny _ _ (Builtin.Tuple.tupleItemsOf (.ref t) >>= _) _ _ s
  refine wpAny_bind (PyProof.Rows.tupleItemsOf_ (hT) ?_)
  refine wpAny_bind (wpAny_typeOf tS ?_)
  rw [if_pos (by decide)]
  refine wpAny_bind (back_applied hS p1 p2 p3 ?_)
  have no : ¬ ((((its.size : Int) - 1) == 0 && (-1 : Int) == 1 && its.size == its.size) = true) := by simp
  show wpAny _ _ (if (((its.size : Int) - 1) == 0 && (-1 : Int) == 1 && its.size == its.size) = true then _ else _) _ _ s
  rw [if_neg no, pick_back]
  first
    | exact wpAny_bind (m := Builtin.Tuple.tupleExact _) (wpAny_newObj_type (wpAny_pure ⟨_, rfl, wpAny_pure h⟩) ok)
    | exact wpAny_bind (m := Builtin.Tuple.tupleExact _) (wpAny_newObj_type (wpAny_bind (wpAny_pure (wpAny_pure ⟨_, rfl, wpAny_pure h⟩))) ok)
    | exact wpAny_bind (wpAny_bind (m := Builtin.Tuple.tupleExact _) (wpAny_newObj_type (wpAny_pure (wpAny_pure ⟨_, rfl, wpAny_pure h⟩)) ok))
    | exact wpAny_bind (wpAny_bind (m := Builtin.Tuple.tupleExact _) (wpAny_newObj_type (wpAny_pure ⟨_, rfl, wpAny_pure h⟩) ok))
end
section
variable {X : Cx}
theorem pe_back {e : Expr} {te : TE} {k : Nat} {p1 p2 p3 pos : Pos} (he : PE X e te) : PE X (.Subscript e (.Slice none none (some (.UnaryOp .USub (.Constant (.int 1) k p1) p2)) p3) pos) (fun σ H Q => te σ H fun x H1 => rDat X.K .rev [x] H1 Q) := by
  refine ⟨fun pins s σ H Q I h => ?_⟩
  refine PyProof.Rows.Subscript_ (thn (he.run pins s σ H _ I h) fun v s1 ⟨x, H1, I1, r1, Z, vs, w, hz, hp, hd, q⟩ => ?_)
  have hst : PO X (some (.UnaryOp .USub (.Constant (.int 1) k p1) p2)) (tPart (tUn (rU fun i => .int (-i)) (tC (.int 1)))) := po_some (pe_un un_neg pe_int)
  refine wpAny_Slice (thn (po_none.run pins s1 σ H1 (fun o H2 => o = none ∧ H2 = H1) I1 ⟨rfl, rfl⟩) fun vl s2 ⟨l, H2, I2, pl, el, e2⟩ => ?_)
  subst el e2
  refine thn (po_none.run pins s2 σ H2 (fun o H3 => o = none ∧ H3 = H2) I2 ⟨rfl, rfl⟩) fun vu s3 ⟨u, H3, I3, pu, eu, e3⟩ => ?_
  subst eu e3
  refine thn (hst.run pins s3 σ H3 (fun o H4 => o = some (-1) ∧ H4 = H3) I3 ⟨1, rfl, -1, rfl, rfl, rfl⟩) fun vb s4 ⟨o, H4, I4, pb, eo, e4⟩ => ?_
  subst eo e4
  have J : L2.Inv X pins σ H4 { s4 with heap := s4.heap.push { cls := .type "slice", data := .fields #[vl, vu, vb] } } := I4.kept (t' := s4.toks) fun b ob q => Heap.get?_push_of_some _ q
  have hS : (s4.heap.push { cls := .type "slice", data := .fields #[vl, vu, vb] }).IsSliceOf s4.heap.objs.size vl vu vb := Heap.IsSliceOf.new _ vl vu vb
  show wpAny (model X.prog X.w) X.A (PyProof.Rows.subscriptTail e (.Slice none none (some (.UnaryOp .USub (.Constant (.int 1) k p1) p2)) p3) v (.ref s4.heap.objs.size)) (EP X pins σ Q) X.xe { s4 with heap := s4.heap.push { cls := .type "slice", data := .fields #[vl, vu, vb] } }
  obtain ⟨p, rfl, h1⟩ := prepL_1 hp
  change dRev [p] = some w at hd
  unfold dRev at hd
  split at hd
  · rename_i xs e1
    cases e1; cases hd
    obtain ⟨a, us, rfl, ha, r⟩ := prep_lst hz h1
    cases r1
    obtain ⟨its, r2, ht, hb⟩ := J.list (.inl (.inl ha))
    have hlen := r2.length
    refine PyProof.Rows.tail_any (ops := [.ref a, .ref s4.heap.objs.size]) ht.isList.typeIs (PySem.slot_list_getitem.lookup) ?_ (by with_unfolding_all rfl)
    refine wpAny_getItem_list_slice ht.isList hS pl pu pb (by decide) ?_ (by rw [List.size_toArray]; omega)
    rw [PySem.W.krv_pick]
    refine ⟨.ref _, _, J.laid (t' := s4.toks) (o := .lst us.reverse) (fun b ob q => Heap.get?_push_of_some _ q) (Nat.le_refl _) ?_, rfl, fin_lst hz q r.reverse rfl (J.hok.fresh (Nat.le_refl _))⟩
    exact ⟨by rw [List.length_reverse]; exact hb, _, 0, r2.reverse, Heap.get?_push_size _ rfl⟩
  · rename_i xs e1
    cases e1; cases hd
    obtain ⟨a, us, rfl, ha, r⟩ := prep_tup h1
    cases r1
    obtain ⟨its, r2, ht, hb⟩ := J.tuple (sqt_zok ha.sq hz)
    have hlen := r2.length
    refine PyProof.Rows.tail_any (ops := [.ref a, .ref s4.heap.objs.size]) ht.typeIs (PyProof.Rows.slot_tuple_getitem.lookup) ?_ (by with_unfolding_all rfl)
    refine back_tup ht hS pl pu pb ?_ (by rw [List.size_toArray]; omega)
    exact ⟨.ref _, _, inv_tup (tk := s4.toks) J (by rw [List.length_reverse]; exact hb) r2.reverse, rfl, fin_tup hz q r.reverse (inv_fresh J) rfl⟩
  · cases hd
end
end Tl
end
section
set_option linter.all false
set_option maxRecDepth 100000
namespace Tl
open PySem PySem.Spec L2
section
variable {K : PySem.W.Frag} {Z H : Hp}
theorem repL_ints : ∀ {ps : List PV} {us : List V} {ns : List Int}, RepL K Z us ps → allI ps = some ns → us = ns.map V.int
  | [], _, _, .nil, h => by cases h; rfl
  | p :: ps, _, ns, .cons r s, h => by
    cases r <;> try cases h
    rename_i i
    have h' : (allI ps).map (i :: ·) = some ns := h
    obtain ⟨ms, e, rfl⟩ := Option.map_eq_some_iff.mp h'
    rw [repL_ints s e]; rfl
theorem repL_bools : ∀ {ps : List PV} {us : List V} {ns : List Bool}, RepL K Z us ps → allB ps = some ns → us = ns.map V.bl
  | [], _, _, .nil, h => by cases h; rfl
  | p :: ps, _, ns, .cons r s, h => by
    cases r <;> try cases h
    rename_i i
    have h' : (allB ps).map (i :: ·) = some ns := h
    obtain ⟨ms, e, rfl⟩ := Option.map_eq_some_iff.mp h'
    rw [repL_bools s e]; rfl
theorem repL_strs : ∀ {ps : List PV} {us : List V} {ns : List (List Nat)}, RepL K Z us ps → allS ps = some ns → us = (ns.map asT).map V.str ∧ ∀ x ∈ ns, Asc x
  | [], _, _, .nil, h => by cases h; exact ⟨rfl, fun _ h => by cases h⟩
  | p :: ps, _, ns, .cons r s, h => by
    cases r <;> try cases h
    rename_i i a
    have h' : (allS ps).map (i :: ·) = some ns := h
    obtain ⟨ms, e, rfl⟩ := Option.map_eq_some_iff.mp h'
    obtain ⟨h1, h2⟩ := repL_strs s e
    refine ⟨by rw [h1]; rfl, fun x hx => ?_⟩
    rcases List.mem_cons.mp hx with rfl | hx
    · exact a
    · exact h2 x hx
theorem repL_ofStrs : ∀ {ns : List (List Nat)}, (∀ x ∈ ns, Asc x) → RepL K Z ((ns.map asT).map V.str) (ns.map PV.str)
  | [], _ => .nil
  | x :: ns, h => .cons (.str x (h x (by simp))) (repL_ofStrs fun y hy => h y (by simp [hy]))
end
section
variable {X : Cx}
abbrev rCall (K : PySem.W.Frag) (o : Op) : List V → Hp → VK → Prop := fun us H Q => rDat K o us H Q
theorem c_len : CallR X (.builtin "len") (rCall X.K .len) := by
  intro pins s σ H us ws Q I r ⟨Z, vs, w, hz, hp, hd, q⟩
  change dLen vs = some w at hd
  unfold dLen at hd
  split at hd
  · cases hd
    cases hp with
    | cons h1 t =>
      cases t
      obtain ⟨a, zs, rfl, ha, r'⟩ := prep_lst hz h1
      refine call_len_seq pins s σ H _ ws Q I r ⟨a, zs, rfl, .inl (.inl (.inl ha)), ?_⟩
      rw [r'.length]
      exact fin_rep hz q (.int _) rfl
  · cases hd
    cases hp with
    | cons h1 t =>
      cases t
      obtain ⟨a, zs, rfl, ha, r'⟩ := prep_tup h1
      refine call_len_seq pins s σ H _ ws Q I r ⟨a, zs, rfl, .inr (sqt_zok ha.sq hz), ?_⟩
      rw [r'.length]
      exact fin_rep hz q (.int _) rfl
  · cases hd
    cases hp with
    | cons h1 t =>
      cases t
      obtain ⟨a, zs, rfl, ha, r'⟩ := prep_scr h1
      refine call_len_seq pins s σ H _ ws Q I r ⟨a, zs, rfl, .inl (sql_zok ha hz), ?_⟩
      rw [r'.length]
      exact fin_rep hz q (.int _) rfl
  · cases hp with
    | cons h1 t =>
      cases t
      obtain ⟨rfl, _⟩ := prep_str h1
      split at hd <;> cases hd
      rename_i hl
      refine call_len_str pins s σ H _ ws Q I r ⟨_, rfl, by rw [asT_len, ← big_eq]; exact hl, ?_⟩
      rw [asT_len]
      exact fin_rep hz q (.int _) rfl
  · cases hd
    cases hp with
    | cons h1 t =>
      cases t
      obtain ⟨a, kvs, rfl, ha, r'⟩ := prep_dic hz h1
      obtain ⟨u, rfl, e⟩ := vals1 r
      cases e
      refine d_len I ha fun t s' I' => ⟨.int kvs.length, H, I', ⟨t, rfl⟩, ?_⟩
      rw [r'.length.1]
      exact fin_rep hz q (.int _) rfl
  · cases hd
/-- a datum's type -/
def tyN : PV → String
  | .non => "NoneType"
  | .bl _ => "bool"
  | .int _ => "int"
  | .str _ => "str"
  | .tup _ => "tuple"
  | .lst _ => "list"
  | .scr _ => "list"
  | .dic _ _ => "dict"
theorem tyx_of {K : PySem.W.Frag} {Z H : Hp} (hz : ZOk Z H) {u : V} {p : PV} (h : PRep K Z H u p) : TyX K H u (.type (tyN p)) := by
  cases p with
  | non => cases prep_non h; exact .base .non
  | bl b => cases prep_bl h; exact .base (.bl b)
  | int i => cases prep_int h; exact .base (.int i)
  | str x => obtain ⟨rfl, _⟩ := prep_str h; exact .base (.str _)
  | tup ps =>
    obtain ⟨a, xs, rfl, ha, _⟩ := prep_tup h
    rcases ha.zok hz with ⟨o, e, _⟩ | ⟨o, its, n, h1, h2, _⟩
    · exact .fTuple e
    · exact .kTuple h1 h2
  | lst ps =>
    obtain ⟨a, xs, rfl, ha, _⟩ := prep_lst hz h
    exact .base (.lst ha)
  | scr ps =>
    obtain ⟨a, xs, rfl, ha, _⟩ := prep_scr h
    rcases sql_zok ha hz with (e | ⟨o, e⟩) | ⟨o, its, n, h1, h2, _⟩
    · exact .base (.lst e)
    · exact .base (.frz e)
    · exact .kList h1 h2
  | dic ks vs =>
    obtain ⟨a, kvs, rfl, ha, _⟩ := prep_dic hz h
    rcases ha with e | ⟨o, e⟩
    · exact .base (.dK e)
    · exact .fDict e
def rIs (K : PySem.W.Frag) (T : String) (o : Op) : List V → Hp → VK → Prop := fun us H Q => ∃ x, us = [x, .ty T] ∧ rDat K o [x] H Q
theorem c_is {T : String} {o : Op} (hT : ∀ p w, opDen o [p] = some w → ∃ b, w = .bl b ∧ kitB (tyN p) T = some b) (hm : o.makes = true) : CallR X (.builtin "isinstance") (rIs X.K T o) := by
  intro pins s σ H us ws Q I r h
  obtain ⟨x, rfl, Z, vs, w, hz, hp, hd, q⟩ := h
  obtain ⟨p, rfl, h1⟩ := prepL_1 hp
  obtain ⟨b, rfl, hk⟩ := hT p w hd
  exact call_isi pins s σ H _ ws Q I r ⟨x, .ty T, .type (tyN p), .type T, b, rfl, .ty T, tyx_of hz h1, kit_ty hk, fin_rep hz q (.bl b) (by simp [PV.isCont])⟩
theorem c_isStr : CallR X (.builtin "isinstance") (rIs X.K "str" .isStr) := by
  have k0 : kitB "NoneType" "str" = some false := by decide +kernel
  have k1 : kitB "bool" "str" = some false := by decide +kernel
  have k2 : kitB "int" "str" = some false := by decide +kernel
  have k3 : kitB "str" "str" = some true := by decide +kernel
  have k4 : kitB "tuple" "str" = some false := by decide +kernel
  have k5 : kitB "list" "str" = some false := by decide +kernel
  have k6 : kitB "dict" "str" = some false := by decide +kernel
  refine c_is (fun p w h => ?_) rfl
  cases p <;> (cases h; first | exact ⟨_, rfl, k0⟩ | exact ⟨_, rfl, k1⟩ | exact ⟨_, rfl, k2⟩ | exact ⟨_, rfl, k3⟩ | exact ⟨_, rfl, k4⟩ | exact ⟨_, rfl, k5⟩ | exact ⟨_, rfl, k6⟩)
theorem c_isTup : CallR X (.builtin "isinstance") (rIs X.K "tuple" .isTup) := by
  have k0 : kitB "NoneType" "tuple" = some false := by decide +kernel
  have k1 : kitB "bool" "tuple" = some false := by decide +kernel
  have k2 : kitB "int" "tuple" = some false := by decide +kernel
  have k3 : kitB "str" "tuple" = some false := by decide +kernel
  have k4 : kitB "tuple" "tuple" = some true := by decide +kernel
  have k5 : kitB "list" "tuple" = some false := by decide +kernel
  have k6 : kitB "dict" "tuple" = some false := by decide +kernel
  refine c_is (fun p w h => ?_) rfl
  cases p <;> (cases h; first | exact ⟨_, rfl, k0⟩ | exact ⟨_, rfl, k1⟩ | exact ⟨_, rfl, k2⟩ | exact ⟨_, rfl, k3⟩ | exact ⟨_, rfl, k4⟩ | exact ⟨_, rfl, k5⟩ | exact ⟨_, rfl, k6⟩)
theorem c_isBool : CallR X (.builtin "isinstance") (rIs X.K "bool" .isBool) := by
  have k0 : kitB "NoneType" "bool" = some false := by decide +kernel
  have k1 : kitB "bool" "bool" = some true := by decide +kernel
  have k2 : kitB "int" "bool" = some false := by decide +kernel
  have k3 : kitB "str" "bool" = some false := by decide +kernel
  have k4 : kitB "tuple" "bool" = some false := by decide +kernel
  have k5 : kitB "list" "bool" = some false := by decide +kernel
  have k6 : kitB "dict" "bool" = some false := by decide +kernel
  refine c_is (fun p w h => ?_) rfl
  cases p <;> (cases h; first | exact ⟨_, rfl, k0⟩ | exact ⟨_, rfl, k1⟩ | exact ⟨_, rfl, k2⟩ | exact ⟨_, rfl, k3⟩ | exact ⟨_, rfl, k4⟩ | exact ⟨_, rfl, k5⟩ | exact ⟨_, rfl, k6⟩)
theorem c_isLst : CallR X (.builtin "isinstance") (rIs X.K "list" .isLst) := by
  have k0 : kitB "NoneType" "list" = some false := by decide +kernel
  have k1 : kitB "bool" "list" = some false := by decide +kernel
  have k2 : kitB "int" "list" = some false := by decide +kernel
  have k3 : kitB "str" "list" = some false := by decide +kernel
  have k4 : kitB "tuple" "list" = some false := by decide +kernel
  have k5 : kitB "list" "list" = some true := by decide +kernel
  have k6 : kitB "dict" "list" = some false := by decide +kernel
  refine c_is (fun p w h => ?_) rfl
  cases p <;> (cases h; first | exact ⟨_, rfl, k0⟩ | exact ⟨_, rfl, k1⟩ | exact ⟨_, rfl, k2⟩ | exact ⟨_, rfl, k3⟩ | exact ⟨_, rfl, k4⟩ | exact ⟨_, rfl, k5⟩ | exact ⟨_, rfl, k6⟩)
theorem c_all (hc : X.calm = true) : CallR X (.builtin "all") (rCall X.K .all) := by
  intro pins s σ H us ws Q I r ⟨Z, vs, w, hz, hp, hd, q⟩
  change dAll vs = some w at hd
  unfold dAll at hd
  split at hd
  · cases hp with
    | cons h1 t =>
      cases t
      obtain ⟨a, zs, rfl, ha, r'⟩ := prep_lst hz h1
      obtain ⟨bs, hb, rfl⟩ := Option.map_eq_some_iff.mp hd
      have e := repL_bools r' hb
      subst e
      exact cr_all hc pins s σ H _ ws Q I r ⟨a, bs, rfl, .inl (.inl ha), fin_rep hz q (.bl _) rfl⟩
  · cases hd
theorem c_sum (hc : X.calm = true) : CallR X (.builtin "sum") (rCall X.K .sum) := by
  intro pins s σ H us ws Q I r ⟨Z, vs, w, hz, hp, hd, q⟩
  change dSum vs = some w at hd
  unfold dSum at hd
  split at hd
  · cases hp with
    | cons h1 t =>
      cases t
      obtain ⟨a, zs, rfl, ha, r'⟩ := prep_lst hz h1
      obtain ⟨ns, hb, rfl⟩ := Option.map_eq_some_iff.mp hd
      have e := repL_ints r' hb
      subst e
      exact cr_sum hc pins s σ H _ ws Q I r ⟨a, ns, rfl, .inl (.inl ha), fin_rep hz q (.int _) rfl⟩
  · cases hd
theorem c_int : CallR X (.type "int") (rCall X.K .toInt) := by
  intro pins s σ H us ws Q I r ⟨Z, vs, w, hz, hp, hd, q⟩
  change dToInt vs = some w at hd
  unfold dToInt at hd
  split at hd
  · cases hd
    cases hp with
    | cons h1 t =>
      cases t
      cases prep_int h1
      exact call_int1 pins s σ H _ ws Q I r (.inl ⟨_, rfl, fin_rep hz q (.int _) rfl⟩)
  · cases hd
    cases hp with
    | cons h1 t =>
      cases t
      cases prep_bl h1
      exact call_int1 pins s σ H _ ws Q I r (.inr ⟨_, rfl, fin_rep hz q (.int _) rfl⟩)
  · cases hd
theorem c_str : CallR X (.type "str") (rCall X.K .toStr) := by
  intro pins s σ H us ws Q I r ⟨Z, vs, w, hz, hp, hd, q⟩
  change dToStr vs = some w at hd
  unfold dToStr at hd
  split at hd
  · cases hd
    cases hp with
    | cons h1 t =>
      cases t
      obtain ⟨rfl, ha⟩ := prep_str h1
      exact SkE.call_str_str pins s σ H _ ws Q I r ⟨_, rfl, fin_rep hz q (.str _ ha) rfl⟩
  · cases hd
theorem c_list : CallR X (.type "list") (rCall X.K .toLst) := by
  intro pins s σ H us ws Q I r ⟨Z, vs, w, hz, hp, hd, q⟩
  change dToLst vs = some w at hd
  unfold dToLst at hd
  split at hd
  · cases hd
    cases hp with
    | cons h1 t =>
      cases t
      obtain ⟨a, zs, rfl, ha, r'⟩ := prep_lst hz h1
      exact call_list_of pins s σ H _ ws Q I r ⟨a, zs, rfl, .inl (.inl (.inl ha)), fun t ht => fin_lst hz q r' rfl ht⟩
  · cases hd
    cases hp with
    | cons h1 t =>
      cases t
      obtain ⟨a, zs, rfl, ha, r'⟩ := prep_tup h1
      exact call_list_of pins s σ H _ ws Q I r ⟨a, zs, rfl, .inr (sqt_zok ha.sq hz), fun t ht => fin_lst hz q r' rfl ht⟩
  · cases hd
theorem c_tuple : CallR X (.type "tuple") (rCall X.K .toTup) := by
  intro pins s σ H us ws Q I r ⟨Z, vs, w, hz, hp, hd, q⟩
  change dToTup vs = some w at hd
  unfold dToTup at hd
  split at hd
  · cases hd
    cases hp with
    | cons h1 t =>
      cases t
      obtain ⟨a, zs, rfl, ha, r'⟩ := prep_lst hz h1
      obtain ⟨u, rfl, e⟩ := vals1 r
      cases e
      obtain ⟨its, rv, pl, hb⟩ := I.list (.inl (.inl ha))
      have hlen := rv.length
      refine PySem.call_tuple_list pl.isList (fun h' kp => ?_) (by simp only [List.size_toArray]; omega)
      have J : L2.Inv X pins σ H { s with heap := h' } := I.kept (t' := s.toks) kp
      exact ⟨.ref h'.objs.size, _, inv_tup (tk := s.toks) J hb rv, rfl, fin_tup hz q r' (inv_fresh J) rfl⟩
  · cases hd
    cases hp with
    | cons h1 t =>
      cases t
      obtain ⟨a, zs, rfl, ha, r'⟩ := prep_tup h1
      exact call_tupleT pins s σ H _ ws Q I r ⟨a, zs, rfl, sqt_zok ha.sq hz, fin_rep hz q (.tup ha r') rfl⟩
  · cases hd
theorem c_min2 (hc : X.calm = true) : CallR X (.builtin "min") (rCall X.K .min2) := by
  intro pins s σ H us ws Q I r ⟨Z, vs, w, hz, hp, hd, q⟩
  change dMin2 vs = some w at hd
  unfold dMin2 at hd
  split at hd
  · cases hd
    cases hp with
    | cons h1 t =>
      cases t with
      | cons h2 t =>
        cases t
        cases prep_int h1; cases prep_int h2
        exact call_min2 hc pins s σ H _ ws Q I r ⟨_, _, rfl, fin_rep hz q (.int _) rfl⟩
  · cases hd
theorem c_max2 (hc : X.calm = true) : CallR X (.builtin "max") (rCall X.K .max2) := by
  intro pins s σ H us ws Q I r ⟨Z, vs, w, hz, hp, hd, q⟩
  change dMax2 vs = some w at hd
  unfold dMax2 at hd
  split at hd
  · cases hd
    cases hp with
    | cons h1 t =>
      cases t with
      | cons h2 t =>
        cases t
        cases prep_int h1; cases prep_int h2
        exact call_max2 hc pins s σ H _ ws Q I r ⟨_, _, rfl, fin_rep hz q (.int _) rfl⟩
  · cases hd
theorem minI_spec : ∀ (ns : List Int) (m : Int), (minI m ns = m ∨ minI m ns ∈ ns) ∧ minI m ns ≤ m ∧ ∀ y ∈ ns, minI m ns ≤ y
  | [], m => ⟨.inl rfl, Int.le_refl _, fun _ h => by cases h⟩
  | x :: r, m => by
    unfold minI
    by_cases h : x < m
    · rw [if_pos h]
      obtain ⟨h1, h2, h3⟩ := minI_spec r x
      refine ⟨.inr ?_, by omega, fun y hy => ?_⟩
      · rcases h1 with h1 | h1
        · rw [h1]; simp
        · simp [h1]
      · rcases List.mem_cons.mp hy with rfl | hy
        · exact h2
        · exact h3 y hy
    · rw [if_neg h]
      obtain ⟨h1, h2, h3⟩ := minI_spec r m
      refine ⟨?_, h2, fun y hy => ?_⟩
      · rcases h1 with h1 | h1
        · exact .inl h1
        · exact .inr (by simp [h1])
      · rcases List.mem_cons.mp hy with rfl | hy
        · omega
        · exact h3 y hy
theorem c_minL (hc : X.calm = true) : CallR X (.builtin "min") (rCall X.K .minL) := by
  intro pins s σ H us ws Q I r ⟨Z, vs, w, hz, hp, hd, q⟩
  change dMinL vs = some w at hd
  unfold dMinL at hd
  split at hd
  · cases hp with
    | cons h1 t =>
      cases t
      obtain ⟨a, zs, rfl, ha, r'⟩ := prep_lst hz h1
      obtain ⟨ns, hb, hd⟩ := Option.bind_eq_some_iff.mp hd
      have e := repL_ints r' hb
      subst e
      cases ns with
      | nil => cases hd
      | cons n rest =>
        cases hd
        refine cr_min hc pins s σ H _ ws Q I r ⟨a, n :: rest, rfl, .inl (.inl ha), by simp, fun m h1 h2 => ?_⟩
        obtain ⟨g1, g2, g3⟩ := minI_spec rest n
        have e : m = minI n rest := by
          have a1 : m ≤ minI n rest := h2 _ (by rcases g1 with g1 | g1 <;> simp [g1])
          have a2 : minI n rest ≤ m := by
            rcases List.mem_cons.mp h1 with rfl | h1
            · exact g2
            · exact g3 m h1
          omega
        rw [e]
        exact fin_rep hz q (.int _) rfl
  · cases hd
theorem m_get1 (hu : X.A.units + 1 < cLine) : MtR X "dict.get" (fun x us H Q => rDat X.K .get1 (x :: us) H Q) := by
  intro pins s σ H x us v ws Q I rx r ⟨Z, vs, w, hz, hp, hd, q⟩
  change dGet1 vs = some w at hd
  unfold dGet1 at hd
  split at hd
  · rename_i ks ws' k
    cases hd
    cases hp with
    | cons h1 t =>
      cases t with
      | cons h2 t =>
        cases t
        obtain ⟨a, kvs, rfl, ha, rd⟩ := prep_dic hz h1
        obtain ⟨rfl, _⟩ := prep_str h2
        obtain ⟨u, rfl, ru⟩ := vals1 r
        cases rx
        have g : DGet H a (.str (asT k)) (valV kvs (.inr (asT k))) := .inl ⟨kvs, .inr (asT k), ha, rfl, rfl⟩
        refine d_get1 hu I g ru fun w' s' I' rw' => ⟨_, H, I', rw', ?_⟩
        rcases repD_get (x := k) rd with ⟨p, z, e1, e2, e3⟩ | ⟨e1, e2⟩
        · rw [e1] at q; rw [e2]
          exact fin_rep hz q e3 rfl
        · rw [e1] at q; rw [e2]
          exact fin_rep hz q .non rfl
  · cases hd
theorem m_get2 (hu : X.A.units + 1 < cLine) : MtR X "dict.get" (fun x us H Q => rDat X.K .get2 (x :: us) H Q) := by
  intro pins s σ H x us v ws Q I rx r ⟨Z, vs, w, hz, hp, hd, q⟩
  change dGet2 vs = some w at hd
  unfold dGet2 at hd
  split at hd
  · rename_i ks ws' k d
    split at hd <;> cases hd
    rename_i hcn
    cases hp with
    | cons h1 t =>
      cases t with
      | cons h2 t =>
        cases t with
        | cons h3 t =>
          cases t
          obtain ⟨a, kvs, rfl, ha, rd⟩ := prep_dic hz h1
          obtain ⟨rfl, _⟩ := prep_str h2
          obtain ⟨u, u', rfl, ru, ru'⟩ := vals2 r
          cases rx
          have g : DGet H a (.str (asT k)) (valV kvs (.inr (asT k))) := .inl ⟨kvs, .inr (asT k), ha, rfl, rfl⟩
          refine d_get2 hu I g ru ru' fun w' s' I' rw' => ⟨_, H, I', rw', ?_⟩
          rcases repD_get (x := k) rd with ⟨p, z, e1, e2, e3⟩ | ⟨e1, e2⟩
          · rw [e1] at q; rw [e2]
            exact fin_rep hz q e3 rfl
          · rw [e1] at q; rw [e2]
            exact fin_rep hz q (prep_sc h3 (by simpa using hcn)) rfl
  · cases hd
end
end Tl
end
section
set_option linter.all false
set_option maxRecDepth 100000
namespace Tl
open PySem PySem.Spec L2
/-- the value of an expression: its own new list, or a datum that stays -/
def ValRep (K : PySem.W.Frag) (O : Addr → Prop) (H : Hp) (O' : Addr → Prop) (Z' H' : Hp) (u : V) (v : PV × Bool) : Prop :=
  if v.2 = true then ∃ a, u = .ref a ∧ OwnRep K Z' H' a v.1 ∧ ¬ O' a ∧ (O a ∨ H a = none) else Rep K Z' u v.1
/-- what is wanted of an outcome, the frame's slots staying as they are -/
def Out {α : Type} (K : PySem.W.Frag) (ex : Nat → Value) (W : WX) (σ : L2.St) (Z H : Hp) (ρ : Env) (r : M α) (R : α → Env → Hp → Hp → Prop) : Prop := match r with
  | none => False
  | some (.val a, ρ') => ∀ Z' H', Step (Own ρ σ) (Own ρ' σ) Z H Z' H' → StOk K Z' ρ' σ H' → R a ρ' Z' H'
  | some (.exn x, ρ') => ∀ Z' H', Step (Own ρ σ) (Own ρ' σ) Z H Z' H' → StOk K Z' ρ' σ H' → W (ex x) none σ H'
section
variable {K : PySem.W.Frag} {ex : Nat → Value} {W : WX} {σ : L2.St} {Z H : Hp} {ρ : Env} {α β : Type}
theorem Out.mono {r : M α} {R R' : α → Env → Hp → Hp → Prop} (h : Out K ex W σ Z H ρ r R) (k : ∀ a ρ1 Z1 H1, Step (Own ρ σ) (Own ρ1 σ) Z H Z1 H1 → StOk K Z1 ρ1 σ H1 → R a ρ1 Z1 H1 → R' a ρ1 Z1 H1) : Out K ex W σ Z H ρ r R' := by
  match r, h with
  | some (.val a, ρ'), h => exact fun Z' H' st so => k a ρ' Z' H' st so (h Z' H' st so)
  | some (.exn x, ρ'), h => exact h
theorem Out.bind {m : M α} {f : α → Env → M β} {R : β → Env → Hp → Hp → Prop} (h : Out K ex W σ Z H ρ (m.bind f) R) : Out K ex W σ Z H ρ m fun a ρ1 Z1 H1 => Out K ex W σ Z1 H1 ρ1 (f a ρ1) R := by
  match m, h with
  | none, h => exact h
  | some (.exn x, ρ'), h => exact h
  | some (.val a, ρ1), h =>
    intro Z1 H1 st so
    have h : Out K ex W σ Z H ρ (f a ρ1) R := h
    match f a ρ1, h with
    | some (.val b, ρ2), h => exact fun Z2 H2 st2 so2 => h Z2 H2 (st.trans st2) so2
    | some (.exn x, ρ2), h => exact fun Z2 H2 st2 so2 => h Z2 H2 (st.trans st2) so2
/-- here and now -/
theorem Out.here {a : α} {R : α → Env → Hp → Hp → Prop} (h : Out K ex W σ Z H ρ (some (.val a, ρ)) R) (so : StOk K Z ρ σ H) : R a ρ Z H := h Z H .refl so
end

/-- an expression's reading -/
def tE (K : PySem.W.Frag) (ex : Nat → Value) (W : WX) (m : Env → M (PV × Bool)) : TE := fun σ H Q => ∃ Z ρ, StOk K Z ρ σ H ∧
  Out K ex W σ Z H ρ (m ρ) fun v ρ' Z' H' => ∀ u, ValRep K (Own ρ σ) H (Own ρ' σ) Z' H' u v → Q u H'
/-- a test's -/
def tT (K : PySem.W.Frag) (ex : Nat → Value) (W : WX) (m : Env → M (PV × Bool)) : TT := fun σ H Q => ∃ Z ρ, StOk K Z ρ σ H ∧
  Out K ex W σ Z H ρ (m ρ) fun v _ _ H' => ∃ b, v.1 = .bl b ∧ Q b H'
section
variable {K : PySem.W.Frag} {ex : Nat → Value} {W : WX} {σ : L2.St} {Z H : Hp} {ρ : Env} {Φ : Fun}
theorem tE_frozen {m : Env → M (PV × Bool)} {Q : VK} (so : StOk K Z ρ σ H) (h : Out K ex W σ Z H ρ (m ρ) fun v _ Z' H' => ∀ u, Rep K Z' u v.1 → Q u H') : tE K ex W m σ H Q := by
  refine ⟨Z, ρ, so, ?_⟩
  generalize m ρ = r at h
  match r, h with
  | some (.exn x, ρ'), h => exact h
  | some (.val (v, f), ρ'), h =>
    intro Z' H' st so' u vr
    cases f with
    | false => exact h Z' H' st so' u vr
    | true =>
      obtain ⟨a, rfl, r, n, q⟩ := vr
      exact h (contOf H' Z' a) H' (st.cont r q) (so'.cont r n) _ r.freeze
/-! ### arguments -/
inductive ArgsRep (K : PySem.W.Frag) (Z : Hp) (σ : L2.St) : List V → List Arg → Prop
  | nil : ArgsRep K Z σ [] []
  | loc {u : V} {us : List V} {i : Nat} {as : List Arg} : σ[i]? = some (some u) → ArgsRep K Z σ us as → ArgsRep K Z σ (u :: us) (.inl i :: as)
  | val {u : V} {us : List V} {v : PV} {as : List Arg} : Rep K Z u v → ArgsRep K Z σ us as → ArgsRep K Z σ (u :: us) (.inr v :: as)
theorem looked_ok {us : List V} {as : List Arg} (r : ArgsRep K Z σ us as) (so : StOk K Z ρ σ H) : ∀ {vs : List PV}, looked ρ as = some vs → PRepL K Z H us vs := by
  induction r with
  | nil => intro vs h; cases h; exact .nil
  | @loc u us i as e r ih =>
    intro vs h
    unfold looked at h
    split at h
    · rename_i f v ws e1 e2
      cases h
      refine .cons ?_ (ih e2)
      cases f with
      | false =>
        obtain ⟨u', e3, e4⟩ := so.sh i v e1
        rw [e] at e3; cases e3
        exact .inl e4
      | true =>
        obtain ⟨a, e3, e4⟩ := so.ow i v e1
        rw [e] at e3; cases e3
        exact .inr ⟨a, rfl, e4⟩
    · cases h
  | @val u us v as e r ih =>
    intro vs h
    unfold looked at h
    obtain ⟨ws, e2, rfl⟩ := Option.map_eq_some_iff.mp h
    exact .cons (.inl e) (ih e2)
def CL.len : CL → Nat
  | .nil => 0
  | .cons _ r => r.len + 1
def tArgs (K : PySem.W.Frag) (ex : Nat → Value) (W : WX) (Φ : Fun) : CL → TA
  | .nil => tNil
  | .cons (.var i) r => tCons (tVar i) (tArgs K ex W Φ r)
  | .cons c r => tCons (tE K ex W (den Φ c)) (tArgs K ex W Φ r)
theorem args_ok : ∀ (cl : CL) {Z H : Hp} {ρ : Env} {R : List V → Hp → Prop}, StOk K Z ρ σ H →
    Out K ex W σ Z H ρ (denL Φ cl ρ) (fun as _ Z' H' => ∀ us, us.length = cl.len → ArgsRep K Z' σ us as → R us H') → tArgs K ex W Φ cl σ H R
  | .nil, _, _, _, _, so, h => h.here so [] rfl .nil
  | .cons c r, Z, H, ρ, R, so, h => by
    have gen : Out K ex W σ Z H ρ ((den Φ c ρ).bind fun v ρ1 => (denL Φ r ρ1).bind fun as ρ2 => some (.val (.inr v.1 :: as), ρ2)) (fun as _ Z' H' => ∀ us, us.length = (CL.cons c r).len → ArgsRep K Z' σ us as → R us H') →
        tCons (tE K ex W (den Φ c)) (tArgs K ex W Φ r) σ H R := fun h => by
      refine tE_frozen so (h.bind.mono fun v ρ1 Z1 H1 st so1 h1 u ru => ?_)
      refine args_ok r so1 (h1.bind.mono fun as ρ2 Z2 H2 st2 so2 h2 us hl rs => ?_)
      exact h2.here so2 (u :: us) (by rw [List.length_cons, hl]; rfl) (.val (ru.mono st2.zm) rs)
    cases c with
    | var i =>
      unfold denL at h
      split at h
      · rename_i sl e
        obtain ⟨u, eu⟩ : ∃ u, σ[i]? = some (some u) := by
          obtain ⟨f, p⟩ := sl
          cases f with
          | false => obtain ⟨u, e1, _⟩ := so.sh i p e; exact ⟨u, e1⟩
          | true => obtain ⟨a, e1, _⟩ := so.ow i p e; exact ⟨_, e1⟩
        refine ⟨u, eu, args_ok r so (h.bind.mono fun as ρ2 Z2 H2 st2 so2 h2 us hl rs => ?_)⟩
        exact h2.here so2 (u :: us) (by rw [List.length_cons, hl]; rfl) (.loc eu rs)
      · exact h.elim
    | lit v => exact gen h
    | op o a => exact gen h
    | seq l a => exact gen h
    | not a => exact gen h
    | meth m o a => exact gen h
    | and a b => exact gen h
    | or a b => exact gen h
    | ite c a b => exact gen h
    | chain o p a c => exact gen h
    | call f bs a => exact gen h
    | comp tg own it cond elt => exact gen h
def tVals (K : PySem.W.Frag) (ex : Nat → Value) (W : WX) (Φ : Fun) : CL → TA
  | .nil => tNil
  | .cons c r => tCons (tE K ex W (den Φ c)) (tVals K ex W Φ r)
theorem vals_ok : ∀ (cl : CL) {Z H : Hp} {ρ : Env} {R : List V → Hp → Prop}, StOk K Z ρ σ H →
    Out K ex W σ Z H ρ (denV Φ cl ρ) (fun vs _ Z' H' => ∀ us, us.length = cl.len → RepL K Z' us vs → R us H') → tVals K ex W Φ cl σ H R
  | .nil, _, _, _, _, so, h => h.here so [] rfl .nil
  | .cons c r, Z, H, ρ, R, so, h => by
    refine tE_frozen so (Out.mono (Out.bind h) fun v ρ1 Z1 H1 st so1 h1 u ru => ?_)
    refine vals_ok r so1 (h1.bind.mono fun as ρ2 Z2 H2 st2 so2 h2 us hl rs => ?_)
    exact h2.here so2 (u :: us) (by rw [List.length_cons, hl]; rfl) (.cons (ru.mono st2.zm) rs)
def tLent (K : PySem.W.Frag) (ex : Nat → Value) (W : WX) (Φ : Fun) : List Bool → CL → TA
  | [], .nil => tNil
  | true :: bs, .cons (.var i) r => tCons (tVar i) (tLent K ex W Φ bs r)
  | false :: bs, .cons c r => tCons (tE K ex W (den Φ c)) (tLent K ex W Φ bs r)
  | _, _ => fun _ _ _ => False
/-- which arguments are lent -/
def isLent : List Bool → List Arg → Prop
  | [], [] => True
  | true :: bs, .inl _ :: as => isLent bs as
  | false :: bs, .inr _ :: as => isLent bs as
  | _, _ => False
theorem lent_ok : ∀ (bs : List Bool) (cl : CL) {Z H : Hp} {ρ : Env} {R : List V → Hp → Prop}, StOk K Z ρ σ H →
    Out K ex W σ Z H ρ (denB Φ bs cl ρ) (fun as _ Z' H' => isLent bs as → ∀ us, ArgsRep K Z' σ us as → R us H') → tLent K ex W Φ bs cl σ H R
  | [], .nil, _, _, _, _, so, h => h.here so trivial [] .nil
  | [], .cons _ _, _, _, _, _, _, h => h.elim
  | true :: bs, .nil, _, _, _, _, _, h => h.elim
  | false :: bs, .nil, _, _, _, _, _, h => h.elim
  | false :: bs, .cons c r, Z, H, ρ, R, so, h => by
    have h : Out K ex W σ Z H ρ ((den Φ c ρ).bind fun v ρ1 => (denB Φ bs r ρ1).bind fun as ρ2 => some (.val (.inr v.1 :: as), ρ2)) (fun as _ Z' H' => isLent (false :: bs) as → ∀ us, ArgsRep K Z' σ us as → R us H') := by
      cases c <;> exact h
    have e : tLent K ex W Φ (false :: bs) (.cons c r) = tCons (tE K ex W (den Φ c)) (tLent K ex W Φ bs r) := by cases c <;> rfl
    rw [e]
    refine tE_frozen so (h.bind.mono fun v ρ1 Z1 H1 st so1 h1 u ru => ?_)
    refine lent_ok bs r so1 (h1.bind.mono fun as ρ2 Z2 H2 st2 so2 h2 il us rs => ?_)
    exact h2.here so2 il (u :: us) (.val (ru.mono st2.zm) rs)
  | true :: bs, .cons c r, Z, H, ρ, R, so, h => by
    cases c with
    | var i =>
      unfold denB at h
      split at h
      · rename_i p e
        obtain ⟨a, eu, _⟩ := so.ow i p e
        refine ⟨_, eu, lent_ok bs r so (h.bind.mono fun as ρ2 Z2 H2 st2 so2 h2 il us rs => ?_)⟩
        exact h2.here so2 il (_ :: us) (.loc eu rs)
      · exact h.elim
    | lit v => exact h.elim
    | op o a => exact h.elim
    | seq l a => exact h.elim
    | not a => exact h.elim
    | meth m o a => exact h.elim
    | and a b => exact h.elim
    | or a b => exact h.elim
    | ite c a b => exact h.elim
    | chain o p a c => exact h.elim
    | call f bs a => exact h.elim
    | comp tg own it cond elt => exact h.elim
/-! ### operations -/
theorem StOk.grow {Z' H' : Hp} (so : StOk K Z ρ σ H) (g : Grow Z H Z' H') : StOk K Z' ρ σ H' := by
  refine ⟨g.k, so.len, fun i p e => ?_, fun i p e => ?_, so.inj⟩
  · obtain ⟨v, e1, e2⟩ := so.sh i p e
    exact ⟨v, e1, e2.mono g.z⟩
  · obtain ⟨a, e1, e2⟩ := so.ow i p e
    exact ⟨a, e1, e2.move g.z (g.n a e2.1 e2.h) fun u h => g.h a u h⟩
theorem Step.grow {O : Addr → Prop} {Z' H' : Hp} (g : Grow Z H Z' H') : Step O O Z H Z' H' :=
  ⟨fun a u e _ => g.h a u e, g.z, fun a e h _ => g.n a e h, fun _ h => .inl h, fun a h => by
    cases e : H a with
    | none => exact absurd e h
    | some u => rw [g.h a u e]; exact fun z => nomatch z⟩
/-- from an operation's value to an expression's -/
theorem opVal_val {Z' H' : Hp} {o : Op} {u : V} {v : PV} (so : StOk K Z ρ σ H) (h : OpVal K H Z' H' o u v) : ValRep K (Own ρ σ) H (Own ρ σ) Z' H' u (v, o.makes && v.isCont) := by
  unfold OpVal at h
  unfold ValRep
  split at h
  · rename_i e
    obtain ⟨a, rfl, r, n⟩ := h
    rw [if_pos e]
    exact ⟨a, rfl, r, fun z => so.own_h z n, .inr n⟩
  · rename_i e
    rw [if_neg e]
    exact h
theorem vals_step {O O1 O2 : Addr → Prop} {Z1 H1 Z2 H2 : Hp} {u : V} {v : PV × Bool} (st : Step O O1 Z H Z1 H1) (h : ValRep K O1 H1 O2 Z2 H2 u v) : ValRep K O H O2 Z2 H2 u v := by
  unfold ValRep at h ⊢
  split at h
  · rename_i e
    rw [if_pos e]
    obtain ⟨a, e1, r, n, q⟩ := h
    refine ⟨a, e1, r, n, ?_⟩
    rcases q with q | q
    · exact st.on a q
    · cases e : H a with
      | none => exact .inr rfl
      | some u' => exact absurd q (st.al a (by rw [e]; exact fun z => nomatch z))
  · rename_i e
    rw [if_neg e]
    exact h
theorem op_ok {o : Op} {a : CL} {Q : VK} (h : tE K ex W (den Φ (.op o a)) σ H Q) : tArgs K ex W Φ a σ H fun us H1 => rDat K o us H1 Q := by
  obtain ⟨Z, ρ, so, h⟩ := h
  unfold den at h
  refine args_ok a so (h.bind.mono fun as ρ1 Z1 H1 st so1 h1 us _ rs => ?_)
  split at h1
  · exact h1.elim
  · rename_i vs e1
    split at h1
    · exact h1.elim
    · rename_i v e2
      refine ⟨Z1, vs, v, so1.z, looked_ok rs so1 e1, e2, fun Z2 H2 u g ov => ?_⟩
      exact h1 Z2 H2 (Step.grow g) (so1.grow g) u (vals_step st (opVal_val so1 ov))
end
end Tl
end
section
set_option linter.all false
set_option maxRecDepth 100000
namespace Tl
open PySem PySem.Spec L2
/-! ### what is asked of the text -/
def notStar : Expr → Bool
  | .Starred _ _ => false
  | _ => true
def noStars : List Expr → Bool
  | [] => true
  | e :: es => notStar e && noStars es
theorem star_cons {e : Expr} {es : List Expr} {env : PySem.Env} (h : notStar e = true) : starEach (e :: es) env = (false, eval e env) :: starEach es env := by
  cases e <;> first | rfl | cases h
theorem star_all : ∀ {es : List Expr} {env : PySem.Env}, noStars es = true → (starEach es env).all (fun x => !x.1) = true
  | [], _, _ => rfl
  | e :: es, env, h => by
    unfold noStars at h
    rw [Bool.and_eq_true] at h
    rw [star_cons h.1, List.all_cons, star_all h.2]
    rfl
theorem back_any {pos : Pos} : ∀ (l : List (Bool × Sem Value)), l.all (fun x => !x.1) = true → (backTo pos l).any (·.1) = false
  | [], _ => rfl
  | (b, t) :: r, h => by
    rw [List.all_cons, Bool.and_eq_true] at h
    have e : (backTo pos ((b, t) :: r)).any (·.1) = (b || (backTo pos r).any (·.1)) := rfl
    rw [e, back_any r h.2]
    cases b
    · rfl
    · cases h.1
theorem back_all {pos : Pos} : ∀ (l : List (Bool × Sem Value)), l.all (fun x => !x.1) = true → (backTo pos l).all (fun x => !x.1) = true
  | [], _ => rfl
  | (b, t) :: r, h => by
    rw [List.all_cons, Bool.and_eq_true] at h
    have e : (backTo pos ((b, t) :: r)).all (fun x => !x.1) = (!b && (backTo pos r).all (fun x => !x.1)) := rfl
    rw [e, back_all r h.2, h.1]
    rfl
theorem plain_any {es : List Expr} {env : PySem.Env} {pos : Pos} (h : noStars es = true) : (backTo pos (starEach es env)).any (·.1) = false := back_any _ (star_all h)
theorem PE.imp {X : Cx} {e : Expr} {t t' : TE} (h : PE X e t) (k : ∀ σ H Q, t' σ H Q → t σ H Q) : PE X e t' := ⟨fun pins s σ H Q I q => h.run pins s σ H Q I (k σ H Q q)⟩
theorem PT.imp {X : Cx} {e : Expr} {t t' : TT} (h : PT X e t) (k : ∀ σ H Q, t' σ H Q → t σ H Q) : PT X e t' := ⟨fun pins s σ H Q I q => h.run pins s σ H Q I (k σ H Q q)⟩

/-- an argument's reading: a place is only looked up -/
def tA1 (K : PySem.W.Frag) (ex : Nat → Value) (W : WX) (Φ : Fun) : C → TE
  | .var i => tVar i
  | c => tE K ex W (den Φ c)
section
variable {X : Cx} {ex : Nat → Value} {W : WX} {Φ : Fun}
abbrev ED (X : Cx) (ex : Nat → Value) (W : WX) (Φ : Fun) (e : Expr) (c : C) : Prop := PE X e (tE X.K ex W (den Φ c))
abbrev AD (X : Cx) (ex : Nat → Value) (W : WX) (Φ : Fun) (e : Expr) (c : C) : Prop := PE X e (tA1 X.K ex W Φ c)
abbrev TD (X : Cx) (ex : Nat → Value) (W : WX) (Φ : Fun) (e : Expr) (c : C) : Prop := PT X e (tT X.K ex W (den Φ c))
theorem tArgs_cons {K : PySem.W.Frag} (c : C) (r : CL) : tArgs K ex W Φ (.cons c r) = tCons (tA1 K ex W Φ c) (tArgs K ex W Φ r) := by cases c <;> rfl
theorem tLent_t {K : PySem.W.Frag} (i : Nat) (bs : List Bool) (r : CL) : tLent K ex W Φ (true :: bs) (.cons (.var i) r) = tCons (tVar i) (tLent K ex W Φ bs r) := rfl
theorem tLent_f {K : PySem.W.Frag} (c : C) (bs : List Bool) (r : CL) : tLent K ex W Φ (false :: bs) (.cons c r) = tCons (tE K ex W (den Φ c)) (tLent K ex W Φ bs r) := by cases c <;> rfl
/-! ### names and constants -/
theorem set_get_ne {α : Type} {l : List α} {i j : Nat} {v : α} (h : i ≠ j) : (l.set i v)[j]? = l[j]? := List.getElem?_set_ne h
theorem StOk.demote {K : PySem.W.Frag} {Z H : Hp} {ρ : Env} {σ : L2.St} {i : Nat} {p : PV} {a : Addr} (so : StOk K Z ρ σ H) (e : ρ[i]? = some (some (true, p))) (es : σ[i]? = some (some (V.ref a))) :
    StOk K (contOf H Z a) (ρ.set i (some (false, p))) σ H ∧ Step (Own ρ σ) (Own (ρ.set i (some (false, p))) σ) Z H (contOf H Z a) H ∧ Rep K (contOf H Z a) (.ref a) p := by
  obtain ⟨b, e1, r⟩ := so.ow i p e
  rw [es] at e1; cases e1
  have hi : i < ρ.length := (List.getElem?_eq_some_iff.mp e).1
  have low : ∀ (j : Nat) (q : PV), (ρ.set i (some (false, p)))[j]? = some (some (true, q)) → i ≠ j ∧ ρ[j]? = some (some (true, q)) := fun j q h => by
    by_cases hj : i = j
    · subst hj; rw [List.getElem?_set_self hi] at h; cases h
    · rw [set_get_ne hj] at h; exact ⟨hj, h⟩
  have no : ∀ b, Own (ρ.set i (some (false, p))) σ b → Own ρ σ b ∧ b ≠ a := fun b ⟨j, q, h1, h2⟩ => by
    obtain ⟨hj, h1⟩ := low j q h1
    refine ⟨⟨j, q, h1, h2⟩, fun z => hj ?_⟩
    subst z
    exact so.inj i j p q _ e h1 es h2
  have le := contOf_le (H := H) r.1
  refine ⟨⟨so.z.cont, by rw [List.length_set]; exact so.len, fun j q h => ?_, fun j q h => ?_, fun j k q q' b h1 h2 h3 h4 => so.inj j k q q' b (low j q h1).2 (low k q' h2).2 h3 h4⟩, ⟨fun _ _ h _ => h, le, fun b h1 h2 h3 => ?_, fun b h => .inl (no b h).1, fun _ h => h⟩, r.freeze⟩
  · by_cases hj : i = j
    · subst hj
      rw [List.getElem?_set_self hi] at h
      cases h
      exact ⟨_, es, r.freeze⟩
    · rw [set_get_ne hj] at h
      obtain ⟨v, h1, h2⟩ := so.sh j q h
      exact ⟨v, h1, h2.mono le⟩
  · obtain ⟨hj, h⟩ := low j q h
    obtain ⟨b, h1, h2⟩ := so.ow j q h
    have hb : b ≠ a := fun z => by
      subst z
      exact hj (so.inj i j p q _ e h es h1)
    exact ⟨b, h1, h2.move le (by rw [contOf_ne hb]; exact h2.1) fun _ z => z⟩
  · have hb : b ≠ a := fun z => by subst z; exact h3 ⟨i, p, e, es⟩
    rw [contOf_ne hb]; exact h1
theorem var_ok {K : PySem.W.Frag} {i : Nat} {σ : L2.St} {H : Hp} {Q : VK} (h : tE K ex W (den Φ (.var i)) σ H Q) : tVar i σ H Q := by
  obtain ⟨Z, ρ, so, h⟩ := h
  unfold den at h
  split at h
  · rename_i f p e
    cases f with
    | false =>
      obtain ⟨u, e1, e2⟩ := so.sh i p e
      exact ⟨u, e1, h.here so u e2⟩
    | true =>
      obtain ⟨a, e1, r⟩ := so.ow i p e
      obtain ⟨so', st, rp⟩ := so.demote e e1
      exact ⟨_, e1, h _ H st so' _ rp⟩
  · exact h.elim
theorem k_var {i : Nat} {e : Expr} (h : PE X e (tVar i)) : ED X ex W Φ e (.var i) := PE.imp h fun _ _ _ q => var_ok q
theorem k_arg {e : Expr} {c : C} (h : ED X ex W Φ e c) (hv : ∀ i, c = .var i → PE X e (tVar i)) : AD X ex W Φ e c := by
  cases c with
  | var i => exact hv i rfl
  | _ => exact h
/-- a constant that stays -/
theorem k_lit {e : Expr} {v : V} {p : PV} (h : PE X e (tC v)) (r : ∀ Z, Rep X.K Z v p) : ED X ex W Φ e (.lit p) := PE.imp h fun σ H Q ⟨Z, ρ, so, q⟩ => by
  unfold den at q
  exact q.here so v (r Z)
/-! ### operations -/
theorem k_bin {o : Op} {p : Operator} {a b : Expr} {ca cb : C} {pos : Pos} (ho : OpR X (binaryOp p) (rDat2 X.K o)) (ha : AD X ex W Φ a ca) (hb : AD X ex W Φ b cb) : ED X ex W Φ (.BinOp a p b pos) (.op o (.cons ca (.cons cb .nil))) :=
  PE.imp (pe_op ho ha hb) fun σ H Q h => by
    have := op_ok h
    rw [tArgs_cons, tArgs_cons] at this
    exact this
theorem k_un {o : Op} {p : UnaryOp} {a : Expr} {ca : C} {pos : Pos} (ho : UnR X (unaryOp p) (rDat1 X.K o)) (ha : AD X ex W Φ a ca) : ED X ex W Φ (.UnaryOp p a pos) (.op o (.cons ca .nil)) :=
  PE.imp (pe_un ho ha) fun σ H Q h => by
    have := op_ok h
    rw [tArgs_cons] at this
    exact this
theorem k_cmp {o : Op} {p : CmpOp} {a b : Expr} {ca cb : C} {pos : Pos} (ho : OpR X (compareOp p) (rDat2 X.K o)) (ha : AD X ex W Φ a ca) (hb : AD X ex W Φ b cb) (hm : behindInMarks p b = false) : ED X ex W Φ (.Compare a [p] [b] pos) (.op o (.cons ca (.cons cb .nil))) :=
  PE.imp (pe_cmpR ho ha hb hm) fun σ H Q h => by
    have := op_ok h
    rw [tArgs_cons, tArgs_cons] at this
    exact this
theorem k_isN {o : Op} {p : CmpOp} {a : Expr} {ca : C} {j : Nat} {pos pos' : Pos} (ho : OpR X (compareOp p) (fun x y H Q => y = .non ∧ rDat X.K o [x] H Q)) (ha : AD X ex W Φ a ca) : ED X ex W Φ (.Compare a [p] [.Constant .none j pos'] pos) (.op o (.cons ca .nil)) :=
  PE.imp (pe_cmpR ho ha pe_non (by cases p <;> rfl)) fun σ H Q h => by
    have := op_ok h
    rw [tArgs_cons] at this
    refine tA1_mono this fun x H1 q => ⟨rfl, q⟩
where
  tA1_mono {X : Cx} {ex : Nat → Value} {W : WX} {Φ : Fun} {c : C} {σ : L2.St} {H : Hp} {Q Q' : VK} (h : tA1 X.K ex W Φ c σ H Q) (k : ∀ x H1, Q x H1 → Q' x H1) : tA1 X.K ex W Φ c σ H Q' := by
    have gen : tE X.K ex W (den Φ c) σ H Q → tE X.K ex W (den Φ c) σ H Q' := fun ⟨Z, ρ, so, h⟩ => ⟨Z, ρ, so, h.mono fun _ _ _ _ _ _ h u vr => k _ _ (h u vr)⟩
    cases c with
    | var i => obtain ⟨v, e, q⟩ := h; exact ⟨v, e, k _ _ q⟩
    | _ => exact gen h
theorem k_idx {a b : Expr} {ca cb : C} {pos : Pos} (hu : X.A.units + 1 < cLine) (ha : AD X ex W Φ a ca) (hb : AD X ex W Φ b cb) (hs : PlainIx b) : ED X ex W Φ (.Subscript a b pos) (.op .idx (.cons ca (.cons cb .nil))) :=
  PE.imp (pe_ix (u_idx hu) ha hb hs) fun σ H Q h => by
    have := op_ok h
    rw [tArgs_cons, tArgs_cons] at this
    exact this
theorem k_back {e : Expr} {ce : C} {k : Nat} {p1 p2 p3 pos : Pos} (he : AD X ex W Φ e ce) : ED X ex W Φ (.Subscript e (.Slice none none (some (.UnaryOp .USub (.Constant (.int 1) k p1) p2)) p3) pos) (.op .rev (.cons ce .nil)) :=
  PE.imp (pe_back he) fun σ H Q h => by
    have := op_ok h
    rw [tArgs_cons] at this
    exact this
/-! the parts of a slice are ints: so are the data -/
theorem prep_intV {K : PySem.W.Frag} {Z H : Hp} {u : V} {p : PV} {i : Int} (h : PRep K Z H u p) (e : p = .int i) : u = .int i := by subst e; exact prep_int h
theorem dSl_1 {a b : Bool} {p q w : PV} (h : dSl a b [p, q] = some w) : ∃ i, q = .int i := by
  cases a <;> cases b <;> (cases p <;> first | (cases h; done) | (cases q <;> first | (cases h; done) | exact ⟨_, rfl⟩))
theorem dSl_2 {p q r w : PV} (h : dSl true true [p, q, r] = some w) : (∃ i, q = .int i) ∧ ∃ i, r = .int i := by
  cases p <;> first | (cases h; done) | (cases q <;> first | (cases h; done) | (cases r <;> first | (cases h; done) | exact ⟨⟨_, rfl⟩, ⟨_, rfl⟩⟩))
theorem tA1_mono' {K : PySem.W.Frag} {c : C} {σ : L2.St} {H : Hp} {Q Q' : VK} (h : tA1 K ex W Φ c σ H Q) (k : ∀ x H1, Q x H1 → Q' x H1) : tA1 K ex W Φ c σ H Q' := by
  have gen : tE K ex W (den Φ c) σ H Q → tE K ex W (den Φ c) σ H Q' := fun ⟨Z, ρ, so, h⟩ => ⟨Z, ρ, so, h.mono fun _ _ _ _ _ _ h u vr => k _ _ (h u vr)⟩
  cases c with
  | var i => obtain ⟨v, e, q⟩ := h; exact ⟨v, e, k _ _ q⟩
  | _ => exact gen h
theorem k_sl0 {e : Expr} {ce : C} {p2 pos : Pos} (he : AD X ex W Φ e ce) : ED X ex W Φ (.Subscript e (.Slice none none none p2) pos) (.op (.sl false false) (.cons ce .nil)) :=
  PE.imp (pe_slice u_sl he po_none po_none) fun σ H Q h => by
    have := op_ok h
    rw [tArgs_cons] at this
    exact this
theorem k_slL {e a : Expr} {ce ca : C} {p2 pos : Pos} (he : AD X ex W Φ e ce) (ha : AD X ex W Φ a ca) : ED X ex W Φ (.Subscript e (.Slice (some a) none none p2) pos) (.op (.sl true false) (.cons ce (.cons ca .nil))) :=
  PE.imp (pe_slice u_sl he (po_some ha) po_none) fun σ H Q h => by
    have := op_ok h
    rw [tArgs_cons, tArgs_cons] at this
    refine tA1_mono' this fun x H1 q => tA1_mono' q fun y H2 q => ?_
    obtain ⟨Z, vs, w, hz, hp, hd, q⟩ := q
    obtain ⟨p, p', rfl, h1, h2⟩ := prepL_2 hp
    obtain ⟨i, rfl⟩ := dSl_1 (show dSl true false [p, p'] = some w from hd)
    cases prep_int h2
    exact ⟨i, rfl, Z, _, w, hz, hp, hd, q⟩
theorem k_slH {e a : Expr} {ce ca : C} {p2 pos : Pos} (he : AD X ex W Φ e ce) (ha : AD X ex W Φ a ca) : ED X ex W Φ (.Subscript e (.Slice none (some a) none p2) pos) (.op (.sl false true) (.cons ce (.cons ca .nil))) :=
  PE.imp (pe_slice u_sl he po_none (po_some ha)) fun σ H Q h => by
    have := op_ok h
    rw [tArgs_cons, tArgs_cons] at this
    refine tA1_mono' this fun x H1 q => tA1_mono' q fun y H2 q => ?_
    obtain ⟨Z, vs, w, hz, hp, hd, q⟩ := q
    obtain ⟨p, p', rfl, h1, h2⟩ := prepL_2 hp
    obtain ⟨i, rfl⟩ := dSl_1 (show dSl false true [p, p'] = some w from hd)
    cases prep_int h2
    exact ⟨i, rfl, Z, _, w, hz, hp, hd, q⟩
theorem pe_sliceB {r : V → Option Int → Option Int → Hp → VK → Prop} {e a b : Expr} {te ta tb : TE} {p2 pos : Pos} (hr : SlR X r) (he : PE X e te) (ha : PE X a ta) (hb : PE X b tb) :
    PE X (.Subscript e (.Slice (some a) (some b) none p2) pos) (fun σ H Q => te σ H fun x H1 => ta σ H1 fun y H2 => tb σ H2 fun z H3 => ∃ i j, y = .int i ∧ z = .int j ∧ r x (some i) (some j) H3 Q) := by
  refine ⟨fun pins s σ H Q I h => ?_⟩
  refine PyProof.Rows.Subscript_ (thn (he.run pins s σ H _ I h) fun v s1 ⟨x, H1, I1, r1, q1⟩ => ?_)
  refine wpAny_Slice ?_
  rw [evalPart_some]
  refine thn (ha.run pins s1 σ H1 _ I1 q1) fun vl s2 ⟨y, H2, I2, pl, q2⟩ => ?_
  rw [evalPart_some]
  refine thn (hb.run pins s2 σ H2 _ I2 q2) fun vu s3 ⟨z, H3, I3, pu, i, j, ey, ez, q3⟩ => ?_
  subst ey ez
  obtain ⟨t1, rfl⟩ := pl
  obtain ⟨t2, rfl⟩ := pu
  rw [evalPart_none]
  refine wpAny_pure ?_
  have I4 : L2.Inv X pins σ H3 { s3 with heap := s3.heap.push { cls := .type "slice", data := .fields #[.int i t1, .int j t2, .none] } } := I3.kept (t' := s3.toks) fun b ob q => Heap.get?_push_of_some _ q
  obtain ⟨T, id, hT, ht, hg⟩ := hr pins { s3 with heap := s3.heap.push { cls := .type "slice", data := .fields #[.int i t1, .int j t2, .none] } } σ H3 x v (.int i t1) (.int j t2) (some i) (some j) s3.heap.objs.size Q I4 r1 (Heap.IsSliceOf.new ..) (.int i t1) (.int j t2) q3
  show wpAny (model X.prog X.w) X.A (PyProof.Rows.subscriptTail e (.Slice (some a) (some b) none p2) v (.ref s3.heap.objs.size)) (EP X pins σ Q) X.xe _
  exact PyProof.Rows.tail_any (ops := [.ref s3.heap.objs.size, v]) ht hT hg (by with_unfolding_all rfl)
theorem k_slB {e a b : Expr} {ce ca cb : C} {p2 pos : Pos} (he : AD X ex W Φ e ce) (ha : AD X ex W Φ a ca) (hb : AD X ex W Φ b cb) : ED X ex W Φ (.Subscript e (.Slice (some a) (some b) none p2) pos) (.op (.sl true true) (.cons ce (.cons ca (.cons cb .nil)))) :=
  PE.imp (pe_sliceB u_sl he ha hb) fun σ H Q h => by
    have := op_ok h
    rw [tArgs_cons, tArgs_cons, tArgs_cons] at this
    refine tA1_mono' this fun x H1 q => tA1_mono' q fun y H2 q2 => tA1_mono' q2 fun z H3 q3 => ?_
    obtain ⟨Z, vs, w, hz, hp, hd, qq⟩ := q3
    obtain ⟨p, p', p'', rfl, h1, h2, h3⟩ := prepL_3 hp
    obtain ⟨⟨i, rfl⟩, ⟨j, rfl⟩⟩ := dSl_2 (show dSl true true [p, p', p''] = some w from hd)
    cases prep_int h2
    cases prep_int h3
    exact ⟨i, j, rfl, rfl, Z, _, w, hz, hp, hd, qq⟩
/-! ### displays -/
theorem pe_tupN {es : List Expr} {t : TA} {x1 : Nat} {pos : Pos} (h : PA X es t) : PE X (.Tuple es x1 pos) (fun σ H Q => t σ H fun xs H1 => xs.length ≤ sizeLine ∧ ∀ p ob, H1 p = none → Obj.dict ob = none → Q (.ref p) (upd H1 p (.frz ob (.tup xs)))) := by
  refine ⟨fun pins s σ H Q I hq => ?_⟩
  refine wpAny_Tuple_spliced (thn (h.run pos pins s σ H _ I hq) fun us s1 ⟨xs, H1, I1, r, z, q⟩ => ⟨by rw [← r.length]; exact z, ?_⟩)
  exact ⟨.ref s1.heap.objs.size, _, inv_tup (tk := s1.toks) I1 z r, rfl, q _ _ (inv_fresh I1) rfl⟩
theorem k_tup {es : List Expr} {a : CL} {x1 : Nat} {pos : Pos} (h : PA X es (tVals X.K ex W Φ a)) (hl : a.len ≤ 1000) : ED X ex W Φ (.Tuple es x1 pos) (.seq false a) :=
  PE.imp (pe_tupN h) fun σ H Q ⟨Z, ρ, so, q⟩ => by
    unfold den at q
    refine vals_ok a so (q.bind.mono fun vs ρ1 Z1 H1 st so1 q us hu rs => ⟨by rw [hu, sizeLine_eq]; omega, fun p ob hn hd => ?_⟩)
    have g : Grow Z1 H1 (upd Z1 p (.frz ob (.tup us))) (upd H1 p (.frz ob (.tup us))) :=
      ⟨upd_le (zok_none so1.z hn), upd_le hn, fun b e k => by rw [upd_ne (fun z => by subst z; exact k hn)]; exact e, zok_upd2 so1.z hn⟩
    exact q _ _ (Step.grow g) (so1.grow g) _ (.tup (.inl ⟨ob, upd_same .., hd⟩) (rs.mono g.z))
theorem k_lst {es : List Expr} {a : CL} {pos : Pos} (h : PA X es (tVals X.K ex W Φ a)) (hl : a.len ≤ 1000) : ED X ex W Φ (.List es pos) (.seq true a) :=
  PE.imp (pe_lst h) fun σ H Q ⟨Z, ρ, so, q⟩ => by
    unfold den at q
    refine vals_ok a so (q.bind.mono fun vs ρ1 Z1 H1 st so1 q us hu rs => ⟨by rw [hu, sizeLine_eq]; omega, fun p hn => ?_⟩)
    have g : Grow Z1 H1 Z1 (upd H1 p (.lst us)) := ⟨.refl, upd_le hn, fun b e k => e, zok_upd so1.z hn⟩
    refine q _ _ (Step.grow g) (so1.grow g) _ ⟨p, rfl, ⟨zok_none so1.z hn, .inl ⟨us, vs, rfl, upd_same .., rs⟩⟩, fun z => so1.own_h z hn, ?_⟩
    cases e : H p with
    | none => exact .inr rfl
    | some u => exact absurd hn (st.al p (by rw [e]; exact fun z => nomatch z))
theorem k_dict0 {pos : Pos} : ED X ex W Φ (.Dict [] [] pos) (.op .mkDic .nil) :=
  PE.imp pe_dnewK fun σ H Q h => by
    have := op_ok h
    obtain ⟨Z, vs, v, hz, hp, hd, q⟩ := (show rDat X.K .mkDic [] H Q from this)
    cases hp
    cases hd
    exact fun p hn => fin_dic hz q .nil rfl hn
/-! ### argument lists -/
theorem k_a0 : PA X [] (tArgs X.K ex W Φ .nil) := pa_nil
theorem k_a {e : Expr} {es : List Expr} {c : C} {r : CL} (h : AD X ex W Φ e c) (hr : PA X es (tArgs X.K ex W Φ r)) (hs : starEach (e :: es) X.env = (false, eval e X.env) :: starEach es X.env := by rfl) : PA X (e :: es) (tArgs X.K ex W Φ (.cons c r)) := by
  rw [tArgs_cons]
  exact pa_cons h hr hs
theorem k_v0 : PA X [] (tVals X.K ex W Φ .nil) := pa_nil
theorem k_v {e : Expr} {es : List Expr} {c : C} {r : CL} (h : ED X ex W Φ e c) (hr : PA X es (tVals X.K ex W Φ r)) (hs : starEach (e :: es) X.env = (false, eval e X.env) :: starEach es X.env := by rfl) : PA X (e :: es) (tVals X.K ex W Φ (.cons c r)) := pa_cons h hr hs
theorem k_b0 : PA X [] (tLent X.K ex W Φ [] .nil) := pa_nil
theorem k_bt {e : Expr} {es : List Expr} {i : Nat} {bs : List Bool} {r : CL} (h : PE X e (tVar i)) (hr : PA X es (tLent X.K ex W Φ bs r)) (hs : starEach (e :: es) X.env = (false, eval e X.env) :: starEach es X.env := by rfl) : PA X (e :: es) (tLent X.K ex W Φ (true :: bs) (.cons (.var i) r)) := pa_cons h hr hs
theorem k_bf {e : Expr} {es : List Expr} {c : C} {bs : List Bool} {r : CL} (h : ED X ex W Φ e c) (hr : PA X es (tLent X.K ex W Φ bs r)) (hs : starEach (e :: es) X.env = (false, eval e X.env) :: starEach es X.env := by rfl) : PA X (e :: es) (tLent X.K ex W Φ (false :: bs) (.cons c r)) := by
  rw [tLent_f]
  exact pa_cons h hr hs
/-! ### calls of built-in functions -/
variable {x : Str} {p pos : Pos} {e : Expr} {es : List Expr} {id T : String} {o : Op} {a : CL}
theorem k_cB (hc : CallR X (.builtin id) (rCall X.K o)) (hg : Gl X x) (hm : X.mg x = none) (hv : bootBuiltins x = some (.builtin id)) (ha : PA X (e :: es) (tArgs X.K ex W Φ a)) (hn : x ≠ "__name__" := by decide) (hdb : (x == ("__debug__" : Str)) = false := by decide)
    (he : starEach (e :: es) X.env = (false, eval e X.env) :: starEach es X.env := by rfl) (hpl : (backTo pos (starEach es X.env)).any (·.1) = false := by rfl) : ED X ex W Φ (.Call (.Name x p) (e :: es) [] pos) (.op o a) :=
  PE.imp (pe_callB hc hg hm hv ha hn hdb he hpl) fun σ H Q h => op_ok h
theorem k_cT (hc : CallR X (.type T) (rCall X.K o)) (hg : Gl X x) (hm : X.mg x = none) (hv : bootBuiltins x = some (.type T)) (ha : PA X (e :: es) (tArgs X.K ex W Φ a)) (hn : x ≠ "__name__" := by decide) (hdb : (x == ("__debug__" : Str)) = false := by decide)
    (he : starEach (e :: es) X.env = (false, eval e X.env) :: starEach es X.env := by rfl) (hpl : (backTo pos (starEach es X.env)).any (·.1) = false := by rfl) : ED X ex W Φ (.Call (.Name x p) (e :: es) [] pos) (.op o a) :=
  PE.imp (pe_callTy hc hg hm hv ha hn hdb he hpl) fun σ H Q h => op_ok h
theorem k_is {c : C} {y : Str} {p2 : Pos} (hc : CallR X (.builtin "isinstance") (rIs X.K T o)) (hg : Gl X "isinstance") (hm : X.mg "isinstance" = none) (hgy : Gl X y) (hmy : X.mg y = none) (hvy : bootBuiltins y = some (.type T)) (ha : AD X ex W Φ e c)
    (hny : y ≠ "__name__" := by decide) (hdy : (y == ("__debug__" : Str)) = false := by decide)
    (he : starEach [e, .Name y p2] X.env = (false, eval e X.env) :: starEach [.Name y p2] X.env := by rfl) (hpl : (backTo pos (starEach [.Name y p2] X.env)).any (·.1) = false := by rfl) : ED X ex W Φ (.Call (.Name "isinstance" p) [e, .Name y p2] [] pos) (.op o (.cons c .nil)) :=
  PE.imp (pe_callB hc hg hm (by rfl) (pa_cons ha (pa_cons (pe_bltn (v := .ty T) (u := .type T) hgy hmy hvy rfl hny hdy) pa_nil) he) (by decide) (by decide) he hpl) fun σ H Q h => by
    have := op_ok h
    rw [tArgs_cons] at this
    exact tA1_mono' this fun x H1 q => ⟨x, rfl, q⟩
theorem k_get {eo : Expr} {c : C} {id : String} {apos cpos : Pos} (hm : MtR X "dict.get" (fun x us H Q => rDat X.K o (x :: us) H Q)) (ho : AD X ex W Φ eo c) (ha : PA X (e :: es) (tArgs X.K ex W Φ a))
    (hbase : attributeBase eo "get" X.env (eval eo X.env) = eval eo X.env := by rfl)
    (hfew : ((backTo cpos (starEach (e :: es) X.env)).all (fun x => !x.1) && (backToKw cpos (keywordEach [] X.env)).all (fun x => x.1.isSome)
      && decide ((e :: es).length + ([] : List Keyword).length + (if ([] : List Keyword).isEmpty then 0 else 1) < 30)) = true := by rfl)
    (hline : (apos.endLine == cpos.line) = true := by rfl) (hs : starEach (e :: es) X.env = (false, eval e X.env) :: starEach es X.env := by rfl) (hplain : (backTo cpos (starEach es X.env)).any (·.1) = false := by rfl) :
    ED X ex W Φ (.Call (.Attribute eo "get" apos) (e :: es) [] cpos) (.meth o (.cons c .nil) a) := by
  have key : PE X (.Call (.Attribute eo "get" apos) (e :: es) [] cpos) (fun σ H Q => tA1 X.K ex W Φ c σ H fun x H1 => (∃ b, x = .ref b ∧ IsD H1 b) ∧ tArgs X.K ex W Φ a σ H1 fun us H2 => rDat X.K o (x :: us) H2 Q) := by
    refine ⟨fun pins s σ H Q I h => ?_⟩
    refine wpAny_Call_method_late hbase hfew hline rfl (thn (ho.run pins s σ H _ I h) fun v s1 ⟨x, H1, I1, r1, ⟨b, ex, d⟩, q1⟩ => ?_)
    subst ex
    obtain rfl : v = Value.ref b := r1
    obtain ⟨t1, t2, _⟩ := isD_at I1 d
    refine ⟨"dict", "dict.get", PySem.F.plainAttrs_dict, PySem.F.slot_dict_get, PySem.F.type_dict_get, t1, t2, ?_⟩
    have hA := ha.run cpos pins s1 σ H1 _ I1 q1
    rw [hs] at hA ⊢
    refine Calls.callWith_builtin (by show (false || (backTo cpos (starEach es X.env)).any (·.1)) = false; rw [hplain] <;> rfl) (Calls.evalArgs_plain ?_)
    exact thn hA fun us s2 ⟨vs, H2, I2, r2, q2⟩ => hm pins s2 σ H2 (.ref b) vs (.ref b) us Q I2 rfl r2 q2
  refine PE.imp key fun σ H Q ⟨Z, ρ, so, h⟩ => ?_
  unfold den at h
  have h1 := args_ok (R := fun us H1 => ∃ x, us = [x] ∧ (∃ b, x = .ref b ∧ IsD H1 b) ∧ tArgs X.K ex W Φ a σ H1 fun us H2 => rDat X.K o (x :: us) H2 Q) (.cons c .nil) so (h.bind.mono fun as ρ1 Z1 H1 st so1 h1 us _ rs => ?_)
  · rw [tArgs_cons] at h1
    exact tA1_mono' h1 fun x H1 ⟨y, e1, q⟩ => by cases e1; exact q
  · split at h1
    · rename_i w e1
      split at h1
      · rename_i hd
        obtain ⟨x, us', rfl⟩ : ∃ x us', us = x :: us' := by
          have := looked_ok rs so1 e1
          cases this with
          | cons _ _ => exact ⟨_, _, rfl⟩
        have pr := looked_ok rs so1 e1
        obtain rfl : us' = [] := by
          cases pr with
          | cons _ t => cases t; rfl
        refine ⟨x, rfl, ?_, ?_⟩
        · cases w with
          | dic ks vs =>
            cases pr with
            | cons pr _ =>
              obtain ⟨b, kvs, e2, r, _⟩ := prep_dic so1.z pr
              exact ⟨b, e2, .inl ⟨kvs, r⟩⟩
          | _ => cases hd
        · refine args_ok a so1 (h1.bind.mono fun bs ρ2 Z2 H2 st2 so2 h2 us2 _ rs2 => ?_)
          split at h2
          · exact h2.elim
          · rename_i vs e2
            split at h2
            · exact h2.elim
            · rename_i v e3
              have rs' : ArgsRep X.K Z2 σ (x :: us2) (as ++ bs) := by
                cases rs with
                | loc e t => cases t; exact .loc e rs2
                | val e t => cases t; exact .val (e.mono st2.zm) rs2
              refine ⟨Z2, vs, v, so2.z, looked_ok rs' so2 e2, e3, fun Z3 H3 u g ov => ?_⟩
              refine h2 Z3 H3 (Step.grow g) (so2.grow g) u ?_
              exact vals_step st (vals_step st2 (opVal_val so2 ov))
      · exact h1.elim
    · exact h1.elim
end
end Tl
end
section
set_option linter.all false
set_option maxRecDepth 100000
namespace Tl
open PySem PySem.Spec L2
section
variable {X : Cx} {ex : Nat → Value} {W : WX} {Φ : Fun} {K : PySem.W.Frag} {σ : L2.St} {H Z : Hp} {ρ : Env}
theorem vr_bl {O O' : Addr → Prop} {Z' H' : Hp} {u : V} {v : PV × Bool} {b : Bool} (h : ValRep K O H O' Z' H' u v) (e : v.1 = .bl b) : u = .bl b := by
  obtain ⟨w, f⟩ := v
  cases e
  cases f with
  | false => cases (show Rep K Z' u (.bl b) from h); rfl
  | true =>
    obtain ⟨a, _, ⟨_, r⟩, _⟩ := h
    rcases r with ⟨_, _, e, _⟩ | ⟨_, _, _, e, _⟩ <;> cases e
theorem tT_tE {m : Env → M (PV × Bool)} {Q : Bool → Hp → Prop} (h : tT K ex W m σ H Q) : tE K ex W m σ H (fun x H' => ∃ k, x = .bl k ∧ Q k H') := by
  obtain ⟨Z, ρ, so, h⟩ := h
  exact ⟨Z, ρ, so, h.mono fun v ρ1 Z1 H1 st so1 ⟨b, e, q⟩ u vr => ⟨b, vr_bl vr e, q⟩⟩
theorem Out.tE {m : Env → M (PV × Bool)} {Q : VK} (so : StOk K Z ρ σ H) {R : PV × Bool → Env → Hp → Hp → Prop} (h : Out K ex W σ Z H ρ (m ρ) R) (k : ∀ v ρ1 Z1 H1, Step (Own ρ σ) (Own ρ1 σ) Z H Z1 H1 → StOk K Z1 ρ1 σ H1 → R v ρ1 Z1 H1 → ∀ u, ValRep K (Own ρ σ) H (Own ρ1 σ) Z1 H1 u v → Q u H1) : Tl.tE K ex W m σ H Q := ⟨Z, ρ, so, h.mono k⟩
/-! ### a test -/
theorem t_val {e : Expr} {c : C} (h : ED X ex W Φ e c) (he : ∀ whole, isTrue e X.env whole = (do let v ← whole; standAt e.pos; holding [v] (truthy v)) := by intro _; rfl) : TD X ex W Φ e c :=
  PT.imp (pt_val h he) fun σ H Q q => tT_tE q
theorem t_cmp {o : Op} {p : CmpOp} {a b : Expr} {ca cb : C} {pos : Pos} (ho : OpR X (compareOp p) (rDat2 X.K o)) (ha : AD X ex W Φ a ca) (hb : AD X ex W Φ b cb) (hm : behindInMarks p b = false) : TD X ex W Φ (.Compare a [p] [b] pos) (.op o (.cons ca (.cons cb .nil))) :=
  PT.imp (pt_cmpR ho ha hb hm) fun σ H Q q => by
    have := op_ok (tT_tE q)
    rw [tArgs_cons, tArgs_cons] at this
    exact this
theorem t_isN {o : Op} {p : CmpOp} {a : Expr} {ca : C} {j : Nat} {pos pos' : Pos} (ho : OpR X (compareOp p) (fun x y H Q => y = .non ∧ rDat X.K o [x] H Q)) (ha : AD X ex W Φ a ca) : TD X ex W Φ (.Compare a [p] [.Constant .none j pos'] pos) (.op o (.cons ca .nil)) :=
  PT.imp (pt_cmpR ho ha pe_non (by cases p <;> rfl)) fun σ H Q q => by
    have := op_ok (tT_tE q)
    rw [tArgs_cons] at this
    exact tA1_mono' this fun x H1 q => ⟨rfl, q⟩
theorem t_not {a : Expr} {c : C} {pos : Pos} (h : TD X ex W Φ a c) : TD X ex W Φ (.UnaryOp .Not a pos) (.not c) :=
  PT.imp (pt_not h) fun σ H Q ⟨Z, ρ, so, q⟩ => by
    unfold den at q
    refine ⟨Z, ρ, so, q.bind.mono fun v ρ1 Z1 H1 st so1 q => ?_⟩
    split at q
    · rename_i b e
      obtain ⟨b', e', q⟩ := q.here so1
      cases e'
      exact ⟨b, e, q⟩
    · exact q.elim
theorem Out.tT {m : Env → M (PV × Bool)} {Q : Bool → Hp → Prop} (so : StOk K Z ρ σ H) {R : PV × Bool → Env → Hp → Hp → Prop} (h : Out K ex W σ Z H ρ (m ρ) R) (k : ∀ v ρ1 Z1 H1, Step (Own ρ σ) (Own ρ1 σ) Z H Z1 H1 → StOk K Z1 ρ1 σ H1 → R v ρ1 Z1 H1 → ∃ b, v.1 = .bl b ∧ Q b H1) : Tl.tT K ex W m σ H Q := ⟨Z, ρ, so, h.mono k⟩
theorem and_t {a b : C} {Q : Bool → Hp → Prop} (h : tT K ex W (den Φ (.and a b)) σ H Q) : tAnd (tT K ex W (den Φ a)) (tT K ex W (den Φ b)) σ H Q := by
  obtain ⟨Z, ρ, so, q⟩ := h
  unfold den at q
  refine ⟨Z, ρ, so, q.bind.mono fun v ρ1 Z1 H1 st so1 q => ?_⟩
  split at q
  · rename_i e
    exact ⟨true, e, ⟨Z1, ρ1, so1, q⟩⟩
  · rename_i e
    obtain ⟨b', e', q⟩ := q.here so1
    cases e'
    exact ⟨false, e, q⟩
  · exact q.elim
theorem or_t {a b : C} {Q : Bool → Hp → Prop} (h : tT K ex W (den Φ (.or a b)) σ H Q) : tOr (tT K ex W (den Φ a)) (tT K ex W (den Φ b)) σ H Q := by
  obtain ⟨Z, ρ, so, q⟩ := h
  unfold den at q
  refine ⟨Z, ρ, so, q.bind.mono fun v ρ1 Z1 H1 st so1 q => ?_⟩
  split at q
  · rename_i e
    exact ⟨false, e, ⟨Z1, ρ1, so1, q⟩⟩
  · rename_i e
    obtain ⟨b', e', q⟩ := q.here so1
    cases e'
    exact ⟨true, e, q⟩
  · exact q.elim
abbrev WD (X : Cx) (ex : Nat → Value) (W : WX) (Φ : Fun) (e : Expr) (c : C) : Prop := PW X e (tT X.K ex W (den Φ c))
theorem PW.imp {e : Expr} {t t' : TT} (h : PW X e t) (k : ∀ σ H Q, t' σ H Q → t σ H Q) : PW X e t' := ⟨fun w pins s σ H Q I q => h.run w pins s σ H Q I (k σ H Q q)⟩
theorem w_and1 {a : Expr} {c : C} {pos : Pos} (h : TD X ex W Φ a c) : WD X ex W Φ (.BoolOp .And [a] pos) c := pw_and1 h
theorem w_or1 {a : Expr} {c : C} {pos : Pos} (h : TD X ex W Φ a c) : WD X ex W Φ (.BoolOp .Or [a] pos) c := pw_or1 h
theorem w_and {a b : Expr} {rest : List Expr} {ca cb : C} {pos : Pos} (ha : TD X ex W Φ a ca) (hb : WD X ex W Φ (.BoolOp .And (b :: rest) pos) cb) : WD X ex W Φ (.BoolOp .And (a :: b :: rest) pos) (.and ca cb) := PW.imp (pw_and ha hb) fun _ _ _ q => and_t q
theorem w_or {a b : Expr} {rest : List Expr} {ca cb : C} {pos : Pos} (ha : TD X ex W Φ a ca) (hb : WD X ex W Φ (.BoolOp .Or (b :: rest) pos) cb) : WD X ex W Φ (.BoolOp .Or (a :: b :: rest) pos) (.or ca cb) := PW.imp (pw_or ha hb) fun _ _ _ q => or_t q
theorem t_pw {e : Expr} {c : C} (h : WD X ex W Φ e c) : TD X ex W Φ e c := h.pt
/-! ### and, or, not, if as values -/
theorem tE_step {m : Env → M (PV × Bool)} {Q : VK} {O : Addr → Prop} {Z0 H0 : Hp} (st : Step O (Own ρ σ) Z0 H0 Z H) (so : StOk K Z ρ σ H) (h : Out K ex W σ Z H ρ (m ρ) fun v ρ' Z' H' => ∀ u, ValRep K O H0 (Own ρ' σ) Z' H' u v → Q u H') : Tl.tE K ex W m σ H Q :=
  ⟨Z, ρ, so, h.mono fun v ρ1 Z1 H1 st1 so1 q u vr => q u (vals_step st vr)⟩
theorem vr_mk {O O' : Addr → Prop} {Z' H' : Hp} {b : Bool} : ValRep K O H O' Z' H' (.bl b) (.bl b, false) := by
  show Rep K Z' (.bl b) (.bl b)
  exact .bl b
theorem k_not {a : Expr} {c : C} {pos : Pos} (h : ED X ex W Φ a c) : ED X ex W Φ (.UnaryOp .Not a pos) (.not c) :=
  PE.imp (pe_not h) fun σ H Q ⟨Z, ρ, so, q⟩ => by
    unfold den at q
    refine ⟨Z, ρ, so, q.bind.mono fun v ρ1 Z1 H1 st so1 q u vr => ?_⟩
    split at q
    · rename_i b e
      exact ⟨b, vr_bl vr e, q.here so1 _ vr_mk⟩
    · exact q.elim
theorem k_one {op} {a : Expr} {c : C} {pos : Pos} (h : ED X ex W Φ a c) : ED X ex W Φ (.BoolOp op [a] pos) c := pe_one h
theorem k_and {a b : Expr} {rest : List Expr} {ca cb : C} {pos : Pos} (ha : ED X ex W Φ a ca) (hb : ED X ex W Φ (.BoolOp .And (b :: rest) pos) cb) : ED X ex W Φ (.BoolOp .And (a :: b :: rest) pos) (.and ca cb) :=
  PE.imp (pe_and ha hb) fun σ H Q ⟨Z, ρ, so, q⟩ => by
    unfold den at q
    refine ⟨Z, ρ, so, q.bind.mono fun v ρ1 Z1 H1 st so1 q u vr => ?_⟩
    split at q
    · rename_i e
      exact ⟨true, vr_bl vr e, tE_step st so1 q⟩
    · rename_i e
      exact ⟨false, vr_bl vr e, q.here so1 _ vr_mk⟩
    · exact q.elim
theorem k_or {a b : Expr} {rest : List Expr} {ca cb : C} {pos : Pos} (ha : ED X ex W Φ a ca) (hb : ED X ex W Φ (.BoolOp .Or (b :: rest) pos) cb) : ED X ex W Φ (.BoolOp .Or (a :: b :: rest) pos) (.or ca cb) :=
  PE.imp (pe_or ha hb) fun σ H Q ⟨Z, ρ, so, q⟩ => by
    unfold den at q
    refine ⟨Z, ρ, so, q.bind.mono fun v ρ1 Z1 H1 st so1 q u vr => ?_⟩
    split at q
    · rename_i e
      exact ⟨false, vr_bl vr e, tE_step st so1 q⟩
    · rename_i e
      exact ⟨true, vr_bl vr e, q.here so1 _ vr_mk⟩
    · exact q.elim
theorem k_ite {c a b : Expr} {cc ca cb : C} {pos : Pos} (hc : TD X ex W Φ c cc) (ha : ED X ex W Φ a ca) (hb : ED X ex W Φ b cb) : ED X ex W Φ (.IfExp c a b pos) (.ite cc ca cb) :=
  PE.imp (pe_ifExp hc ha hb) fun σ H Q ⟨Z, ρ, so, q⟩ => by
    unfold den at q
    refine ⟨Z, ρ, so, q.bind.mono fun v ρ1 Z1 H1 st so1 q => ?_⟩
    split at q
    · rename_i e
      exact ⟨true, e, tE_step st so1 q⟩
    · rename_i e
      exact ⟨false, e, tE_step st so1 q⟩
    · exact q.elim
/-! ### a < b < c -/
theorem chain_ok {o p : Op} {c1 c2 c3 : C} {Q : VK} (hp : ∀ vs v, opDen p vs = some v → v.isCont = false) (h : tE K ex W (den Φ (.chain o p (.cons c1 (.cons c2 .nil)) (.cons c3 .nil))) σ H Q) :
    tChain (rDat2 K o) (rDat2 K p) (tA1 K ex W Φ c1) (tA1 K ex W Φ c2) (tA1 K ex W Φ c3) σ H Q := by
  obtain ⟨Z, ρ, so, h⟩ := h
  unfold den at h
  have := args_ok (R := fun us H2 => ∃ x y, us = [x, y] ∧ rDat2 K o x y H2 fun z H3 => ∃ k, z = .bl k ∧ (if k = true then tA1 K ex W Φ c3 σ H3 fun w' H4 => rDat2 K p y w' H4 Q else Q (.bl false) H3)) (.cons c1 (.cons c2 .nil)) so (h.bind.mono fun as ρ1 Z1 H1 st so1 h us _ rs => ?_)
  · rw [tArgs_cons, tArgs_cons] at this
    exact tA1_mono' this fun x H1 q => tA1_mono' q fun y H2 ⟨x', y', e, q⟩ => by cases e; exact q
  · split at h
    · rename_i x y e1
      split at h
      · exact h.elim
      · rename_i hy
        have pr := looked_ok rs so1 e1
        have pr0 := pr
        cases pr with
        | @cons u _ _ _ h1 t =>
          cases t with
          | @cons w _ _ _ h2 t =>
            cases t
            have ry : Rep K Z1 w y := prep_sc h2 (by simpa using hy)
            refine ⟨u, w, rfl, Z1, ?_⟩
            split at h
            · rename_i e2
              refine ⟨_, .bl true, so1.z, pr0, e2, fun Z2 H2 z g ov => ?_⟩
              have ez : z = .bl true := by
                unfold OpVal at ov
                have : (o.makes && PV.isCont (.bl true)) = false := by simp [PV.isCont]
                rw [if_neg (by rw [this]; exact Bool.false_ne_true)] at ov
                cases ov; rfl
              refine ⟨true, ez, ?_⟩
              show tA1 K ex W Φ c3 σ H2 fun w' H4 => rDat2 K p w w' H4 Q
              have so2 := so1.grow g
              have h' : Out K ex W σ Z2 H2 ρ1 ((denL Φ (.cons c3 .nil) ρ1).bind fun as2 ρ2 => match looked ρ2 (.inr y :: as2) with
                | some vs => (match opDen p vs with
                  | some v => some (.val (v, false), ρ2)
                  | none => none)
                | none => none) fun v ρ' Z' H' => ∀ u, ValRep K (Own ρ σ) H (Own ρ' σ) Z' H' u v → Q u H' := by
                revert h
                generalize ((denL Φ (.cons c3 .nil) ρ1).bind _) = r
                intro h
                match r, h with
                | some (.val v, ρ'), h => exact fun Z3 H3 st3 so3 => h Z3 H3 (Step.trans (Step.grow g) st3) so3
                | some (.exn x, ρ'), h => exact fun Z3 H3 st3 so3 => h Z3 H3 (Step.trans (Step.grow g) st3) so3
              have := args_ok (R := fun us H4 => ∃ w', us = [w'] ∧ rDat2 K p w w' H4 Q) (.cons c3 .nil) so2 (h'.bind.mono fun as2 ρ2 Z3 H3 st3 so3 h us2 hl2 rs2 => ?_)
              · rw [tArgs_cons] at this
                exact tA1_mono' this fun x H1 ⟨x', e, q⟩ => by cases e; exact q
              · split at h
                · rename_i vs e3
                  split at h
                  · rename_i v e4
                    have rs3 : ArgsRep K Z3 σ (w :: us2) (.inr y :: as2) := .val ((ry.mono g.z).mono st3.zm) rs2
                    have pr2 := looked_ok rs3 so3 e3
                    obtain ⟨w', rfl⟩ : ∃ w', us2 = [w'] := by
                      match us2, hl2 with
                      | [w'], _ => exact ⟨w', rfl⟩
                    refine ⟨w', rfl, Z3, vs, v, so3.z, pr2, e4, fun Z4 H4 z2 g2 ov2 => ?_⟩
                    refine h Z4 H4 (Step.grow g2) (so3.grow g2) z2 ?_
                    have e0 : (p.makes && v.isCont) = false := by rw [hp _ _ e4, Bool.and_false]
                    have := opVal_val (ρ := ρ2) (σ := σ) so3 ov2
                    rw [e0] at this
                    exact this
                  · exact h.elim
                · exact h.elim
            · rename_i e2
              refine ⟨_, .bl false, so1.z, pr0, e2, fun Z2 H2 z g ov => ?_⟩
              have ez : z = .bl false := by
                unfold OpVal at ov
                have : (o.makes && PV.isCont (.bl false)) = false := by simp [PV.isCont]
                rw [if_neg (by rw [this]; exact Bool.false_ne_true)] at ov
                cases ov; rfl
              exact ⟨false, ez, h Z2 H2 (Step.grow g) (so1.grow g) _ vr_mk⟩
            · exact h.elim
    · exact h.elim
theorem k_chain {o p : Op} {op op' : CmpOp} {a b c : Expr} {c1 c2 c3 : C} {pos : Pos} (ho : OpR X (compareOp op) (rDat2 X.K o)) (ho' : OpR X (compareOp op') (rDat2 X.K p)) (hp : ∀ vs v, opDen p vs = some v → v.isCont = false) (ha : AD X ex W Φ a c1) (hb : AD X ex W Φ b c2) (hc : AD X ex W Φ c c3)
    (hm : lastMarks [op, op'] [b, c] = false := by with_unfolding_all rfl) : ED X ex W Φ (.Compare a [op, op'] [b, c] pos) (.chain o p (.cons c1 (.cons c2 .nil)) (.cons c3 .nil)) :=
  PE.imp (pe_chain ho ho' ha hb hc hm) fun _ _ _ q => chain_ok hp q
theorem t_chain {o p : Op} {op op' : CmpOp} {a b c : Expr} {c1 c2 c3 : C} {pos : Pos} (ho : OpR X (compareOp op) (rDat2 X.K o)) (ho' : OpR X (compareOp op') (rDat2 X.K p)) (hp : ∀ vs v, opDen p vs = some v → v.isCont = false) (ha : AD X ex W Φ a c1) (hb : AD X ex W Φ b c2) (hc : AD X ex W Φ c c3)
    (hm : lastMarks [op, op'] [b, c] = false := by with_unfolding_all rfl) : TD X ex W Φ (.Compare a [op, op'] [b, c] pos) (.chain o p (.cons c1 (.cons c2 .nil)) (.cons c3 .nil)) :=
  PT.imp (pt_chain ho ho' ha hb hc hm) fun _ _ _ q => chain_ok hp (tT_tE q)
theorem nc_lt : ∀ vs v, opDen .lt vs = some v → v.isCont = false := fun vs v h => by
  change dLt vs = some v at h
  unfold dLt at h
  split at h <;> cases h <;> rfl
theorem nc_le : ∀ vs v, opDen .le vs = some v → v.isCont = false := fun vs v h => by
  change dLe vs = some v at h
  unfold dLe at h
  split at h <;> cases h <;> rfl
end
end Tl
end
section
set_option linter.all false
set_option maxRecDepth 100000
namespace Tl
open PySem PySem.Spec L2
/-! ### what a def promises -/
/-- arguments: the lent ones are lists of the caller's own -/
inductive LRep (K : PySem.W.Frag) (Z H : Hp) : List Bool → List V → List PV → List Addr → Prop
  | nil : LRep K Z H [] [] [] []
  | t {bs : List Bool} {us : List V} {vs : List PV} {as : List Addr} {a : Addr} {v : PV} : OwnRep K Z H a v → LRep K Z H bs us vs as → LRep K Z H (true :: bs) (.ref a :: us) (v :: vs) (a :: as)
  | f {bs : List Bool} {us : List V} {vs : List PV} {as : List Addr} {u : V} {v : PV} : Rep K Z u v → LRep K Z H bs us vs as → LRep K Z H (false :: bs) (u :: us) (v :: vs) as
inductive OwnAll (K : PySem.W.Frag) (Z H : Hp) : List Addr → List PV → Prop
  | nil : OwnAll K Z H [] []
  | cons {a : Addr} {v : PV} {as : List Addr} {vs : List PV} : OwnRep K Z H a v → OwnAll K Z H as vs → OwnAll K Z H (a :: as) (v :: vs)
def spD (K : PySem.W.Frag) (ex : Nat → Value) (m : List PV → Option (Res (PV × Bool) × List PV)) (bs : List Bool) : Sp := fun us H Q E =>
  ∃ Z vs as r ws, ZOk Z H ∧ LRep K Z H bs us vs as ∧ as.Nodup ∧ m vs = some (r, ws) ∧ ∀ Z' H', Step (· ∈ as) (· ∈ as) Z H Z' H' → ZOk Z' H' → OwnAll K Z' H' as ws →
    match r with
    | .val v => ∀ u, ValRep K (· ∈ as) H (· ∈ as) Z' H' u v → Q u H'
    | .exn x => E (ex x) none H'
section
variable {K : PySem.W.Frag} {ex : Nat → Value} {W : WX} {σ : L2.St} {Z H : Hp} {ρ : Env} {Φ : Fun}
theorem LRep.len {bs : List Bool} {us : List V} {vs : List PV} {as : List Addr} (h : LRep K Z H bs us vs as) : us.length = bs.length ∧ vs.length = bs.length := by
  induction h with
  | nil => exact ⟨rfl, rfl⟩
  | t _ _ ih => simp [ih.1, ih.2]
  | f _ _ ih => simp [ih.1, ih.2]
theorem spD_len {m : List PV → Option (Res (PV × Bool) × List PV)} {bs : List Bool} {us : List V} {Q : VK} {E : XK} (h : spD K ex m bs us H Q E) : us.length = bs.length := by
  obtain ⟨Z, vs, as, r, ws, hz, hr, _⟩ := h
  exact hr.len.1
/-! ### the caller -/
/-- places and addresses -/
inductive Plc (ρ : Env) (σ : L2.St) : List Nat → List Addr → Prop
  | nil : Plc ρ σ [] []
  | cons {i : Nat} {a : Addr} {is : List Nat} {as : List Addr} : (∃ p, ρ[i]? = some (some (true, p))) → σ[i]? = some (some (V.ref a)) → Plc ρ σ is as → Plc ρ σ (i :: is) (a :: as)
theorem lent_rep (so : StOk K Z ρ σ H) : ∀ {bs : List Bool} {as : List Arg} {us : List V} {vs : List PV}, isLent bs as → ArgsRep K Z σ us as → lent ρ as = some vs →
    ∃ ads, LRep K Z H bs us vs ads ∧ Plc ρ σ (places as) ads
  | [], [], _, _, _, .nil, e => by cases e; exact ⟨[], .nil, .nil⟩
  | true :: bs, .inl i :: as, _, _, il, .loc e r, h => by
    unfold lent at h
    split at h
    · rename_i v ws e1 e2
      cases h
      obtain ⟨ads, h1, h2⟩ := lent_rep so (bs := bs) il r e2
      obtain ⟨a, e3, e4⟩ := so.ow i v e1
      rw [e] at e3; cases e3
      exact ⟨a :: ads, .t e4 h1, .cons ⟨v, e1⟩ e h2⟩
    · cases h
  | false :: bs, .inr v :: as, _, _, il, .val e r, h => by
    unfold lent at h
    obtain ⟨ws, e2, rfl⟩ := Option.map_eq_some_iff.mp h
    obtain ⟨ads, h1, h2⟩ := lent_rep so (bs := bs) il r e2
    exact ⟨ads, .f e h1, h2⟩
theorem Plc.own {is : List Nat} {as : List Addr} (h : Plc ρ σ is as) : ∀ a ∈ as, Own ρ σ a := by
  induction h with
  | nil => intro a h; cases h
  | cons hp hs _ ih =>
    intro a h
    rcases List.mem_cons.mp h with rfl | h
    · obtain ⟨p, e⟩ := hp; exact ⟨_, p, e, hs⟩
    · exact ih a h
theorem Plc.at {is : List Nat} {as : List Addr} (h : Plc ρ σ is as) : ∀ a ∈ as, ∃ i ∈ is, σ[i]? = some (some (V.ref a)) ∧ ∃ p, ρ[i]? = some (some (true, p)) := by
  induction h with
  | nil => intro a h; cases h
  | @cons i _ _ _ hp hs _ ih =>
    intro a h
    rcases List.mem_cons.mp h with rfl | h
    · exact ⟨i, by simp, hs, hp⟩
    · obtain ⟨j, h1, h2⟩ := ih a h; exact ⟨j, by simp [h1], h2⟩
theorem nodupB_iff : ∀ {is : List Nat}, nodupB is = true → is.Nodup
  | [], _ => .nil
  | i :: r, h => by
    unfold nodupB at h
    rw [Bool.and_eq_true] at h
    refine List.nodup_cons.mpr ⟨fun z => ?_, nodupB_iff h.2⟩
    have : r.contains i = true := List.contains_iff_mem.mpr z
    rw [this] at h
    exact absurd h.1 (by simp)
theorem Plc.nodup (so : StOk K Z ρ σ H) {is : List Nat} {as : List Addr} (h : Plc ρ σ is as) (hn : is.Nodup) : as.Nodup := by
  induction h with
  | nil => exact .nil
  | @cons i a is as hp hs r ih =>
    rw [List.nodup_cons] at hn
    refine List.nodup_cons.mpr ⟨fun z => hn.1 ?_, ih hn.2⟩
    obtain ⟨j, h1, h2, q, h3⟩ := r.at a z
    obtain ⟨p, e⟩ := hp
    rw [so.inj i j p q a e h3 hs h2]
    exact h1
/-- what was lent is put back -/
theorem back_ok {Z1 H1 : Hp} (st : Step (Own ρ σ) (Own ρ σ) Z H Z1 H1) (hz : ZOk Z1 H1) : ∀ {is : List Nat} {ws : List PV} {as : List Addr} {ρ1 ρ2 : Env}, back ρ1 is ws = some ρ2 → Plc ρ1 σ is as → OwnAll K Z1 H1 as ws → is.Nodup →
    ρ1.length = σ.length →
    (∀ (i : Nat) (p : PV), ρ1[i]? = some (some (false, p)) → ∃ v, σ[i]? = some (some v) ∧ Rep K Z1 v p) →
    (∀ (i : Nat) (p : PV), i ∉ is → ρ1[i]? = some (some (true, p)) → ∃ a, σ[i]? = some (some (V.ref a)) ∧ OwnRep K Z1 H1 a p) →
    (∀ (i j : Nat) (p q : PV) (a : Addr), ρ1[i]? = some (some (true, p)) → ρ1[j]? = some (some (true, q)) → σ[i]? = some (some (V.ref a)) → σ[j]? = some (some (V.ref a)) → i = j) →
    StOk K Z1 ρ2 σ H1 ∧ (∀ a, Own ρ2 σ a → Own ρ1 σ a)
  | [], [], _, ρ1, _, e, _, .nil, _, l, sh, ow, inj => by
    cases e
    exact ⟨⟨hz, l, sh, fun i p => ow i p (by simp), inj⟩, fun a h => h⟩
  | [], _ :: _, _, _, _, e, _, _, _, _, _, _, _ => by cases e
  | _ :: _, [], _, _, _, e, _, _, _, _, _, _, _ => by cases e
  | i :: is, w :: ws, _, ρ1, ρ2, e, .cons ⟨p0, hp⟩ hs r, .cons o os, hn, l, sh, ow, inj => by
    rw [List.nodup_cons] at hn
    unfold back at e
    have hi : i < ρ1.length := (List.getElem?_eq_some_iff.mp hp).1
    have low : ∀ (j : Nat) (q : PV), (ρ1.set i (some (true, w)))[j]? = some (some (true, q)) → ∃ q', ρ1[j]? = some (some (true, q')) := fun j q h => by
      by_cases hj : i = j
      · subst hj; exact ⟨p0, hp⟩
      · rw [List.getElem?_set_ne hj] at h; exact ⟨q, h⟩
    have plc : ∀ {is : List Nat} {as : List Addr}, Plc ρ1 σ is as → Plc (ρ1.set i (some (true, w))) σ is as := fun h => by
      induction h with
      | nil => exact .nil
      | @cons j _ _ _ hp' hs' _ ih =>
        refine .cons ?_ hs' ih
        by_cases hj : i = j
        · subst hj; exact ⟨w, List.getElem?_set_self hi⟩
        · rw [List.getElem?_set_ne hj]; exact hp'
    obtain ⟨h1, h2⟩ := back_ok st hz e (plc r) os hn.2 (by rw [List.length_set]; exact l) (fun j q h => by
      by_cases hj : i = j
      · subst hj; rw [List.getElem?_set_self hi] at h; cases h
      · rw [List.getElem?_set_ne hj] at h; exact sh j q h) (fun j q hm h => by
      by_cases hj : i = j
      · subst hj; rw [List.getElem?_set_self hi] at h; cases h; exact ⟨_, hs, o⟩
      · rw [List.getElem?_set_ne hj] at h; exact ow j q (fun z => by rcases List.mem_cons.mp z with z | z; exact hj z.symm; exact hm z) h) (fun j k q q' a e1 e2 e3 e4 => by
      obtain ⟨_, f1⟩ := low j q e1
      obtain ⟨_, f2⟩ := low k q' e2
      exact inj j k _ _ a f1 f2 e3 e4)
    refine ⟨h1, fun a h => ?_⟩
    obtain ⟨j, q, h3, h4⟩ := h2 a h
    obtain ⟨q', h5⟩ := low j q h3
    exact ⟨j, q', h5, h4⟩
theorem call_ok {f : Nat} {bs : List Bool} {a : CL} {Q : VK} (h : tE K ex W (den Φ (.call f bs a)) σ H Q) : tLent K ex W Φ bs a σ H fun us H1 => spD K ex (Φ f) bs us H1 Q (WE W σ) := by
  obtain ⟨Z, ρ, so, h⟩ := h
  unfold den at h
  refine lent_ok bs a so (h.bind.mono fun as ρ1 Z1 H1 st so1 h1 il us rs => ?_)
  split at h1
  · exact h1.elim
  · rename_i vs e1
    split at h1
    · rename_i hn
      split at h1
      · exact h1.elim
      · rename_i r ws e2
        split at h1
        · exact h1.elim
        · rename_i ρ2 e3
          obtain ⟨ads, lr, pl⟩ := lent_rep so1 il rs e1
          refine ⟨Z1, vs, ads, r, ws, so1.z, lr, pl.nodup so1 (nodupB_iff hn), e2, fun Z2 H2 st2 hz2 oa => ?_⟩
          have st3 : Step (Own ρ1 σ) (Own ρ1 σ) Z1 H1 Z2 H2 := st2.imp pl.own fun a h => .inr h
          obtain ⟨so2, hO⟩ := back_ok st3 hz2 e3 pl oa (nodupB_iff hn) so1.len (fun i p e => by
            obtain ⟨v, g1, g2⟩ := so1.sh i p e
            exact ⟨v, g1, g2.mono st2.zm⟩) (fun i p hm e => by
            obtain ⟨b, g1, g2⟩ := so1.ow i p e
            have nb : b ∉ ads := fun z => by
              obtain ⟨j, hj, k1, q, k2⟩ := pl.at b z
              rw [so1.inj i j p q b e k2 g1 k1] at hm
              exact hm hj
            exact ⟨b, g1, g2.move st2.zm (st2.zn b g2.1 g2.h nb) fun u hu => st2.fr b u hu nb⟩) so1.inj
          have st4 : Step (Own ρ1 σ) (Own ρ2 σ) Z1 H1 Z2 H2 := st3.imp (fun _ h => h) fun a h => .inr (hO a h)
          have hf : ∀ a ∉ ads, H1 a = none → ¬ Own ρ2 σ a := fun a _ e z => so1.own_h (hO a z) e
          cases r with
          | val v =>
            intro u vr
            refine h1 Z2 H2 st4 so2 u (vals_step st ?_)
            unfold ValRep at vr ⊢
            split
            · rename_i hv
              rw [if_pos hv] at vr
              obtain ⟨b, g1, g2, g3, g4⟩ := vr
              have g4 := g4.resolve_left g3
              exact ⟨b, g1, g2, hf b g3 g4, .inr g4⟩
            · rename_i hv
              rw [if_neg hv] at vr
              exact vr
          | exn x => exact h1 Z2 H2 st4 so2
    · exact h1.elim
end
section
variable {X : Cx} {ex : Nat → Value} {W : WX} {Φ : Fun} {k f i : Nat} {fa : Addr} {fd : FuncData} {ps : List Str} {x : Str} {p pos : Pos} {e : Expr} {es : List Expr} {bs : List Bool} {a : CL}
theorem k_call (F : FnOk X.prog X.w X.K X.mg X.base (L2.CX X.prog X.w) k fa fd ps (spD X.K ex (Φ f) bs)) (hr : Room k X.A) (hm : X.mg x = some (.ref fa)) (hk : PySem.W.keepIn X.K (.ref fa) = true) (hb : Binds X.K fd ps []) (tk : Takes X W) (hg : Gl X x)
    (ha : PA X (e :: es) (tLent X.K ex W Φ bs a)) (hdb : (x == ("__debug__" : Str)) = false := by decide) (he : starEach (e :: es) X.env = (false, eval e X.env) :: starEach es X.env := by rfl) (hpl : (backTo pos (starEach es X.env)).any (·.1) = false := by rfl) :
    ED X ex W Φ (.Call (.Name x p) (e :: es) [] pos) (.call f bs a) :=
  PE.imp (pe_callS F hr hg hm hk hb (fun σ => passAt tk σ) ha hdb he hpl) fun σ H Q q => call_ok q
end
end Tl
end
section
set_option linter.all false
set_option maxRecDepth 100000
namespace Tl
open PySem PySem.Spec L2
def Same (fx : List Nat) (σ σ' : L2.St) : Prop := ∀ i ∈ fx, σ'[i]? = σ[i]?
def FlOk (K : PySem.W.Frag) (O : Addr → Prop) (H : Hp) (O' : Addr → Prop) (D : Ends) (f : Fl) (σ' : L2.St) (Z' H' : Hp) : Prop := match f with
  | .nx => D.nx σ' H'
  | .bk => D.bk σ' H'
  | .ct => D.ct σ' H'
  | .rt v b => ∀ u, ValRep K O H O' Z' H' u (v, b) → D.rt u H'
def OutS (K : PySem.W.Frag) (ex : Nat → Value) (W : WX) (fx : List Nat) (D : Ends) (σ : L2.St) (Z H : Hp) (ρ : Env) (r : M Fl) : Prop := match r with
  | none => False
  | some (.val f, ρ') => ∀ σ' Z' H', Step (Own ρ σ) (Own ρ' σ') Z H Z' H' → StOk K Z' ρ' σ' H' → Same fx σ σ' → FlOk K (Own ρ σ) H (Own ρ' σ') D f σ' Z' H'
  | some (.exn x, ρ') => ∀ σ' Z' H', Step (Own ρ σ) (Own ρ' σ') Z H Z' H' → StOk K Z' ρ' σ' H' → Same fx σ σ' → W (ex x) none σ' H'
def tS (K : PySem.W.Frag) (ex : Nat → Value) (W : WX) (fx : List Nat) (m : Env → M Fl) : TS := fun D σ H => ∃ Z ρ, StOk K Z ρ σ H ∧ OutS K ex W fx D σ Z H ρ (m ρ)
section
variable {K : PySem.W.Frag} {ex : Nat → Value} {W : WX} {fx : List Nat} {D : Ends} {σ σ1 : L2.St} {Z H Z1 H1 : Hp} {ρ ρ1 : Env} {Φ : Fun} {α : Type}
theorem Same.refl : Same fx σ σ := fun _ _ => rfl
theorem Same.trans {σ2 : L2.St} (h : Same fx σ σ1) (h' : Same fx σ1 σ2) : Same fx σ σ2 := fun i hi => (h' i hi).trans (h i hi)
theorem OutS.rebase {r : M Fl} (h : OutS K ex W fx D σ Z H ρ r) (st : Step (Own ρ σ) (Own ρ1 σ1) Z H Z1 H1) (sm : Same fx σ σ1) : OutS K ex W fx D σ1 Z1 H1 ρ1 r := by
  match r, h with
  | some (.val f, ρ'), h =>
    intro σ' Z' H' st' so' sm'
    have := h σ' Z' H' (st.trans st') so' (sm.trans sm')
    cases f with
    | nx => exact this
    | bk => exact this
    | ct => exact this
    | rt v b => exact fun u vr => this u (vals_step st vr)
  | some (.exn x, ρ'), h => exact fun σ' Z' H' st' so' sm' => h σ' Z' H' (st.trans st') so' (sm.trans sm')
theorem OutS.bindE {m : M α} {f : α → Env → M Fl} (h : OutS K ex W fx D σ Z H ρ (m.bind f)) : Out K ex W σ Z H ρ m fun v ρ1 Z1 H1 => OutS K ex W fx D σ Z1 H1 ρ1 (f v ρ1) := by
  match m, h with
  | none, h => exact h
  | some (.exn x, ρ'), h => exact fun Z' H' st so => h σ Z' H' st so .refl
  | some (.val a, ρ'), h => exact fun Z' H' st so => OutS.rebase h st .refl
theorem OutS.bind0 {m : M α} {f : α → Env → M Fl} (h : OutS K ex W fx D σ Z H ρ (m.bind f)) : Out K ex W σ Z H ρ m fun v ρ1 Z1 H1 => OutS K ex W fx D σ Z H ρ (f v ρ1) := by
  match m, h with
  | none, h => exact h
  | some (.exn x, ρ'), h => exact fun Z' H' st so => h σ Z' H' st so .refl
  | some (.val a, ρ'), h => exact fun Z' H' st so => h
/-- at once -/
theorem OutS.here {f : Fl} (h : OutS K ex W fx D σ Z H ρ (some (.val f, ρ))) (so : StOk K Z ρ σ H) : FlOk K (Own ρ σ) H (Own ρ σ) D f σ Z H := h σ Z H .refl so .refl
theorem OutS.mono {r : M Fl} {D' : Ends} (h : OutS K ex W fx D σ Z H ρ r)
    (k : ∀ f ρ1 σ1 Z1 H1, r = some (.val f, ρ1) → Step (Own ρ σ) (Own ρ1 σ1) Z H Z1 H1 → StOk K Z1 ρ1 σ1 H1 → Same fx σ σ1 → FlOk K (Own ρ σ) H (Own ρ1 σ1) D f σ1 Z1 H1 → FlOk K (Own ρ σ) H (Own ρ1 σ1) D' f σ1 Z1 H1) : OutS K ex W fx D' σ Z H ρ r := by
  match r, h, k with
  | some (.val f, ρ'), h, k => exact fun σ' Z' H' st so sm => k f ρ' σ' Z' H' rfl st so sm (h σ' Z' H' st so sm)
  | some (.exn x, ρ'), h, _ => exact h
theorem OutS.bind {m : M Fl} {f : Fl → Env → M Fl} {D' : Ends} (h : OutS K ex W fx D σ Z H ρ (m.bind f))
    (k : ∀ g ρ1 σ1 Z1 H1, Step (Own ρ σ) (Own ρ1 σ1) Z H Z1 H1 → StOk K Z1 ρ1 σ1 H1 → Same fx σ σ1 → OutS K ex W fx D σ1 Z1 H1 ρ1 (f g ρ1) → (∀ r, f g ρ1 = some (.val r, ρ1) → FlOk K (Own ρ σ) H (Own ρ1 σ1) D r σ1 Z1 H1) → FlOk K (Own ρ σ) H (Own ρ1 σ1) D' g σ1 Z1 H1) : OutS K ex W fx D' σ Z H ρ m := by
  match m, h with
  | none, h => exact h
  | some (.exn x, ρ'), h => exact h
  | some (.val a, ρ'), h =>
    intro σ' Z' H' st so sm
    refine k a ρ' σ' Z' H' st so sm (OutS.rebase h st sm) fun r e => ?_
    have h : OutS K ex W fx D σ Z H ρ (f a ρ') := h
    rw [e] at h
    exact h σ' Z' H' st so sm
/-! ### blocks -/
theorem seq_ok {a b : S} {H : Hp} (h : tS K ex W fx (exe Φ fx (.seq a b)) D σ H) : tSeq (tS K ex W fx (exe Φ fx a)) (tS K ex W fx (exe Φ fx b)) D σ H := by
  obtain ⟨Z, ρ, so, h⟩ := h
  unfold exe at h
  refine ⟨Z, ρ, so, OutS.bind h fun g ρ1 σ1 Z1 H1 st1 so1 sm1 h1 h2 => ?_⟩
  cases g with
  | nx => exact ⟨Z1, ρ1, so1, h1⟩
  | bk => exact h2 _ rfl
  | ct => exact h2 _ rfl
  | rt v b => exact h2 _ rfl
theorem ifS_ok {c : C} {a b : S} {H : Hp} (h : tS K ex W fx (exe Φ fx (.ite c a b)) D σ H) : tIfS (tT K ex W (den Φ c)) (tS K ex W fx (exe Φ fx a)) (tS K ex W fx (exe Φ fx b)) D σ H := by
  obtain ⟨Z, ρ, so, h⟩ := h
  unfold exe at h
  refine ⟨Z, ρ, so, (OutS.bindE h).mono fun v ρ1 Z1 H1 st1 so1 h1 => ?_⟩
  split at h1
  · rename_i e
    exact ⟨true, e, ⟨Z1, ρ1, so1, h1⟩⟩
  · rename_i e
    exact ⟨false, e, ⟨Z1, ρ1, so1, h1⟩⟩
  · exact h1.elim
/-! ### a name -/
theorem vr_flag {O O' : Addr → Prop} {H' Z' : Hp} {u : V} {w : PV} {f : Bool} (h : ValRep K O H O' Z' H' u (w, f)) : (f = false ∧ Rep K Z' u w) ∨ (f = true ∧ ∃ a, u = .ref a ∧ OwnRep K Z' H' a w ∧ ¬ O' a ∧ (O a ∨ H a = none)) := by
  unfold ValRep at h
  cases f with
  | false => exact .inl ⟨rfl, h⟩
  | true => exact .inr ⟨rfl, h⟩
theorem StOk.put {O : Addr → Prop} {H0 Z0 : Hp} {u : V} {w : PV} {f : Bool} {i : Nat} (so : StOk K Z ρ σ H) (st : Step O (Own ρ σ) Z0 H0 Z H) (vr : ValRep K O H0 (Own ρ σ) Z H u (w, f)) (hi : i < ρ.length) :
    StOk K Z (ρ.set i (some (f, w))) (σ.set i (some u)) H ∧ Step O (Own (ρ.set i (some (f, w))) (σ.set i (some u))) Z0 H0 Z H := by
  have hs : i < σ.length := by rw [← so.len]; exact hi
  have own : ∀ j q a, (ρ.set i (some (f, w)))[j]? = some (some (true, q)) → (σ.set i (some u))[j]? = some (some (V.ref a)) →
      (i ≠ j ∧ ρ[j]? = some (some (true, q)) ∧ σ[j]? = some (some (V.ref a))) ∨ (i = j ∧ f = true ∧ q = w ∧ u = .ref a) := fun j q a e1 e2 => by
    by_cases hj : i = j
    · subst hj
      rw [List.getElem?_set_self hi] at e1
      rw [List.getElem?_set_self hs] at e2
      cases e1; cases e2
      exact .inr ⟨rfl, rfl, rfl, rfl⟩
    · rw [List.getElem?_set_ne hj] at e1 e2
      exact .inl ⟨hj, e1, e2⟩
  refine ⟨⟨so.z, by rw [List.length_set, List.length_set]; exact so.len, fun j p e => ?_, fun j p e => ?_, fun j k q q' a e1 e2 e3 e4 => ?_⟩, ⟨st.fr, st.zm, st.zn, fun a ⟨j, q, e1, e2⟩ => ?_, st.al⟩⟩
  · by_cases hj : i = j
    · subst hj
      rw [List.getElem?_set_self hi] at e
      cases e
      rw [List.getElem?_set_self hs]
      rcases vr_flag vr with ⟨_, r⟩ | ⟨z, _⟩
      · exact ⟨u, rfl, r⟩
      · cases z
    · rw [List.getElem?_set_ne hj] at e ⊢
      exact so.sh j p e
  · by_cases hj : i = j
    · subst hj
      rw [List.getElem?_set_self hi] at e
      cases e
      rw [List.getElem?_set_self hs]
      rcases vr_flag vr with ⟨z, _⟩ | ⟨_, a, e1, r, _⟩
      · cases z
      · exact ⟨a, by rw [e1], r⟩
    · rw [List.getElem?_set_ne hj] at e ⊢
      exact so.ow j p e
  · rcases own j q a e1 e3 with ⟨h1, h2, h3⟩ | ⟨h1, h2, h3, h4⟩ <;> rcases own k q' a e2 e4 with ⟨g1, g2, g3⟩ | ⟨g1, g2, g3, g4⟩
    · exact so.inj j k q q' a h2 g2 h3 g3
    · rcases vr_flag vr with ⟨z, _⟩ | ⟨_, b, e5, r, no, _⟩
      · rw [g2] at z; cases z
      · rw [g4] at e5; cases e5
        exact absurd ⟨j, q, h2, h3⟩ no
    · rcases vr_flag vr with ⟨z, _⟩ | ⟨_, b, e5, r, no, _⟩
      · rw [h2] at z; cases z
      · rw [h4] at e5; cases e5
        exact absurd ⟨k, q', g2, g3⟩ no
    · rw [← h1, ← g1]
  · rcases own j q a e1 e2 with ⟨h1, h2, h3⟩ | ⟨h1, h2, h3, h4⟩
    · exact st.on a ⟨j, q, h2, h3⟩
    · rcases vr_flag vr with ⟨z, _⟩ | ⟨_, b, e5, r, no, q⟩
      · rw [h2] at z; cases z
      · rw [h4] at e5; cases e5
        exact q
theorem same_set {i : Nat} {u : V} (h : fx.contains i = false) : Same fx σ (σ.set i (some u)) := fun j hj => by
  have : i ≠ j := fun z => by
    subst z
    rw [List.contains_iff_mem.mpr hj] at h
    cases h
  exact List.getElem?_set_ne this
theorem noneIn_1 {i : Nat} (h : noneIn fx [i] = true) : fx.contains i = false := by
  unfold noneIn at h
  simpa using h
theorem set_ok {i : Nat} {c : C} {H : Hp} (h : tS K ex W fx (exe Φ fx (.set i c)) D σ H) : tAsg (tE K ex W (den Φ c)) (gName i) D σ H := by
  obtain ⟨Z, ρ, so, h⟩ := h
  unfold exe at h
  refine ⟨Z, ρ, so, (OutS.bind0 h).mono fun v ρ1 Z1 H1 st1 so1 h1 u vr => ?_⟩
  split at h1
  · rename_i hc
    rw [Bool.and_eq_true] at hc
    obtain ⟨so2, st2⟩ := StOk.put (f := v.2) (w := v.1) so1 st1 vr (of_decide_eq_true hc.2)
    exact h1 _ Z1 H1 st2 so2 (same_set (noneIn_1 hc.1))
  · exact h1.elim
/-! ### several names -/
def gNames : List Nat → TGs
  | [] => gNil
  | i :: is => gCons (gName i) (gNames is)
def foldT (ρ : Env) (is : List Nat) (vs : List PV) : Env := (is.zip vs).foldl (fun ρ p => ρ.set p.1 (some (false, p.2))) ρ
theorem names_ok {O : Addr → Prop} {Z0 H0 : Hp} {σ0 : L2.St} : ∀ {is : List Nat} {vs : List PV} {us : List V} {σ : L2.St} {ρ : Env} {Q : L2.St → Hp → Prop}, RepL K Z us vs → vs.length = is.length → StOk K Z ρ σ H → Step O (Own ρ σ) Z0 H0 Z H → (∀ i ∈ is, i < ρ.length) → noneIn fx is = true → Same fx σ0 σ →
    (∀ σ', StOk K Z (foldT ρ is vs) σ' H → Step O (Own (foldT ρ is vs) σ') Z0 H0 Z H → Same fx σ0 σ' → Q σ' H) → gNames is us σ H Q
  | [], [], _, σ, ρ, Q, .nil, _, so, st, _, _, sm, q => ⟨rfl, q σ so st sm⟩
  | i :: is, v :: vs, _, σ, ρ, Q, .cons r rs, hl, so, st, hi, hn, sm, q => by
    refine ⟨_, _, rfl, ?_⟩
    obtain ⟨so2, st2⟩ := StOk.put (f := false) (w := v) so st (show ValRep K O H0 (Own ρ σ) Z H _ (v, false) from r) (hi i (by simp))
    unfold noneIn at hn
    rw [List.all_cons, Bool.and_eq_true] at hn
    exact names_ok rs (by simpa using hl) so2 st2 (fun j hj => by rw [List.length_set]; exact hi j (by simp [hj])) hn.2 (sm.trans (same_set (by simpa using hn.1))) q
theorem vr_tup {O O' : Addr → Prop} {Z' H' : Hp} {u : V} {v : PV × Bool} {vs : List PV} (h : ValRep K O H O' Z' H' u v) (e : v.1 = .tup vs) : ∃ a us, u = .ref a ∧ TupN K Z' a us ∧ RepL K Z' us vs := by
  obtain ⟨w, f⟩ := v
  cases e
  rcases vr_flag h with ⟨_, r⟩ | ⟨_, a, _, ⟨_, r⟩, _⟩
  · cases r; exact ⟨_, _, rfl, by assumption, by assumption⟩
  · rcases r with ⟨_, _, e, _⟩ | ⟨_, _, _, e, _⟩ <;> cases e
theorem allIn_of {is : List Nat} (h : allIn ρ is = true) : ∀ i ∈ is, i < ρ.length := fun i hi => of_decide_eq_true (List.all_eq_true.mp h i hi)
theorem bindT_in {is : List Nat} {v : PV} {ρ ρ' : Env} (h : bindT is v ρ = some ρ') : ∀ i ∈ is, i < ρ.length := by
  unfold bindT at h
  cases e : allIn ρ is with
  | true => exact allIn_of e
  | false => rw [if_pos e] at h; cases h
theorem bindT_one {i : Nat} {v : PV} {ρ ρ' : Env} (h : bindT [i] v ρ = some ρ') : ρ' = ρ.set i (some (false, v)) := by
  unfold bindT at h
  split at h
  · cases h
  · cases h; rfl
theorem bindT_many {is : List Nat} {v : PV} {ρ ρ' : Env} (h : bindT is v ρ = some ρ') (h1 : is.length ≠ 1) : ∃ vs, v = .tup vs ∧ vs.length = is.length ∧ ρ' = foldT ρ is vs := by
  have key : ∀ v, bindT is v ρ = if allIn ρ is = false then none else match v with
    | .tup vs => if vs.length = is.length then some ((is.zip vs).foldl (fun ρ p => ρ.set p.1 (some (false, p.2))) ρ) else none
    | _ => none := by
    intro v
    match is, h1 with
    | [], _ => rfl
    | [_], h1 => exact absurd rfl h1
    | a :: b :: is, _ => rfl
  rw [key] at h
  split at h
  · cases h
  · split at h
    · split at h
      · cases h; exact ⟨_, rfl, by assumption, rfl⟩
      · cases h
    · cases h
theorem setT_ok {is : List Nat} {c : C} {H : Hp} (hl : is.length ≠ 1) (h : tS K ex W fx (exe Φ fx (.setT is c)) D σ H) : tAsg (tE K ex W (den Φ c)) (gTup K is.length (gNames is)) D σ H := by
  obtain ⟨Z, ρ, so, h⟩ := h
  unfold exe at h
  refine ⟨Z, ρ, so, (OutS.bind0 h).mono fun v ρ1 Z1 H1 st1 so1 h1 u vr => ?_⟩
  split at h1
  · rename_i hn
    split at h1
    · rename_i ρ2 e
      obtain ⟨vs, e1, e2, rfl⟩ := bindT_many e hl
      obtain ⟨a, us, rfl, ht, rs⟩ := vr_tup vr e1
      refine ⟨a, us, rfl, (ht.zok so1.z).sq, by rw [rs.length, e2], ?_⟩
      exact names_ok rs e2 so1 st1 (bindT_in e) hn .refl fun σ' so' st' sm' => h1 σ' Z1 H1 st' so' sm'
    · exact h1.elim
  · exact h1.elim
end
/-! ### the rules -/
abbrev SD (X : Cx) (ex : Nat → Value) (W : WX) (Φ : Fun) (fx : List Nat) (s : Stmt) (c : S) : Prop := PS X s (tS X.K ex W fx (exe Φ fx c))
abbrev BD (X : Cx) (ex : Nat → Value) (W : WX) (Φ : Fun) (fx : List Nat) (s : List Stmt) (c : S) : Prop := PSs X s (tS X.K ex W fx (exe Φ fx c))
section
variable {X : Cx} {ex : Nat → Value} {W : WX} {Φ : Fun} {fx : List Nat} {pos : Pos}
theorem PS.imp {s : Stmt} {t t' : TS} (h : PS X s t) (k : ∀ D σ H, t' D σ H → t D σ H) : PS X s t' := ⟨fun pins s σ H D I q => h.run pins s σ H D I (k D σ H q)⟩
theorem PSs.imp {s : List Stmt} {t t' : TS} (h : PSs X s t) (k : ∀ D σ H, t' D σ H → t D σ H) : PSs X s t' := ⟨fun pins s σ H D I q => h.run pins s σ H D I (k D σ H q)⟩
theorem PS.impL {s : Stmt} {t t' : TS} (h : PS X s t) (k : ∀ D σ H, σ.length = X.N.length → t' D σ H → t D σ H) : PS X s t' := ⟨fun pins s σ H D I q => h.run pins s σ H D I (k D σ H I.len q)⟩
theorem b_one {s : Stmt} {c : S} (h : SD X ex W Φ fx s c) : BD X ex W Φ fx [s] c := pss_one h
theorem b_cons {s : Stmt} {ss : List Stmt} {a b : S} (h : SD X ex W Φ fx s a) (h' : BD X ex W Φ fx ss b) : BD X ex W Φ fx (s :: ss) (.seq a b) := PSs.imp (pss_cons h h') fun _ _ _ q => seq_ok q
theorem b_nil : BD X ex W Φ fx [] .skip := PSs.imp pss_nil fun D σ H ⟨Z, ρ, so, q⟩ => q.here so
theorem b_doc {x : Str} {j : Nat} {p p' : Pos} {ss : List Stmt} {c : S} (h : BD X ex W Φ fx ss c) : BD X ex W Φ fx (.Expr (.Constant (.str x) j p) p' :: ss) c := PSs.imp (pss_cons ps_doc h) fun _ _ _ q => q
theorem s_pass : SD X ex W Φ fx (.Pass pos) .skip := PS.imp ps_pass fun D σ H ⟨Z, ρ, so, q⟩ => q.here so
theorem s_brk : SD X ex W Φ fx (.Break pos) .brk := PS.imp ps_break fun D σ H ⟨Z, ρ, so, q⟩ => q.here so
theorem s_cont : SD X ex W Φ fx (.Continue pos) .cont := PS.imp ps_continue fun D σ H ⟨Z, ρ, so, q⟩ => q.here so
theorem s_if {c : Expr} {a b : List Stmt} {cc : C} {sa sb : S} (hc : TD X ex W Φ c cc) (ha : BD X ex W Φ fx a sa) (hb : BD X ex W Φ fx b sb) : SD X ex W Φ fx (.If c a b pos) (.ite cc sa sb) := PS.imp (ps_if hc ha hb) fun _ _ _ q => ifS_ok q
theorem s_ex {e : Expr} {c : C} (h : ED X ex W Φ e c) (hs : swapsWith e none pos.line X.env = pure false := by rfl) : SD X ex W Φ fx (.Expr e pos) (.ex c) :=
  PS.imp (ps_expr h hs) fun D σ H ⟨Z, ρ, so, q⟩ => by
    unfold exe at q
    exact ⟨Z, ρ, so, (OutS.bind0 q).mono fun v ρ1 Z1 H1 st1 so1 h1 u vr => h1 _ Z1 H1 st1 so1 .refl⟩
theorem s_set {i : Nat} {x : Str} {e : Expr} {c : C} {pos' : Pos} (hN : X.N.Nodup) (hi : X.N[i]? = some x) (hx : Loc X.env.scope x) (he : ED X ex W Φ e c) (hs : swapsWith e (some (.Name x pos')) pos.line X.env = pure false := by rfl) (hf : X.fn x = true ∨ X.env.scope.names.lookup x = some .local := by first | exact .inl rfl | exact .inr rfl | assumption) :
    SD X ex W Φ fx (.Assign [.Name x pos'] e pos) (.set i c) := PS.imp (ps_set hN hi hx he hs hf) fun _ _ _ q => set_ok q
theorem g_nil : PGs X [] (gNames []) := pgs_nil
theorem g_cons {i : Nat} {x : Str} {p : Pos} {es : List Expr} {is : List Nat} (hN : X.N.Nodup) (hi : X.N[i]? = some x) (hx : Loc X.env.scope x) (h : PGs X es (gNames is)) (hf : X.fn x = true ∨ X.env.scope.names.lookup x = some .local := by first | exact .inl rfl | exact .inr rfl | assumption)
    (hs : (assignEach (.Name x p :: es) X.env).map (·.2) = assign (.Name x p) X.env :: (assignEach es X.env).map (·.2) := by rfl) : PGs X (.Name x p :: es) (gNames (i :: is)) := pgs_cons (pg_name hN hi hx hf) h hs
theorem s_setT {is : List Nat} {es : List Expr} {k : Nat} {e : Expr} {c : C} {p : Pos} (hc : X.calm = true) (hl : is.length ≠ 1) (hg : PGs X es (gNames is)) (he : ED X ex W Φ e c)
    (hn : (assignEach es X.env).length = is.length := by rfl) (hst : (assignEach es X.env).findIdx? (·.1) = none := by rfl)
    (hs : swapsWithSole [.Tuple es k p] e pos.line X.env = pure false := by rfl) (hw : swappedStores [.Tuple es k p] e X.env = pure none := by rfl)
    (h1 : (assignEach [.Tuple es k p] X.env).map (·.2) = [assign (.Tuple es k p) X.env] := by rfl) : SD X ex W Φ fx (.Assign [.Tuple es k p] e pos) (.setT is c) :=
  PS.imp (ps_asg he (pg_tup hc hg hn hst) hs hw h1) fun _ _ _ q => setT_ok hl q
end
end Tl
end
section
set_option linter.all false
set_option maxRecDepth 100000
namespace Tl
open PySem PySem.Spec L2
section
variable {K : PySem.W.Frag} {ex : Nat → Value} {W : WX} {fx : List Nat} {D : Ends} {σ : L2.St} {Z H : Hp} {ρ : Env} {Φ : Fun}
theorem StOk.write {O : Addr → Prop} {Z0 H0 : Hp} {i : Nat} {p p' : PV} {a : Addr} {x : HO} (so : StOk K Z ρ σ H) (st : Step O (Own ρ σ) Z0 H0 Z H) (e : ρ[i]? = some (some (true, p))) (es : σ[i]? = some (some (V.ref a))) (r : OwnRep K Z (upd H a x) a p') :
    StOk K Z (ρ.set i (some (true, p'))) σ (upd H a x) ∧ Step O (Own (ρ.set i (some (true, p'))) σ) Z0 H0 Z (upd H a x) := by
  have hi : i < ρ.length := (List.getElem?_eq_some_iff.mp e).1
  have low : ∀ (j : Nat) (q : PV), (ρ.set i (some (true, p')))[j]? = some (some (true, q)) → ∃ q', ρ[j]? = some (some (true, q')) := fun j q h => by
    by_cases hj : i = j
    · subst hj; exact ⟨p, e⟩
    · rw [List.getElem?_set_ne hj] at h; exact ⟨q, h⟩
  have oa : Own ρ σ a := ⟨i, p, e, es⟩
  refine ⟨⟨fun b u h => ?_, by rw [List.length_set]; exact so.len, fun j q h => ?_, fun j q h => ?_, fun j k q q' b h1 h2 h3 h4 => ?_⟩, ⟨fun b u h n => ?_, st.zm, st.zn, fun b ⟨j, q, h1, h2⟩ => ?_, fun b h => ?_⟩⟩
  · have hb : b ≠ a := fun z => by subst z; rw [r.1] at h; cases h
    rw [upd_ne hb]; exact so.z b u h
  · by_cases hj : i = j
    · subst hj; rw [List.getElem?_set_self hi] at h; cases h
    · rw [List.getElem?_set_ne hj] at h; exact so.sh j q h
  · by_cases hj : i = j
    · subst hj; rw [List.getElem?_set_self hi] at h; cases h; exact ⟨a, es, r⟩
    · rw [List.getElem?_set_ne hj] at h
      obtain ⟨b, h1, h2⟩ := so.ow j q h
      have hb : b ≠ a := fun z => by subst z; exact hj (so.inj i j p q _ e h es h1)
      exact ⟨b, h1, h2.move .refl h2.1 fun u hu => by rw [upd_ne hb]; exact hu⟩
  · obtain ⟨_, g1⟩ := low j q h1
    obtain ⟨_, g2⟩ := low k q' h2
    exact so.inj j k _ _ b g1 g2 h3 h4
  · have hb : b ≠ a := fun z => by
      subst z
      rcases st.on _ oa with z | z
      · exact n z
      · rw [z] at h; cases h
    rw [upd_ne hb]; exact st.fr b u h n
  · obtain ⟨q', g⟩ := low j q h1
    exact st.on b ⟨j, q', g, h2⟩
  · by_cases hb : b = a
    · subst hb; rw [upd_same]; exact fun z => nomatch z
    · rw [upd_ne hb]; exact st.al b h
theorem own_at {i : Nat} {p : PV} (so : StOk K Z ρ σ H) (e : ρ[i]? = some (some (true, p))) : ∃ a, σ[i]? = some (some (V.ref a)) ∧ OwnRep K Z H a p := so.ow i p e
theorem tE_0 {m : Env → M (PV × Bool)} {σ : L2.St} {H : Hp} {Q : VK} {R : PV × Bool → Env → Hp → Hp → Prop} (so : StOk K Z ρ σ H) (h : Out K ex W σ Z H ρ (m ρ) R)
    (k : ∀ v ρ1 Z1 H1, Step (Own ρ σ) (Own ρ1 σ) Z H Z1 H1 → StOk K Z1 ρ1 σ H1 → R v ρ1 Z1 H1 → ∀ u, Rep K Z1 u v.1 → Q u H1) : tE K ex W m σ H Q := by
  refine ⟨Z, ρ, so, ?_⟩
  generalize m ρ = r at h
  match r, h with
  | some (.exn x, ρ'), h => exact h
  | some (.val (v, f), ρ'), h =>
    intro Z' H' st so' u vr
    cases f with
    | false => exact k (v, false) ρ' Z' H' st so' (h Z' H' st so') u vr
    | true =>
      obtain ⟨a, rfl, r, n, q⟩ := vr
      have so2 := so'.cont r n
      have st2 := st.cont r q
      exact k (v, true) ρ' (contOf H' Z' a) H' st2 so2 (h _ _ st2 so2) _ r.freeze
/-! ### o[k] = v -/
theorem key_ne {x y : List Nat} (h : y ≠ x) : (Sum.inr (asT y) : Key) ≠ Sum.inr (asT x) := fun z => h (asT_inj.mp (Sum.inr.inj z))
theorem repD_map {x : List Nat} {v : V} {p : PV} (rv : Rep K Z v p) : ∀ {ks vs : List PV} {kvs : List (Key × V)}, RepD K Z kvs ks vs →
    RepD K Z (kvs.map fun kv => if kv.1 = .inr (asT x) then (kv.1, v) else kv) ks (dmap ks vs x p)
  | _, [], _, .nil => .nil
  | _, _ :: _, _, .cons (x := y) (v := w) (p := q) a r s => by
    rw [List.map_cons]
    unfold dmap
    by_cases h : y = x
    · subst h
      rw [if_pos rfl, if_pos rfl]
      exact .cons a rv (repD_map rv s)
    · rw [if_neg (key_ne h), if_neg h]
      exact .cons a r (repD_map rv s)
theorem repD_app {x : List Nat} {v : V} {p : PV} (hx : Asc x) (rv : Rep K Z v p) : ∀ {ks vs : List PV} {kvs : List (Key × V)}, RepD K Z kvs ks vs → RepD K Z (kvs ++ [(.inr (asT x), v)]) (ks ++ [.str x]) (vs ++ [p])
  | _, [], _, .nil => .cons hx rv .nil
  | _, _ :: _, _, .cons a r s => .cons a r (repD_app hx rv s)
theorem repD_put {x : List Nat} {v : V} {p : PV} {ks vs : List PV} {kvs : List (Key × V)} (hx : Asc x) (rv : Rep K Z v p) (r : RepD K Z kvs ks vs) : RepD K Z (putK kvs (.inr (asT x)) v) (dput ks vs x p).1 (dput ks vs x p).2 := by
  have e : (kvs.any fun kv => decide (kv.1 = (.inr (asT x) : Key))) = (dget ks vs x).isSome := by rw [valV_any, repD_isSome r]
  unfold putK dput
  rw [e]
  cases (dget ks vs x).isSome with
  | true => exact repD_map rv r
  | false => exact repD_app hx rv r
theorem repD_drop {x : List Nat} : ∀ {ks vs : List PV} {kvs : List (Key × V)}, RepD K Z kvs ks vs → RepD K Z (dropK kvs (.inr (asT x))) (ddel ks vs x).1 (ddel ks vs x).2
  | _, [], _, .nil => .nil
  | _, _ :: _, _, .cons (x := y) (v := w) (p := q) a r s => by
    have ih := repD_drop (x := x) s
    unfold dropK ddel
    unfold dropK at ih
    by_cases h : y = x
    · subst h
      rw [List.filter_cons_of_neg (by simp), if_pos rfl]
      exact ih
    · rw [List.filter_cons_of_pos (by simpa using key_ne h), if_neg h]
      exact .cons a r ih
def rSetP : TSet := fun o i v H Q => rSetL o i v H Q ∨ rSetD o i v H Q
theorem putIx_ok {i : Nat} {o k v o' : PV} {uk uv : V} {Q : Hp → Prop} {a : Addr} (so : StOk K Z ρ σ H) (e : ρ[i]? = some (some (true, o))) (es : σ[i]? = some (some (V.ref a))) (rk : Rep K Z uk k) (rv : Rep K Z uv v) (hp : putIx o k v = some o')
    (q : ∀ x, OwnRep K Z (upd H a x) a o' → Q (upd H a x)) : rSetP (.ref a) uk uv H Q := by
  obtain ⟨b, e1, r⟩ := so.ow i o e
  rw [es] at e1; cases e1
  unfold putIx at hp
  split at hp
  · rename_i xs j
    obtain ⟨n, hn, rfl⟩ := Option.map_eq_some_iff.mp hp
    cases rk
    rcases r.2 with ⟨us, ps, e1, e2, e3⟩ | ⟨_, _, _, e1, _⟩
    · cases e1
      refine .inl ⟨a, us, j, n, rfl, rfl, e2, ?_, q _ ⟨r.1, .inl ⟨_, _, rfl, upd_same, e3.set n rv⟩⟩⟩
      rw [e3.length]; exact hn
    · cases e1
  · rename_i ks vs x
    split at hp
    · rename_i hl
      cases hp
      cases rk with
      | str _ hx =>
        rcases r.2 with ⟨_, _, e1, _⟩ | ⟨kvs, ks', vs', e1, e2, e3⟩
        · cases e1
        · cases e1
          refine .inr ⟨a, _, rfl, .inl ⟨kvs, .inr (asT x), e2, rfl, by rw [sizeLine_eq, (e3.length).1]; omega, rfl⟩, q _ ⟨r.1, .inr ⟨_, _, _, rfl, upd_same, repD_put hx rv e3⟩⟩⟩
    · cases hp
  · cases hp
theorem slot_some {i : Nat} {s : Bool × PV} (so : StOk K Z ρ σ H) (e : ρ[i]? = some (some s)) : ∃ u, σ[i]? = some (some u) := by
  obtain ⟨f, p⟩ := s
  cases f with
  | false => obtain ⟨u, e1, _⟩ := so.sh i p e; exact ⟨u, e1⟩
  | true => obtain ⟨a, e1, _⟩ := so.ow i p e; exact ⟨_, e1⟩
theorem ixset_ok {i : Nat} {k c : C} (h : tS K ex W fx (exe Φ fx (.ixset i k c)) D σ H) : tAsg (tE K ex W (den Φ c)) (gSub (tVar i) (tE K ex W (den Φ k)) rSetP) D σ H := by
  obtain ⟨Z, ρ, so, h⟩ := h
  unfold exe at h
  refine tE_0 so (OutS.bind0 h) fun v ρ1 Z1 H1 st1 so1 h1 u ru => ?_
  split at h1
  · rename_i hs
    have hu : ∃ ou, σ[i]? = some (some ou) := by
      unfold setAt at hs
      split at hs
      · rename_i s e; exact slot_some so1 e
      · cases hs
    obtain ⟨ou, hu⟩ := hu
    refine ⟨ou, hu, ?_⟩
    have h1 : OutS K ex W fx D σ Z1 H1 ρ1 _ := h1.rebase st1 .refl
    refine tE_0 so1 (OutS.bind0 h1) fun j ρ2 Z2 H2 st2 so2 h2 w rw' => ?_
    split at h2
    · rename_i o e
      split at h2
      · rename_i o' e'
        obtain ⟨a, ea, _⟩ := so2.ow i o e
        rw [hu] at ea; cases ea
        refine putIx_ok so2 e hu rw' (ru.mono st2.zm) e' fun x r => ?_
        obtain ⟨so3, st3⟩ := so2.write st2 e hu r
        exact h2 σ Z2 _ st3 so3 .refl
      · exact h2.elim
    · exact h2.elim
  · exact h1.elim
theorem app_ok {i : Nat} {c : C} (h : tS K ex W fx (exe Φ fx (.app i c)) D σ H) : tDrop (tBM K "list" rAppend (tVar i) (tCons (tE K ex W (den Φ c)) tNil)) D σ H := by
  obtain ⟨Z, ρ, so, h⟩ := h
  unfold exe at h
  split at h
  · rename_i hs
    obtain ⟨a, us, hu, hl⟩ : ∃ a us, σ[i]? = some (some (V.ref a)) ∧ H a = some (.lst us) := by
      unfold lstAt at hs
      split at hs
      · rename_i xs e
        obtain ⟨a, e1, r⟩ := so.ow i _ e
        rcases r.2 with ⟨us, ps, _, e2, _⟩ | ⟨_, _, _, e2, _⟩
        · exact ⟨a, us, e1, e2⟩
        · cases e2
      · cases hs
    refine ⟨_, hu, .inl ⟨rfl, us, .inl (.inl hl)⟩, ?_⟩
    refine tE_0 so (OutS.bind0 h) fun v ρ1 Z1 H1 st1 so1 h1 u ru => ?_
    split at h1
    · rename_i xs e
      split at h1
      · rename_i hb
        obtain ⟨b, e1, r⟩ := so1.ow i _ e
        rw [hu] at e1; cases e1
        rcases r.2 with ⟨us1, ps, e3, e2, e4⟩ | ⟨_, _, _, e3, _⟩
        · cases e3
          refine ⟨a, us1, u, rfl, rfl, e2, by rw [e4.length, ← big_eq]; exact hb, ?_⟩
          obtain ⟨so3, st3⟩ := so1.write (p' := .lst (xs ++ [v.1])) st1 e hu ⟨r.1, .inl ⟨_, _, rfl, upd_same (o := .lst (us1 ++ [u])), e4.append (.cons ru .nil)⟩⟩
          exact h1 σ Z1 _ st3 so3 .refl
        · cases e3
      · exact h1.elim
    · exact h1.elim
  · exact h.elim
theorem dpop_ok {i : Nat} {c : C} (h : tS K ex W fx (exe Φ fx (.dpop i c)) D σ H) : tDrop (tDPop1 (tVar i) (tE K ex W (den Φ c))) D σ H := by
  obtain ⟨Z, ρ, so, h⟩ := h
  unfold exe at h
  split at h
  · rename_i hs
    obtain ⟨a, us, hu, hl⟩ : ∃ a us, σ[i]? = some (some (V.ref a)) ∧ H a = some (.dK us) := by
      unfold dicAt at hs
      split at hs
      · rename_i xs ys e
        obtain ⟨a, e1, r⟩ := so.ow i _ e
        rcases r.2 with ⟨us, ps, e2, _, _⟩ | ⟨us, _, _, _, e2, _⟩
        · cases e2
        · exact ⟨a, us, e1, e2⟩
      · cases hs
    refine ⟨_, hu, a, rfl, .inl ⟨us, .inl hl⟩, ?_⟩
    refine tE_0 so (OutS.bind0 h) fun v ρ1 Z1 H1 st1 so1 h1 u ru => ?_
    split at h1
    · rename_i ks vs x e e0
      split at h1
      · rename_i hb
        obtain ⟨b, e1, r⟩ := so1.ow i _ e
        rw [hu] at e1; cases e1
        rw [e0] at ru
        cases ru
        rcases r.2 with ⟨us1, ps, e3, e2, e4⟩ | ⟨kvs, _, _, e3, e2, e4⟩
        · cases e3
        · cases e3
          obtain ⟨p, hp⟩ := Option.isSome_iff_exists.mp hb
          obtain ⟨w, hw, _⟩ := repD_some e4 hp
          refine ⟨kvs, .inr (asT x), w, e2, rfl, hw, ?_⟩
          obtain ⟨so3, st3⟩ := so1.write (p' := .dic (ddel ks vs x).1 (ddel ks vs x).2) st1 e hu ⟨r.1, .inr ⟨_, _, _, rfl, upd_same (o := .dK (dropK kvs (.inr (asT x)))), repD_drop e4⟩⟩
          exact h1 σ Z1 _ st3 so3 .refl
      · exact h1.elim
    · exact h1.elim
  · exact h.elim
/-! ### return -/
theorem mv_ok {m : Env → M (PV × Bool)} (h : OutS K ex W fx D σ Z H ρ ((m ρ).bind fun v ρ' => some (.val (.rt v.1 v.2), ρ'))) (so : StOk K Z ρ σ H) : tE K ex W m σ H D.rt :=
  ⟨Z, ρ, so, (OutS.bind0 h).mono fun v ρ1 Z1 H1 st1 so1 h1 u vr => h1 σ Z1 H1 st1 so1 .refl u vr⟩
theorem mvar_ok {i : Nat} {Q : VK} (h : tE K ex W (mv Φ (.var i)) σ H Q) : tVar i σ H Q := by
  obtain ⟨Z, ρ, so, h⟩ := h
  unfold mv at h
  split at h
  · rename_i f p e
    have hi : i < ρ.length := (List.getElem?_eq_some_iff.mp e).1
    have low : ∀ (j : Nat) (s : Bool × PV), (ρ.set i none)[j]? = some (some s) → i ≠ j ∧ ρ[j]? = some (some s) := fun j s h => by
      by_cases hj : i = j
      · subst hj; rw [List.getElem?_set_self hi] at h; cases h
      · rw [List.getElem?_set_ne hj] at h; exact ⟨hj, h⟩
    have so' : StOk K Z (ρ.set i none) σ H := ⟨so.z, by rw [List.length_set]; exact so.len, fun j q e => so.sh j q (low j _ e).2, fun j q e => so.ow j q (low j _ e).2, fun j k q q' a h1 h2 => so.inj j k q q' a (low j _ h1).2 (low k _ h2).2⟩
    have st : Step (Own ρ σ) (Own (ρ.set i none) σ) Z H Z H := Step.refl.imp (fun _ h => h) fun a ⟨j, q, h1, h2⟩ => .inr ⟨j, q, (low j _ h1).2, h2⟩
    cases f with
    | false =>
      obtain ⟨u, e1, r⟩ := so.sh i p e
      exact ⟨u, e1, h Z H st so' u r⟩
    | true =>
      obtain ⟨a, e1, r⟩ := so.ow i p e
      refine ⟨_, e1, h Z H st so' _ ⟨a, rfl, r, fun ⟨j, q, h1, h2⟩ => ?_, .inl ⟨i, p, e, e1⟩⟩⟩
      obtain ⟨hj, h1⟩ := low j _ h1
      exact hj (so.inj i j p q a e h1 e1 h2)
  · exact h.elim
theorem mite_ok {c a b : C} {Q : VK} (h : tE K ex W (mv Φ (.ite c a b)) σ H Q) : tIf (tT K ex W (den Φ c)) (tE K ex W (mv Φ a)) (tE K ex W (mv Φ b)) σ H Q := by
  obtain ⟨Z, ρ, so, q⟩ := h
  unfold mv at q
  refine ⟨Z, ρ, so, q.bind.mono fun v ρ1 Z1 H1 st so1 q => ?_⟩
  split at q
  · rename_i e
    exact ⟨true, e, tE_step st so1 q⟩
  · rename_i e
    exact ⟨false, e, tE_step st so1 q⟩
  · exact q.elim
end
abbrev MD (X : Cx) (ex : Nat → Value) (W : WX) (Φ : Fun) (e : Expr) (c : C) : Prop := PE X e (tE X.K ex W (mv Φ c))
section
variable {X : Cx} {ex : Nat → Value} {W : WX} {Φ : Fun} {fx : List Nat} {pos : Pos} {e : Expr} {c : C}
theorem m_var {i : Nat} (h : PE X e (tVar i)) : MD X ex W Φ e (.var i) := PE.imp h fun _ _ _ q => mvar_ok q
theorem m_ite {cc a b : Expr} {c ca cb : C} (hc : TD X ex W Φ cc c) (ha : MD X ex W Φ a ca) (hb : MD X ex W Φ b cb) : MD X ex W Φ (.IfExp cc a b pos) (.ite c ca cb) := PE.imp (pe_ifExp hc ha hb) fun _ _ _ q => mite_ok q
theorem m_val (h : ED X ex W Φ e c) (hm : mv Φ c = den Φ c := by rfl) : MD X ex W Φ e c := by unfold MD; rw [hm]; exact h
theorem s_ret (h : MD X ex W Φ e c) : SD X ex W Φ fx (.Return (some e) pos) (.ret c) := PS.imp (ps_ret h) fun D σ H ⟨Z, ρ, so, q⟩ => by
  unfold exe at q
  exact mv_ok q so
theorem s_retN : SD X ex W Φ fx (.Return none pos) (.ret (.lit .non)) := PS.imp ps_retN fun D σ H ⟨Z, ρ, so, q⟩ => by
  unfold exe at q
  exact q σ Z H .refl so .refl .non .non
theorem s_app {i : Nat} {o : Expr} {apos cpos : Pos} (ho : PE X o (tVar i)) (he : ED X ex W Φ e c) (hbase : attributeBase o "append" X.env (eval o X.env) = eval o X.env := by rfl)
    (hfew : ((backTo cpos (starEach [e] X.env)).all (fun x => !x.1) && (backToKw cpos (keywordEach [] X.env)).all (fun x => x.1.isSome)
      && decide (([e] : List Expr).length + ([] : List Keyword).length + (if ([] : List Keyword).isEmpty then 0 else 1) < 30)) = true := by rfl)
    (hline : (apos.endLine == cpos.line) = true := by rfl) (hs : starEach [e] X.env = (false, eval e X.env) :: starEach [] X.env := by rfl) (hplain : (backTo cpos (starEach [] X.env)).any (·.1) = false := by rfl)
    (hsw : swapsWith (.Call (.Attribute o "append" apos) [e] [] cpos) none pos.line X.env = pure false := by rfl) : SD X ex W Φ fx (.Expr (.Call (.Attribute o "append" apos) [e] [] cpos) pos) (.app i c) :=
  PS.imp (ps_expr (pe_bm PySem.F.plainAttrs_list PySem.F.slot_list_append PySem.F.type_list_append mt_append ho (pa_cons he pa_nil hs) hbase hfew hline hs hplain) hsw) fun D σ H q => app_ok q
theorem s_dpop {i : Nat} {o : Expr} {apos cpos : Pos} (ho : PE X o (tVar i)) (he : ED X ex W Φ e c) (m : M1 X o "pop" apos e cpos)
    (hsw : swapsWith (.Call (.Attribute o "pop" apos) [e] [] cpos) none pos.line X.env = pure false := by rfl) : SD X ex W Φ fx (.Expr (.Call (.Attribute o "pop" apos) [e] [] cpos) pos) (.dpop i c) :=
  PS.imp (ps_expr (pe_dpop1 ho he m) hsw) fun D σ H q => dpop_ok q
theorem pset_or {t t' : TSet} (h : PSet X t) (h' : PSet X t') : PSet X (fun o i v H Q => t o i v H Q ∨ t' o i v H Q) := by
  intro pins s σ H o i v ov iv u Q I ro ri rv q
  rcases q with q | q
  · exact h pins s σ H o i v ov iv u Q I ro ri rv q
  · exact h' pins s σ H o i v ov iv u Q I ro ri rv q
theorem s_ixset {i : Nat} {o k : Expr} {ck : C} {p : Pos} (hu : X.A.units + 1 < cLine) (ho : PE X o (tVar i)) (hk : ED X ex W Φ k ck) (he : ED X ex W Φ e c)
    (ha : ∀ v, assign (.Subscript o k p) X.env v = (do
      let ov ← holding [v] (eval o X.env)
      let iv ← holding [v, ov] (eval k X.env)
      standAt p
      holding [v, ov, iv] (setItem ov iv v)
      release [v, ov, iv] []) := by intro _; rfl)
    (hs : swapsWithSole [.Subscript o k p] e pos.line X.env = pure false := by rfl) (hw : swappedStores [.Subscript o k p] e X.env = pure none := by rfl)
    (h1 : (assignEach [.Subscript o k p] X.env).map (·.2) = [assign (.Subscript o k p) X.env] := by rfl) : SD X ex W Φ fx (.Assign [.Subscript o k p] e pos) (.ixset i ck c) :=
  PS.imp (ps_asg he (pg_sub ho hk (pset_or set_list (set_dict hu)) ha) hs hw h1) fun D σ H q => ixset_ok q
end
end Tl
end
section
set_option linter.all false
set_option maxRecDepth 100000
namespace Tl
open PySem PySem.Spec L2
section
variable {K : PySem.W.Frag} {ex : Nat → Value} {W : WX} {fx : List Nat} {D : Ends} {σ : L2.St} {Z H : Hp} {ρ : Env} {Φ : Fun}
/-! ### values side by side -/
def OwnBy (us : List V) (vs : List (PV × Bool)) (a : Addr) : Prop := ∃ (k : Nat) (v : PV × Bool), us[k]? = some (.ref a) ∧ vs[k]? = some v ∧ v.2 = true
inductive VRL (K : PySem.W.Frag) (O : Addr → Prop) (H : Hp) (O' : Addr → Prop) (Z' H' : Hp) : List V → List (PV × Bool) → Prop
  | nil : VRL K O H O' Z' H' [] []
  | cons {u : V} {v : PV × Bool} {us : List V} {vs : List (PV × Bool)} : ValRep K O H O' Z' H' u v → VRL K O H O' Z' H' us vs → (v.2 = true → ∀ a, u = .ref a → ¬ OwnBy us vs a) → VRL K O H O' Z' H' (u :: us) (v :: vs)
theorem VRL.len {O O' : Addr → Prop} {Z' H' : Hp} {us : List V} {vs : List (PV × Bool)} (h : VRL K O H O' Z' H' us vs) : us.length = vs.length := by
  induction h with
  | nil => rfl
  | cons _ _ _ ih => simp [ih]
theorem VRL.own {O O' : Addr → Prop} {Z' H' : Hp} {us : List V} {vs : List (PV × Bool)} {a : Addr} (h : VRL K O H O' Z' H' us vs) (o : OwnBy us vs a) : O a ∨ H a = none := by
  induction h with
  | nil => obtain ⟨k, v, e, _⟩ := o; simp at e
  | @cons u v us vs r _ _ ih =>
    obtain ⟨k, w, e1, e2, e3⟩ := o
    cases k with
    | zero =>
      simp at e1 e2
      subst e1 e2
      obtain ⟨w, f⟩ := v
      rcases vr_flag r with ⟨z, _⟩ | ⟨_, b, e5, _, _, q⟩
      · rw [show f = true from e3] at z; cases z
      · cases e5; exact q
    | succ k => exact ih ⟨k, w, by simpa using e1, by simpa using e2, e3⟩
theorem VRL.step {O O1 O2 : Addr → Prop} {Z1 H1 Z2 H2 : Hp} {us : List V} {vs : List (PV × Bool)} (st : Step O O1 Z H Z1 H1) (h : VRL K O1 H1 O2 Z2 H2 us vs) : VRL K O H O2 Z2 H2 us vs := by
  induction h with
  | nil => exact .nil
  | cons r _ n ih => exact .cons (vals_step st r) ih n
theorem valsF_ok : ∀ (cl : CL) {Z H : Hp} {ρ : Env} {R : List V → Hp → Prop}, StOk K Z ρ σ H →
    Out K ex W σ Z H ρ (denF Φ cl ρ) (fun vs ρ' Z' H' => ∀ us, us.length = cl.len → VRL K (Own ρ σ) H (Own ρ' σ) Z' H' us vs → R us H') → tVals K ex W Φ cl σ H R
  | .nil, _, _, _, _, so, h => h.here so [] rfl .nil
  | .cons c r, Z, H, ρ, R, so, h => by
    refine ⟨Z, ρ, so, Out.mono (Out.bind h) fun v ρ1 Z1 H1 st1 so1 h1 u vr => ?_⟩
    refine valsF_ok r so1 (h1.bind.mono fun vs ρ2 Z2 H2 st2 so2 h2 us hl rs => ?_)
    refine h2.here so2 (u :: us) (by rw [List.length_cons, hl]; rfl) (.cons ?_ (rs.step st1) fun hv a ea hb => ?_)
    · obtain ⟨w, f⟩ := v
      rcases vr_flag vr with ⟨rfl, r⟩ | ⟨rfl, a, e1, r, n, q⟩
      · exact r.mono st2.zm
      · refine ⟨a, e1, r.move st2.zm (st2.zn a r.1 r.h n) (fun u e => st2.fr a u e n), fun z => ?_, q⟩
        rcases st2.on a z with z | z
        · exact n z
        · exact r.h z
    · obtain ⟨w, f⟩ := v
      rcases vr_flag vr with ⟨z, r⟩ | ⟨_, b, e1, r, n, q⟩
      · rw [show f = true from hv] at z; cases z
      · rw [ea] at e1; cases e1
        rcases rs.own hb with z | z
        · exact n z
        · exact r.h z
def setSt : L2.St → List Nat → List V → L2.St
  | σ, i :: is, u :: us => setSt (σ.set i (some u)) is us
  | σ, _, _ => σ
theorem setAll_ok {O : Addr → Prop} {Z0 H0 : Hp} {σ0 : L2.St} : ∀ {is : List Nat} {vs : List (PV × Bool)} {us : List V} {σ : L2.St} {ρ ρ2 : Env}, setAll is vs ρ = some ρ2 → VRL K O H0 (Own ρ σ) Z H us vs → StOk K Z ρ σ H → Step O (Own ρ σ) Z0 H0 Z H → (∀ i ∈ is, i < ρ.length) → noneIn fx is = true → Same fx σ0 σ →
    StOk K Z ρ2 (setSt σ is us) H ∧ Step O (Own ρ2 (setSt σ is us)) Z0 H0 Z H ∧ Same fx σ0 (setSt σ is us)
  | [], [], _, σ, ρ, _, e, .nil, so, st, _, _, sm => by cases e; exact ⟨so, st, sm⟩
  | [], _ :: _, _, _, _, _, e, _, _, _, _, _, _ => by cases e
  | _ :: _, [], _, _, _, _, e, _, _, _, _, _, _ => by cases e
  | i :: is, v :: vs, u :: us, σ, ρ, ρ2, e, .cons vr rs no, so, st, hi, hn, sm => by
    obtain ⟨so2, st2⟩ := StOk.put (f := v.2) (w := v.1) so st vr (hi i (by simp))
    unfold noneIn at hn
    rw [List.all_cons, Bool.and_eq_true] at hn
    have hi' : i < ρ.length := hi i (by simp)
    refine setAll_ok (is := is) (vs := vs) (us := us) (σ := σ.set i (some u)) (ρ := ρ.set i (some (v.2, v.1))) e ?_ so2 st2 (fun j hj => by rw [List.length_set]; exact hi j (by simp [hj])) hn.2 (sm.trans (same_set (by simpa using hn.1)))
    -- what is owned now
    have low : ∀ a, Own (ρ.set i (some (v.2, v.1))) (σ.set i (some u)) a → Own ρ σ a ∨ (v.2 = true ∧ u = .ref a) := fun a ⟨j, q, e1, e2⟩ => by
      have hs : i < σ.length := by rw [← so.len]; exact hi'
      by_cases hj : i = j
      · subst hj
        rw [List.getElem?_set_self hi'] at e1
        rw [List.getElem?_set_self hs] at e2
        have e1 := Option.some.inj (Option.some.inj e1)
        have e2 := Option.some.inj (Option.some.inj e2)
        exact .inr ⟨congrArg Prod.fst e1, e2⟩
      · rw [List.getElem?_set_ne hj] at e1 e2
        exact .inl ⟨j, q, e1, e2⟩
    clear e
    have : ∀ {us' : List V} {vs' : List (PV × Bool)}, VRL K O H0 (Own ρ σ) Z H us' vs' → (∀ a, v.2 = true → u = .ref a → ¬ OwnBy us' vs' a) → VRL K O H0 (Own (ρ.set i (some (v.2, v.1))) (σ.set i (some u))) Z H us' vs' := fun {us' vs'} h => by
      induction h with
      | nil => intro _; exact .nil
      | @cons u1 v1 us1 vs1 r _ n1 ih =>
        intro hno
        refine .cons ?_ (ih fun a h1 h2 ⟨k, w, e1, e2, e3⟩ => hno a h1 h2 ⟨k + 1, w, by simpa using e1, by simpa using e2, e3⟩) n1
        obtain ⟨w1, f1⟩ := v1
        rcases vr_flag r with ⟨rfl, r⟩ | ⟨rfl, a, e1, r, n, q⟩
        · exact r
        · refine ⟨a, e1, r, fun z => ?_, q⟩
          rcases low a z with z | ⟨z1, z2⟩
          · exact n z
          · exact hno a z1 z2 ⟨0, _, by rw [e1]; rfl, rfl, rfl⟩
    exact this rs fun a h1 h2 => no h1 a h2
theorem par_ok {is : List Nat} {cl : CL} (hi : ∀ i ∈ is, i < σ.length) (h : tS K ex W fx (exe Φ fx (.par is cl)) D σ H) : tVals K ex W Φ cl σ H fun us H1 => us.length = cl.len ∧ D.nx (setSt σ is us) H1 := by
  obtain ⟨Z, ρ, so, h⟩ := h
  unfold exe at h
  refine valsF_ok cl so ((OutS.bind0 h).mono fun vs ρ1 Z1 H1 st1 so1 h1 us hl rs => ?_)
  split at h1
  · rename_i hc
    rw [Bool.and_eq_true] at hc
    split at h1
    · rename_i ρ2 e
      obtain ⟨so2, st2, sm2⟩ := setAll_ok e rs so1 st1 (fun i h => by rw [so1.len]; exact hi i h) hc.1 .refl
      exact ⟨hl, h1 _ Z1 H1 st2 so2 sm2⟩
    · exact h1.elim
  · exact h1.elim
/-! ### while -/
theorem while_ok {c : C} {b : S} (h : tS K ex W fx (exe Φ fx (.while c b)) D σ H) : tWhile (tT K ex W (den Φ c)) (tS K ex W fx (exe Φ fx b)) D σ H := by
  obtain ⟨Z, ρ, so, h⟩ := h
  unfold exe at h
  refine ⟨fun n σ' H' => ∃ Z' ρ', StOk K Z' ρ' σ' H' ∧ OutS K ex W fx D σ' Z' H' ρ' (whileLoop (fun ρ => den Φ c ρ) (fun ρ => exe Φ fx b ρ) n ρ'), ⟨64, Z, ρ, so, h⟩, fun m σ' H' ⟨Z', ρ', so', h'⟩ => ?_⟩
  match m, h' with
  | 0, h' => exact h'.elim
  | m + 1, h' =>
    unfold whileLoop at h'
    refine ⟨Z', ρ', so', (OutS.bindE h').mono fun v ρ1 Z1 H1 st1 so1 h1 => ?_⟩
    split at h1
    · rename_i e
      exact ⟨false, e, h1.here so1⟩
    · rename_i e
      refine ⟨true, e, fun σ' H' => ∃ Z' ρ', StOk K Z' ρ' σ' H' ∧ OutS K ex W fx D σ' Z' H' ρ' (whileLoop (fun ρ => den Φ c ρ) (fun ρ => exe Φ fx b ρ) m ρ'), fun σ' H' q => ⟨m, Nat.lt_succ_self m, q⟩, Z1, ρ1, so1, OutS.bind h1 fun g ρ2 σ2 Z2 H2 st2 so2 sm2 h2 h3 => ?_⟩
      cases g with
      | nx => exact ⟨Z2, ρ2, so2, h2⟩
      | ct => exact ⟨Z2, ρ2, so2, h2⟩
      | bk => exact h3 .nx rfl
      | rt v b => exact h3 _ rfl
    · exact h1.elim
/-! ### raise, try -/
theorem raise_ok {x : Nat} (h : tS K ex W fx (exe Φ fx (.raise x)) D σ H) : W (ex x) none σ H := by
  obtain ⟨Z, ρ, so, h⟩ := h
  exact h σ Z H .refl so .refl
end
section
variable {X : Cx} {ex : Nat → Value} {W : WX} {Φ : Fun} {fx : List Nat} {pos : Pos}
theorem s_raise {C : Addr} {bmB : List Value} {B newId initId : String} {x m : Str} {j n : Nat} {p p2 pos' : Pos} (hc : X.calm = true) (tk : Takes X W) (F : ExcBaseFacts B newId initId bmB) (q : PySem.W.excIn X.K C bmB newId = true) (gC : X.mg x = some (.ref C)) (kC : PySem.W.keepIn X.K (.ref C) = true) (r : Raises X (.ref C)) (hg : Gl X x) (hex : ex n = .ref C)
    (hdb : (x == ("__debug__" : Str)) = false := by decide) : SD X ex W Φ fx (.Raise (some (.Call (.Name x p) [.Constant (.str m) j p2] [] pos')) none pos) (.raise n) :=
  PS.imp (ps_raise hc tk (pmk_own F q gC kC r hg hdb)) fun D σ H q => by
    have := raise_ok q
    rw [hex] at this
    exact this
theorem s_while {c : Expr} {b : List Stmt} {cc : C} {sb : S} (hp : PassesOwn (model X.prog X.w) X.A X.env X.xe) (hc : TD X ex W Φ c cc) (hb : BD X ex W Φ fx b sb) : SD X ex W Φ fx (.While c b [] pos) (.while cc sb) :=
  PS.imp (ps_while hp hc hb) fun _ _ _ q => while_ok q
theorem s_par2 {i j : Nat} {x y : Str} {a b : Expr} {cl : CL} {px py pt : Pos} {kt k2 pt2} (hc : X.calm = true) (hN : X.N.Nodup) (hi : X.N[i]? = some x) (hj : X.N[j]? = some y) (hij : i ≠ j)
    (hx : X.env.scope.names.lookup x = some .local) (hy : X.env.scope.names.lookup y = some .local) (ha : PA X [a, b] (tVals X.K ex W Φ cl)) (hl : cl.len = 2)
    (hw : swappedStores [.Tuple [.Name x px, .Name y py] kt pt] (.Tuple [a, b] k2 pt2) X.env = pure (some [x, y]))
    (hs : swapsWithSole [.Tuple [.Name x px, .Name y py] kt pt] (.Tuple [a, b] k2 pt2) pos.line X.env = pure false := by rfl) :
    SD X ex W Φ fx (.Assign [.Tuple [.Name x px, .Name y py] kt pt] (.Tuple [a, b] k2 pt2) pos) (.par [i, j] cl) :=
  PS.impL (ps_par hc hN hi hj hij hx hy ha hw hs) fun D σ H hL q => by
    have hlt : ∀ k ∈ [i, j], k < σ.length := fun k hk => by
      rw [hL]
      rcases List.mem_cons.mp hk with rfl | hk
      · exact (List.getElem?_eq_some_iff.mp hi).1
      · rcases List.mem_cons.mp hk with rfl | hk
        · exact (List.getElem?_eq_some_iff.mp hj).1
        · cases hk
    refine tVals_mono (par_ok hlt q) fun us H1 ⟨h1, h2⟩ => ?_
    rw [hl] at h1
    match us, h1, h2 with
    | [u, v], _, h2 => exact ⟨u, v, rfl, h2⟩
where
  tVals_mono {K : PySem.W.Frag} {ex : Nat → Value} {W : WX} {Φ : Fun} : ∀ {cl : CL} {σ : L2.St} {H : Hp} {R R' : List V → Hp → Prop}, tVals K ex W Φ cl σ H R → (∀ us H, R us H → R' us H) → tVals K ex W Φ cl σ H R'
    | .nil, _, _, _, _, h, k => k _ _ h
    | .cons c r, _, _, _, _, ⟨Z, ρ, so, h⟩, k => ⟨Z, ρ, so, h.mono fun v ρ1 Z1 H1 st so1 h u vr => tVals_mono (h u vr) fun us H q => k _ _ q⟩
theorem s_par3 {i j l : Nat} {x y z : Str} {a b c : Expr} {cl : CL} {px py pz pt pos : Pos} {kt k2 pt2} (hc : X.calm = true) (hN : X.N.Nodup) (hi : X.N[i]? = some x) (hj : X.N[j]? = some y) (hl : X.N[l]? = some z) (hij : i ≠ j) (hil : i ≠ l) (hjl : j ≠ l)
    (hx : X.env.scope.names.lookup x = some .local) (hy : X.env.scope.names.lookup y = some .local) (hz : X.env.scope.names.lookup z = some .local) (ha : PA X [a, b, c] (tVals X.K ex W Φ cl)) (hcl : cl.len = 3)
    (hw : swappedStores [.Tuple [.Name x px, .Name y py, .Name z pz] kt pt] (.Tuple [a, b, c] k2 pt2) X.env = pure (some [x, y, z]))
    (hs : swapsWithSole [.Tuple [.Name x px, .Name y py, .Name z pz] kt pt] (.Tuple [a, b, c] k2 pt2) pos.line X.env = pure false := by rfl) :
    SD X ex W Φ fx (.Assign [.Tuple [.Name x px, .Name y py, .Name z pz] kt pt] (.Tuple [a, b, c] k2 pt2) pos) (.par [i, j, l] cl) :=
  PS.impL (ps_par3 hc hN hi hj hl hij hil hjl hx hy hz ha hw hs) fun D σ H hL q => by
    have hlt : ∀ k ∈ [i, j, l], k < σ.length := fun k hk => by
      rw [hL]
      rcases List.mem_cons.mp hk with rfl | hk
      · exact (List.getElem?_eq_some_iff.mp hi).1
      · rcases List.mem_cons.mp hk with rfl | hk
        · exact (List.getElem?_eq_some_iff.mp hj).1
        · rcases List.mem_cons.mp hk with rfl | hk
          · exact (List.getElem?_eq_some_iff.mp hl).1
          · cases hk
    refine s_par2.tVals_mono (par_ok hlt q) fun us H1 ⟨h1, h2⟩ => ?_
    rw [hcl] at h1
    match us, h1, h2 with
    | [u, v, w], _, h2 => exact ⟨u, v, w, rfl, h2⟩
end
end Tl
end
section
set_option linter.all false
set_option maxRecDepth 100000
namespace Tl
open PySem PySem.Spec L2
/-- an item that an iterator yields: a datum, or a pair that is only taken apart -/
def Item (K : PySem.W.Frag) (b : Bool) (Z H : Hp) (x : V) (p : PV) : Prop := if b = true then ∃ a us ps, x = .ref a ∧ p = .tup ps ∧ SqT K H a us ∧ RepL K Z us ps else Rep K Z x p
/-- what an iterator yields, as long as Z stays -/
structure ItOk (K : PySem.W.Frag) (J : It) (Z : Hp) (b : Bool) (xs : List PV) : Prop where
  stop : ∀ Z' H', ZLe Z Z' → ZOk Z' H' → J.stop xs.length H'
  go : ∀ i Z' H', ZLe Z Z' → ZOk Z' H' → i < xs.length → J.go i H'
  yld : ∀ i p Z' H' x H'', ZLe Z Z' → ZOk Z' H' → xs[i]? = some p → J.yld i H' x H'' → ∃ Z'', Grow Z' H' Z'' H'' ∧ Item K b Z'' H'' x p
def tI (K : PySem.W.Frag) (ex : Nat → Value) (W : WX) (b : Bool) (m : Env → M (PV × Bool)) : TI := fun σ H R => ∃ Z ρ, StOk K Z ρ σ H ∧
  Out K ex W σ Z H ρ (m ρ) fun v ρ' Z' H' => ∃ xs, itemsOf v.1 = some xs ∧ ∀ J, ItOk K J Z' b xs → R J H'
section
variable {K : PySem.W.Frag} {ex : Nat → Value} {W : WX} {fx : List Nat} {D : Ends} {σ : L2.St} {Z H : Hp} {ρ : Env} {Φ : Fun}
theorem it_list {a : Addr} {us : List V} {ps : List PV} (e : Z a = some (.lst us) ∨ SqL K Z a us) (r : RepL K Z us ps) : ItOk K (Itl K a) Z false ps := by
  have e : SqL K Z a us := e.elim (fun e => .inl (.inl e)) id
  refine ⟨fun Z' H' hz ho => ⟨us, sql_zok (sql_zle e hz) ho, by rw [r.length]; exact Nat.le_refl _⟩, fun i Z' H' hz ho hi => ?_, fun i p Z' H' x H'' hz ho hp ⟨e1, e2⟩ => ?_⟩
  · have : i < us.length := by rw [r.length]; exact hi
    exact ⟨us, us[i], sql_zok (sql_zle e hz) ho, List.getElem?_eq_getElem this⟩
  · subst e1
    obtain ⟨v, h1, h2⟩ := r.get hp
    have := e2 us (sql_zok (sql_zle e hz) ho)
    rw [h1] at this; cases this
    exact ⟨Z', .refl ho, h2.mono hz⟩
theorem it_tup {a : Addr} {us : List V} {ps : List PV} (e : TupN K Z a us) (r : RepL K Z us ps) : ItOk K (Itt K a) Z false ps := by
  refine ⟨fun Z' H' hz ho => ⟨us, ((e.zle hz).zok ho).sq, by rw [r.length]; exact Nat.le_refl _⟩, fun i Z' H' hz ho hi => ?_, fun i p Z' H' x H'' hz ho hp ⟨e1, e2⟩ => ?_⟩
  · have : i < us.length := by rw [r.length]; exact hi
    exact ⟨us, us[i], ((e.zle hz).zok ho).sq, List.getElem?_eq_getElem this⟩
  · subst e1
    obtain ⟨v, h1, h2⟩ := r.get hp
    have := e2 us ((e.zle hz).zok ho).sq
    rw [h1] at this; cases this
    exact ⟨Z', .refl ho, h2.mono hz⟩
theorem it_str {x : List Nat} (hx : Asc x) : ItOk K (Its (asT x)) Z false (x.map fun c => .str [c]) := by
  have hs : (asT x).cps.size = x.length := by simp [asT]
  refine ⟨fun Z' H' hz ho => by show (asT x).cps.size ≤ _; rw [List.length_map, hs]; exact Nat.le_refl _, fun i Z' H' hz ho hi => by show i < (asT x).cps.size; rw [hs]; simpa using hi, fun i p Z' H' v H'' hz ho hp ⟨e1, c, e2, e3⟩ => ?_⟩
  subst e1 e3
  have e2 : x[i]? = some c := by simpa [asT] using e2
  rw [List.getElem?_map, e2] at hp
  cases hp
  exact ⟨Z', .refl ho, .str [c] fun d hd => by
    rw [List.mem_singleton.mp hd]
    exact hx c (List.mem_of_getElem? e2)⟩
theorem range_get : ∀ (n : Nat) (a : Int) (i : Nat), (rangeP a n)[i]? = if i < n then some (.int (a + i)) else none
  | 0, a, i => by simp [rangeP]
  | n + 1, a, 0 => by simp [rangeP]
  | n + 1, a, i + 1 => by
    unfold rangeP
    rw [List.getElem?_cons_succ, range_get n (a + 1) i]
    by_cases h : i < n
    · rw [if_pos h, if_pos (by omega)]
      congr 2
      rw [Int.natCast_add]; omega
    · rw [if_neg h, if_neg (by omega)]
theorem range_len : ∀ (n : Nat) (a : Int), (rangeP a n).length = n
  | 0, _ => rfl
  | n + 1, a => by unfold rangeP; rw [List.length_cons, range_len n]
theorem it_rng (a : Int) (n : Nat) : ItOk K (Itr a n) Z false (rangeP a n) := by
  refine ⟨fun Z' H' hz ho => by show n ≤ _; rw [range_len]; exact Nat.le_refl _, fun i Z' H' hz ho hi => by show i < n; rw [range_len] at hi; exact hi, fun i p Z' H' v H'' hz ho hp ⟨e1, e3⟩ => ?_⟩
  subst e1 e3
  rw [range_get] at hp
  split at hp
  · cases hp; exact ⟨Z', .refl ho, .int _⟩
  · cases hp
end
section
variable {X : Cx} {ex : Nat → Value} {W : WX} {Φ : Fun} {tg e : Expr} {c : C}
abbrev ID (X : Cx) (ex : Nat → Value) (W : WX) (Φ : Fun) (b : Bool) (tg e : Expr) (c : C) : Prop := PI X tg e (tI X.K ex W b (den Φ c))
theorem PI.imp {t t' : TI} (h : PI X tg e t) (k : ∀ σ H R, t' σ H R → t σ H R) : PI X tg e t' := ⟨fun pins s σ H R I q => h.run pins s σ H R I (k σ H R q)⟩
/-- a list, a tuple, a text -/
theorem pi_seq {te : TE} (he : PE X e te) : PI X tg e (fun σ H R => te σ H fun x H1 => (∃ a, x = .ref a ∧ (∃ xs, SqL X.K H1 a xs) ∧ R (Itl X.K a) H1) ∨ (∃ a, x = .ref a ∧ (∃ xs, SqT X.K H1 a xs) ∧ R (Itt X.K a) H1) ∨ ∃ z, x = .str z ∧ R (Its z) H1) := by
  refine ⟨fun pins s σ H R I h => ?_⟩
  refine thn (he.run pins s σ H _ I h) fun v s1 ⟨x, H1, I1, r1, q1⟩ => ?_
  rcases q1 with ⟨a, e, ⟨xs, hq⟩, q⟩ | ⟨a, e, ⟨xs, hq⟩, q⟩ | ⟨z, ez, q⟩
  · subst e
    cases r1
    obtain ⟨its, rv, p, hz⟩ := I1.list hq
    refine wpAny_pyIter_list p.isList ?_
    refine ⟨s1.heap.objs.size, [s1.heap.objs.size], _, _, H1, rfl, I1.kept (t' := s1.toks) fun b o e => Heap.get?_push_of_some _ e, turn_list a _, ⟨_, Heap.get?_push_size _ rfl, rfl, rfl⟩, fun b hb => ?_, q⟩
    have e : b = s1.heap.objs.size := by simpa using hb
    subst e
    exact I1.fpOk (Nat.le_refl _) (I1.hok.fresh (Nat.le_refl _))
  · subst e
    cases r1
    obtain ⟨its, rv, p, hz⟩ := I1.tuple hq
    refine wpAny_pyIter_tuple (show s1.heap.IsTuple a its.toArray from p) ?_
    refine ⟨s1.heap.objs.size, [s1.heap.objs.size], _, _, H1, rfl, I1.kept (t' := s1.toks) fun b o e => Heap.get?_push_of_some _ e, turn_tuple a _, ⟨_, Heap.get?_push_size _ rfl, rfl, rfl⟩, fun b hb => ?_, q⟩
    have e : b = s1.heap.objs.size := by simpa using hb
    subst e
    exact I1.fpOk (Nat.le_refl _) (I1.hok.fresh (Nat.le_refl _))
  · subst ez
    obtain ⟨t, rfl⟩ := r1
    cases ha : z.cps.all (· < 128)
    · exact wpAny_pyIter_wide ha (pi_one (tk := s1.toks) I1 _ (turn_str _ z t "str_iterator" (.inr rfl)) ⟨_, Heap.get?_push_size _ rfl, rfl, rfl⟩ q)
    · exact wpAny_pyIter_ascii ha (pi_one (tk := s1.toks) I1 _ (turn_str _ z t "str_ascii_iterator" (.inl rfl)) ⟨_, Heap.get?_push_size _ rfl, rfl, rfl⟩ q)
theorem i_seq (he : ED X ex W Φ e c) : ID X ex W Φ false tg e c :=
  PI.imp (pi_seq he) fun σ H R ⟨Z, ρ, so, h⟩ => by
    refine tE_0 so h fun v ρ1 Z1 H1 st1 so1 ⟨xs, hx, q⟩ u ru => ?_
    obtain ⟨w, f⟩ := v
    cases ru with
    | str x hx' => cases hx; exact .inr (.inr ⟨_, rfl, q _ (it_str hx')⟩)
    | tup ht rs => cases hx; exact .inr (.inl ⟨_, rfl, ⟨_, (ht.zok so1.z).sq⟩, q _ (it_tup ht rs)⟩)
    | lst hl rs => cases hx; exact .inl ⟨_, rfl, ⟨_, .inl (.inl (zok_lst so1.z hl))⟩, q _ (it_list (.inl hl) rs)⟩
    | _ => cases hx
theorem args_I {o : Op} {a : CL} {b : Bool} {σ : L2.St} {H : Hp} {R : It → Hp → Prop} (h : tI X.K ex W b (den Φ (.op o a)) σ H R) : tArgs X.K ex W Φ a σ H fun us H1 => ∃ Z vs v xs, ZOk Z H1 ∧ PRepL X.K Z H1 us vs ∧ opDen o vs = some v ∧ itemsOf v = some xs ∧ ∀ J, ItOk X.K J Z b xs → R J H1 := by
  obtain ⟨Z, ρ, so, h⟩ := h
  unfold den at h
  refine args_ok a so (h.bind.mono fun as ρ1 Z1 H1 st so1 h1 us _ rs => ?_)
  split at h1
  · exact h1.elim
  · rename_i vs e1
    split at h1
    · exact h1.elim
    · rename_i v e2
      obtain ⟨xs, hx, q⟩ := h1.here so1
      exact ⟨Z1, vs, v, xs, so1.z, looked_ok rs so1 e1, e2, hx, q⟩
theorem i_rng1 {a : Expr} {ca : C} {p pos : Pos} (hg : Gl X "range") (hm : X.mg "range" = none) (ha : AD X ex W Φ a ca) (hs : starEach [a] X.env = [(false, eval a X.env)] := by rfl) : ID X ex W Φ false tg (.Call (.Name "range" p) [a] [] pos) (.op .rng1 (.cons ca .nil)) :=
  PI.imp (pi_range1 (ta := tArgs X.K ex W Φ (.cons ca .nil)) hg hm (k_a ha k_a0 hs) hs) fun σ H R q => by
    have := args_I q
    rw [tArgs_cons] at this
    show tArgs X.K ex W Φ (.cons ca .nil) σ H _
    rw [tArgs_cons]
    refine tA1_mono' this fun x H1 ⟨Z, vs, v, xs, hz, hp, hd, hx, q⟩ => ?_
    obtain ⟨p, rfl, h1⟩ := prepL_1 hp
    change dRng1 [p] = some v at hd
    unfold dRng1 at hd
    split at hd
    · rename_i n e
      cases e
      split at hd
      · rename_i hs
        cases hd
        cases hx
        cases prep_int h1
        unfold small at hs
        rw [Bool.and_eq_true] at hs
        have h2 := of_decide_eq_true hs.1
        have h3 := of_decide_eq_true hs.2
        exact ⟨n, rfl, by omega, by omega, q _ (it_rng 0 n.toNat)⟩
      · cases hd
    · cases hd
theorem i_rng2 {a b : Expr} {ca cb : C} {p pos : Pos} (hg : Gl X "range") (hm : X.mg "range" = none) (ha : AD X ex W Φ a ca) (hb : AD X ex W Φ b cb) (hs : starEach [a, b] X.env = [(false, eval a X.env), (false, eval b X.env)] := by rfl) (hs2 : starEach [b] X.env = [(false, eval b X.env)] := by rfl) :
    ID X ex W Φ false tg (.Call (.Name "range" p) [a, b] [] pos) (.op .rng2 (.cons ca (.cons cb .nil))) :=
  PI.imp (pi_range2 (ta := tArgs X.K ex W Φ (.cons ca (.cons cb .nil))) hg hm (k_a ha (k_a hb k_a0 hs2) (by rw [hs, hs2])) hs hs2) fun σ H R q => by
    have := args_I q
    rw [tArgs_cons, tArgs_cons] at this
    show tArgs X.K ex W Φ (.cons ca (.cons cb .nil)) σ H _
    rw [tArgs_cons, tArgs_cons]
    refine tA1_mono' this fun x H1 q => tA1_mono' q fun y H2 ⟨Z, vs, v, xs, hz, hp, hd, hx, q2⟩ => ?_
    obtain ⟨p, p', rfl, h1, h2⟩ := prepL_2 hp
    change dRng2 [p, p'] = some v at hd
    unfold dRng2 at hd
    split at hd
    · rename_i n m e
      cases e
      split at hd
      · rename_i hs
        cases hd
        cases hx
        cases prep_int h1
        cases prep_int h2
        unfold small at hs
        simp only [Bool.and_eq_true, decide_eq_true_eq] at hs
        obtain ⟨⟨g1, g2⟩, g3, g4⟩ := hs
        exact ⟨n, m, rfl, ⟨by omega, by omega, by omega, by omega⟩, q2 _ (it_rng n (m - n).toNat)⟩
      · cases hd
    · cases hd
end
/-! ### for -/
/-- storing into the targets: one name, or several -/
def gTg (K : PySem.W.Frag) : List Nat → TG
  | [i] => gName i
  | is => gTup K is.length (gNames is)
section
variable {K : PySem.W.Frag} {ex : Nat → Value} {W : WX} {fx : List Nat} {D : Ends} {σ : L2.St} {Z H : Hp} {ρ : Env} {Φ : Fun}
theorem gTg_many {is : List Nat} (h : is.length ≠ 1) : gTg K is = gTup K is.length (gNames is) := by
  match is, h with
  | [], _ => rfl
  | [_], h => exact absurd rfl h
  | _ :: _ :: _, _ => rfl
theorem tg_ok {O : Addr → Prop} {Z0 H0 : Hp} {σ0 : L2.St} {is : List Nat} {b : Bool} {x : V} {p : PV} {ρ2 : Env} {Q : L2.St → Hp → Prop} (hb : b = true → is.length ≠ 1) (so : StOk K Z ρ σ H) (st : Step O (Own ρ σ) Z0 H0 Z H) (sm : Same fx σ0 σ) (it : Item K b Z H x p) (e : bindT is p ρ = some ρ2) (hn : noneIn fx is = true)
    (q : ∀ σ', StOk K Z ρ2 σ' H → Step O (Own ρ2 σ') Z0 H0 Z H → Same fx σ0 σ' → (∀ j, j ∉ is → σ'[j]? = σ[j]?) → Q σ' H) : gTg K is x σ H Q := by
  by_cases h1 : is.length = 1
  · match is, h1 with
    | [i], _ =>
      cases b with
      | true => exact absurd rfl (hb rfl)
      | false =>
        have hi := bindT_in e
        cases bindT_one e
        obtain ⟨so2, st2⟩ := StOk.put (f := false) (w := p) so st (show ValRep K O H0 (Own ρ σ) Z H x (p, false) from it) (hi i (by simp))
        exact q _ so2 st2 (sm.trans (same_set (noneIn_1 hn))) fun j hj => List.getElem?_set_ne fun z => hj (by simp [z])
  · rw [gTg_many h1]
    have hi := bindT_in e
    obtain ⟨vs, rfl, hl, rfl⟩ := bindT_many e h1
    obtain ⟨a, us, rfl, ht, rs⟩ : ∃ a us, x = .ref a ∧ SqT K H a us ∧ RepL K Z us vs := by
      cases b with
      | true =>
        obtain ⟨a, us, ps, e1, e2, e3, e4⟩ := (show ∃ a us ps, _ from it)
        cases e2
        exact ⟨a, us, e1, e3, e4⟩
      | false =>
        cases (show Rep K Z x (.tup vs) from it) with
        | tup ht rs => exact ⟨_, _, rfl, (ht.zok so.z).sq, rs⟩
    refine ⟨a, us, rfl, ht, by rw [rs.length, hl], ?_⟩
    have key : ∀ {is : List Nat} {us : List V} {σ1 : L2.St} {Q : L2.St → Hp → Prop}, gNames is us σ1 H (fun σ' H' => (∀ j, j ∉ is → σ'[j]? = σ1[j]?) → Q σ' H') → gNames is us σ1 H Q := by
      intro is
      induction is with
      | nil => intro us σ1 Q ⟨e, h⟩; exact ⟨e, h fun _ _ => rfl⟩
      | cons i is ih =>
        intro us σ1 Q ⟨v, r, e, h⟩
        refine ⟨v, r, e, ih (?_ : gNames is r (σ1.set i (some v)) H _)⟩
        have mono : ∀ {is : List Nat} {us : List V} {σ1 : L2.St} {H : Hp} {Q Q' : L2.St → Hp → Prop}, gNames is us σ1 H Q → (∀ s H, Q s H → Q' s H) → gNames is us σ1 H Q' := by
          intro is
          induction is with
          | nil => intro us σ1 H Q Q' ⟨e, h⟩ k; exact ⟨e, k _ _ h⟩
          | cons i is ih2 => intro us σ1 H Q Q' ⟨v, r, e, h⟩ k; exact ⟨v, r, e, ih2 h k⟩
        refine mono h fun s H q hs => q fun j hj => ?_
        rw [List.mem_cons, not_or] at hj
        rw [hs j hj.2, List.getElem?_set_ne (Ne.symm hj.1)]
    refine key (names_ok rs hl so st hi hn sm fun σ' so' st' sm' hs => q σ' so' st' sm' hs)
theorem item_zle {b : Bool} {Z' H' : Hp} {x : V} {p : PV} (h : Item K b Z H x p) (g : ∀ a xs, SqT K H a xs → SqT K H' a xs) (hz : ZLe Z Z') : Item K b Z' H' x p := by
  cases b with
  | true =>
    obtain ⟨a, us, ps, e1, e2, e3, e4⟩ := (show ∃ a us ps, _ from h)
    exact ⟨a, us, ps, e1, e2, g _ _ e3, e4.mono hz⟩
  | false => exact Rep.mono hz h
theorem for_ok {is : List Nat} {it : C} {b : Bool} {body : S} (hb : b = true → is.length ≠ 1) (h : tS K ex W fx (exe Φ fx (.for is it body)) D σ H) :
    tFor (tI K ex W b (den Φ it)) (gTg K is) (tS K ex W fx (exe Φ fx body)) D σ H := by
  obtain ⟨Z, ρ, so, h⟩ := h
  unfold exe at h
  refine ⟨Z, ρ, so, (OutS.bindE h).mono fun v ρ1 Z1 H1 st1 so1 h1 => ?_⟩
  split at h1
  · rename_i xs hx
    split at h1
    · rename_i hn
      refine ⟨xs, hx, fun J jo => ?_⟩
      refine ⟨fun i m σ' H' => i ≤ xs.length ∧ m = xs.length - i ∧ ∃ Z' ρ', ZLe Z1 Z' ∧ StOk K Z' ρ' σ' H' ∧ OutS K ex W fx D σ' Z' H' ρ' (forLoop (fun ρ => exe Φ fx body ρ) is (xs.drop i) ρ'), ⟨xs.length, Nat.zero_le _, rfl, Z1, ρ1, .refl, so1, h1⟩, ?_⟩
      intro i m σ' H' ⟨hile, hm, Z', ρ', hz, so', h'⟩
      by_cases hlt : i < xs.length
      · refine .inr ⟨jo.go i Z' H' hz so'.z hlt, fun σ2 H2 => (i + 1 ≤ xs.length ∧ ∃ Z' ρ', ZLe Z1 Z' ∧ StOk K Z' ρ' σ2 H2 ∧ OutS K ex W fx D σ2 Z' H2 ρ' (forLoop (fun ρ => exe Φ fx body ρ) is (xs.drop (i + 1)) ρ')), fun σ2 H2 ⟨g1, g2⟩ => ⟨xs.length - (i + 1), by omega, g1, rfl, g2⟩, fun x H2 hy => ?_⟩
        have hxi : xs[i]? = some xs[i] := List.getElem?_eq_getElem hlt
        obtain ⟨Z2, g, im⟩ := jo.yld i _ Z' H' x H2 hz so'.z hxi hy
        rw [List.drop_eq_getElem_cons hlt] at h'
        unfold forLoop at h'
        split at h'
        · exact h'.elim
        · rename_i ρ2 e2
          have so2 := so'.grow g
          refine tg_ok (σ0 := σ') hb so2 (Step.grow g) .refl im e2 hn fun σ3 so3 st3 sm3 _ => ?_
          refine ⟨Z2, ρ2, so3, OutS.bind (h'.rebase st3 sm3) fun fl ρ4 σ4 Z4 H4 st4 so4 sm4 h4 h5 => ?_⟩
          have hz4 : ZLe Z1 Z4 := (hz.trans g.z).trans st4.zm
          cases fl with
          | nx => exact ⟨hlt, Z4, ρ4, hz4, so4, h4⟩
          | ct => exact ⟨hlt, Z4, ρ4, hz4, so4, h4⟩
          | bk => exact h5 .nx rfl
          | rt v b => exact h5 _ rfl
      · refine .inl ⟨?_, ?_⟩
        · have := jo.stop Z' H' hz so'.z
          have e : i = xs.length := by omega
          rw [e]; exact this
        · have e : xs.drop i = [] := List.drop_eq_nil_of_le (by omega)
          rw [e] at h'
          exact h'.here so'
    · exact h1.elim
  · exact h1.elim
end
end Tl
end
section
set_option linter.all false
set_option maxRecDepth 100000
namespace Tl
open PySem PySem.Spec L2
section
variable {X : Cx} {ex : Nat → Value} {W : WX} {Φ : Fun} {fx : List Nat} {pos : Pos}
theorem g_one {i : Nat} {x : Str} {p : Pos} (hN : X.N.Nodup) (hi : X.N[i]? = some x) (hx : Loc X.env.scope x) (hf : X.fn x = true ∨ X.env.scope.names.lookup x = some .local := by first | exact .inl rfl | exact .inr rfl | assumption) : PG X (.Name x p) (gTg X.K [i]) := pg_name hN hi hx hf
theorem g_many {is : List Nat} {es : List Expr} {k : Nat} {p : Pos} (hc : X.calm = true) (hl : is.length ≠ 1) (hg : PGs X es (gNames is)) (hn : (assignEach es X.env).length = is.length := by rfl) (hst : (assignEach es X.env).findIdx? (·.1) = none := by rfl) : PG X (.Tuple es k p) (gTg X.K is) := by
  rw [gTg_many hl]; exact pg_tup hc hg hn hst
theorem s_for {tg iter : Expr} {body : List Stmt} {is : List Nat} {c : C} {b : Bool} {sb : S} (hp : PassesOwn (model X.prog X.w) X.A X.env X.xe) (hc : X.calm = true) (hb : b = true → is.length ≠ 1) (hi : ID X ex W Φ b tg iter c) (hg : PG X tg (gTg X.K is)) (hbd : BD X ex W Φ fx body sb)
    (hs : ∀ x, foldedSetIterable iter X.env x = pure x := by intro _; rfl) : SD X ex W Φ fx (.For tg iter body [] pos) (.for is c sb) :=
  PS.imp (ps_for hp hc hi hg hbd hs) fun D σ H q => for_ok hb q
/-! ### try -/
def litV : PV → V
  | .bl b => .bl b
  | .int i => .int i
  | .str x => .str (asT x)
  | _ => .non
def isLit : PV → Bool
  | .non => true
  | .bl _ => true
  | .int _ => true
  | .str x => x.all (· < 128)
  | _ => false
theorem lit_rep {K : PySem.W.Frag} {Z : Hp} : ∀ {p : PV}, isLit p = true → Rep K Z (litV p) p
  | .non, _ => .non
  | .bl b, _ => .bl b
  | .int i, _ => .int i
  | .str x, h => .str x fun c hc => by simpa using List.all_eq_true.mp h c hc
def hdl (ex : Nat → Value) (h : Nat × PV) : Value × (Addr → Value → Option Addr → TS) := (ex h.1, fun _ _ _ => tRet (tC (litV h.2)))
theorem try_ok {K : PySem.W.Frag} {D : Ends} {σ : L2.St} {H : Hp} {n : Nat} {b : S} {hs : List (Nat × PV)} (hx : ∀ x, x < n → ∀ h ∈ hs, PySem.W.exmOne K (ex x) (ex h.1) = some (h.1 == x)) (hl : ∀ h ∈ hs, isLit h.2 = true) (q : tS K ex W fx (exe Φ fx (.try n b hs)) D σ H) :
    tS K ex (wMany K W D (hs.map (hdl ex))) fx (exe Φ fx b) D σ H := by
  obtain ⟨Z, ρ, so, q⟩ := q
  refine ⟨Z, ρ, so, ?_⟩
  unfold exe at q
  generalize exe Φ fx b ρ = r at q
  match r, q with
  | some (.val f, ρ'), q => exact q
  | some (.exn x, ρ'), q =>
    intro σ' Z' H' st so' sm
    have q : OutS K ex W fx D σ Z H ρ (if x < n then (match hs.find? fun h => h.1 == x with | some h => some (.val (.rt h.2 false), ρ') | none => some (.exn x, ρ')) else none) := q
    split at q
    · rename_i hn
      have key : ∀ {l : List (Nat × PV)}, (∀ h ∈ l, PySem.W.exmOne K (ex x) (ex h.1) = some (h.1 == x)) → (∀ h ∈ l, isLit h.2 = true) →
          OutS K ex W fx D σ Z H ρ (match l.find? fun h => h.1 == x with | some h => some (.val (.rt h.2 false), ρ') | none => some (.exn x, ρ')) → wMany K W D (l.map (hdl ex)) (ex x) none σ' H' := by
        intro l
        induction l with
        | nil => intro _ _ q; exact q σ' Z' H' st so' sm
        | cons h l ih =>
          intro hx hl q
          refine ⟨h.1 == x, hx h (by simp), fun e a _ => ?_, fun e => ?_⟩
          · rw [List.find?_cons, e] at q
            exact q σ' Z' H' st so' sm (litV h.2) (lit_rep (hl h (by simp)))
          · rw [List.find?_cons, e] at q
            exact ih (fun h hh => hx h (by simp [hh])) (fun h hh => hl h (by simp [hh])) q
      exact key (fun h hh => hx x hn h hh) hl q
    · exact q.elim
theorem s_try {n : Nat} {hs : List (Nat × PV)} {b : S} {body : List Stmt} {h₀ : ExceptHandler} {hds : List ExceptHandler} (hst : X.stack = X.env :: X.outer) (hf : X.env.frame = some X.env.locals) (tk : Takes X W)
    (hb : ∀ (W : WX) (pn : List (Addr × Obj)) (xe : Value → Shared → Prop), Takes (X.tr pn xe) W → PassesOwn (model X.prog X.w) X.A X.env xe → BD (X.tr pn xe) ex W Φ fx body b)
    (hh : HdsOk X (h₀ :: hds) (hs.map (hdl ex))) (hx : ∀ x, x < n → ∀ h ∈ hs, PySem.W.exmOne X.K (ex x) (ex h.1) = some (h.1 == x)) (hl : ∀ h ∈ hs, isLit h.2 = true) :
    SD X ex W Φ fx (.Try body (h₀ :: hds) [] [] pos) (.try n b hs) :=
  PS.imp (ps_try_many (tb := fun W' => tS X.K ex W' fx (exe Φ fx b)) hst hf tk hb hh) fun D σ H q => try_ok hx hl q
theorem h_nil : HdsOk X [] ([].map (hdl ex)) := .nil
theorem h_cons {x : Str} {np pos' p2 : Pos} {e : Expr} {h : Nat × PV} {hs : List (Nat × PV)} {hds : List ExceptHandler} (hc : Names X x (ex h.1)) (he : ∀ (a : Addr) (pn : List (Addr × Obj)), PE (X.suite a pn) e (tC (litV h.2))) (r : HdsOk X hds (hs.map (hdl ex))) :
    HdsOk X (.ExceptHandler (some (.Name x np)) none [.Return (some e) p2] pos' :: hds) ((h :: hs).map (hdl ex)) := .cons hc (fun a oe cls d pn _ _ => pss_one (ps_ret (he a _))) r
end
/-! ### a def -/
section
variable {K : PySem.W.Frag} {ex : Nat → Value} {Z H : Hp} {Φ : Fun}
theorem lrep_sh {bs : List Bool} {us : List V} {vs : List PV} {as : List Addr} (h : LRep K Z H bs us vs as) : ∀ {i : Nat} {p : PV}, (bs.zip vs)[i]? = some (false, p) → ∃ u, us[i]? = some u ∧ Rep K Z u p := by
  induction h with
  | nil => intro i p e; simp at e
  | t o _ ih =>
    intro i p e
    cases i with
    | zero => simp at e
    | succ i => exact ih (by simpa using e)
  | f r _ ih =>
    intro i p e
    cases i with
    | zero => simp at e; subst e; exact ⟨_, rfl, r⟩
    | succ i => exact ih (by simpa using e)
theorem lrep_ow {bs : List Bool} {us : List V} {vs : List PV} {as : List Addr} (h : LRep K Z H bs us vs as) : ∀ {i : Nat} {p : PV}, (bs.zip vs)[i]? = some (true, p) → ∃ a ∈ as, us[i]? = some (.ref a) ∧ OwnRep K Z H a p := by
  induction h with
  | nil => intro i p e; simp at e
  | t o _ ih =>
    intro i p e
    cases i with
    | zero => simp at e; subst e; exact ⟨_, by simp, rfl, o⟩
    | succ i => obtain ⟨a, h1, h2⟩ := ih (by simpa using e); exact ⟨a, by simp [h1], h2⟩
  | f r _ ih =>
    intro i p e
    cases i with
    | zero => simp at e
    | succ i => exact ih (by simpa using e)
theorem lrep_inj {bs : List Bool} {us : List V} {vs : List PV} {as : List Addr} (h : LRep K Z H bs us vs as) : as.Nodup → ∀ {i j : Nat} {p q : PV} {a : Addr}, (bs.zip vs)[i]? = some (true, p) → (bs.zip vs)[j]? = some (true, q) → us[i]? = some (.ref a) → us[j]? = some (.ref a) → i = j := by
  induction h with
  | nil => intro _ i j p q a e; simp at e
  | @t bs us vs as b v o r ih =>
    intro nd i j p q a e1 e2 e3 e4
    rw [List.nodup_cons] at nd
    have no : ∀ {i : Nat} {p : PV}, (bs.zip vs)[i]? = some (true, p) → us[i]? = some (.ref b) → False := fun e1 e3 => by
      obtain ⟨c, h1, h2, _⟩ := lrep_ow r e1
      rw [e3] at h2; cases h2
      exact nd.1 h1
    cases i with
    | zero =>
      cases j with
      | zero => rfl
      | succ j => simp at e3; subst e3; exact (no (by simpa using e2) (by simpa using e4)).elim
    | succ i =>
      cases j with
      | zero => simp at e4; subst e4; exact (no (by simpa using e1) (by simpa using e3)).elim
      | succ j => have := ih nd.2 (i := i) (j := j) (p := p) (q := q) (a := a) (by simpa using e1) (by simpa using e2) (by simpa using e3) (by simpa using e4); omega
  | f r _ ih =>
    intro nd i j p q a e1 e2 e3 e4
    cases i with
    | zero => simp at e1
    | succ i =>
      cases j with
      | zero => simp at e2
      | succ j => have := ih nd (i := i) (j := j) (p := p) (q := q) (a := a) (by simpa using e1) (by simpa using e2) (by simpa using e3) (by simpa using e4); omega
theorem lrep_mem {bs : List Bool} {us : List V} {vs : List PV} {as : List Addr} (h : LRep K Z H bs us vs as) : ∀ a ∈ as, ∃ (i : Nat) (p : PV), (bs.zip vs)[i]? = some (true, p) ∧ us[i]? = some (.ref a) := by
  induction h with
  | nil => intro a h; cases h
  | t o _ ih =>
    intro a h
    rcases List.mem_cons.mp h with rfl | h
    · exact ⟨0, _, rfl, rfl⟩
    · obtain ⟨i, p, h1, h2⟩ := ih a h; exact ⟨i + 1, p, by simpa using h1, by simpa using h2⟩
  | f r _ ih => intro a h; obtain ⟨i, p, h1, h2⟩ := ih a h; exact ⟨i + 1, p, by simpa using h1, by simpa using h2⟩
theorem app_get {α : Type} {l : List α} {n i : Nat} {x : α} (e : (l.map some ++ List.replicate n none)[i]? = some (some x)) : l[i]? = some x := by
  by_cases h : i < l.length
  · rw [List.getElem?_append_left (by simpa using h), List.getElem?_map] at e
    cases h2 : l[i]? with
    | none => rw [h2] at e; cases e
    | some y => rw [h2] at e; cases e; rfl
  · rw [List.getElem?_append_right (by simpa using h), List.getElem?_replicate] at e
    split at e <;> cases e
theorem get_app {α : Type} {l : List α} {n i : Nat} {x : α} (e : l[i]? = some x) : (l.map some ++ List.replicate n none)[i]? = some (some x) := by
  have h : i < l.length := (List.getElem?_eq_some_iff.mp e).1
  rw [List.getElem?_append_left (by simpa using h), List.getElem?_map, e]; rfl
theorem start_ok {fn : Fn} {N : List Str} {us : List V} {vs : List PV} {as : List Addr} (hz : ZOk Z H) (lr : LRep K Z H fn.lent us vs as) (nd : as.Nodup) (hN : N.length = fn.names) : StOk K Z (entry fn vs) (L2.start N us) H ∧ (∀ a, Own (entry fn vs) (L2.start N us) a ↔ a ∈ as) := by
  have hl := lr.len
  have hu : us.length = vs.length := by rw [hl.1, hl.2]
  refine ⟨⟨hz, ?_, fun i p e => ?_, fun i p e => ?_, fun i j p q a e1 e2 e3 e4 => lrep_inj lr nd (app_get e1) (app_get e2) (app_get e3) (app_get e4)⟩, fun a => ⟨fun ⟨i, p, e1, e2⟩ => ?_, fun h => ?_⟩⟩
  · unfold entry L2.start
    simp [hN, hu, hl.2]
  · obtain ⟨u, h1, h2⟩ := lrep_sh lr (app_get e)
    exact ⟨u, get_app h1, h2⟩
  · obtain ⟨a, _, h1, h2⟩ := lrep_ow lr (app_get e)
    exact ⟨a, get_app h1, h2⟩
  · obtain ⟨b, h0, h1, h2⟩ := lrep_ow lr (app_get e1)
    have e5 : us[i]? = some (V.ref a) := app_get e2
    rw [e5] at h1; cases h1
    exact h0
  · obtain ⟨i, p, h1, h2⟩ := lrep_mem lr a h
    exact ⟨i, p, get_app h1, get_app h2⟩
theorem backs_ok {ρ : Env} {σ : L2.St} (so : StOk K Z ρ σ H) : ∀ {bs : List Bool} {us : List V} {vs ws : List PV} {as : List Addr} {n : Nat} {Z0 H0 : Hp}, LRep K Z0 H0 bs us vs as → backs ρ (lentIx n bs) = some ws → (∀ i ∈ lentIx n bs, ∀ u, us[i - n]? = some u → σ[i]? = some (some u)) →
    OwnAll K Z H as ws ∧ ∀ a ∈ as, Own ρ σ a
  | _, _, _, _, _, n, _, _, .nil, e, _ => by cases e; exact ⟨.nil, fun a h => by cases h⟩
  | true :: bs, _, _, _, _, n, _, _, .t (us := us) o r, e, hs => by
    unfold lentIx backs at e
    split at e
    · rename_i w ws' e1 e2
      cases e
      have sub : ∀ {bs : List Bool} {n i : Nat}, i ∈ lentIx n bs → n ≤ i := fun {bs} => by
        induction bs with
        | nil => intro n i h; cases h
        | cons b bs ih =>
          intro n i h
          cases b with
          | true =>
            rcases List.mem_cons.mp h with rfl | h
            · exact Nat.le_refl _
            · have := ih h; omega
          | false => have := ih (show i ∈ lentIx (n + 1) bs from h); omega
      obtain ⟨h1, h2⟩ := backs_ok so r e2 fun i hi u hu => hs i (by unfold lentIx; exact List.mem_cons_of_mem _ hi) u (by
        have := sub hi
        have e : i - n = (i - (n + 1)) + 1 := by omega
        rw [e, List.getElem?_cons_succ]; exact hu)
      have hn := hs n (by unfold lentIx; simp) _ (by rw [Nat.sub_self]; rfl)
      obtain ⟨a, g1, g2⟩ := so.ow n w e1
      rw [hn] at g1; cases g1
      exact ⟨.cons g2 h1, fun a h => by
        rcases List.mem_cons.mp h with rfl | h
        · exact ⟨n, w, e1, hn⟩
        · exact h2 a h⟩
    · cases e
  | false :: bs, _, _, _, _, n, _, _, .f (us := us) o r, e, hs => by
    have sub : ∀ {bs : List Bool} {n i : Nat}, i ∈ lentIx n bs → n ≤ i := fun {bs} => by
      induction bs with
      | nil => intro n i h; cases h
      | cons b bs ih =>
        intro n i h
        cases b with
        | true =>
          rcases List.mem_cons.mp h with rfl | h
          · exact Nat.le_refl _
          · have := ih h; omega
        | false => have := ih (show i ∈ lentIx (n + 1) bs from h); omega
    exact backs_ok so r (show backs ρ (lentIx (n + 1) bs) = some _ from e) fun i hi u hu => hs i hi u (by
      have := sub hi
      have e : i - n = (i - (n + 1)) + 1 := by omega
      rw [e, List.getElem?_cons_succ]; exact hu)
end
section
variable {P : Program} {w : World} {K : PySem.W.Frag} {mg : Str → Option Value} {base : Heap} {f : Addr} {fd : FuncData} {x qual : Str} {params : Arguments} {body : List Stmt} {scope : Scope} {ex : Nat → Value} {Φ : Fun} {N ps : List Str} {k : Nat}
theorem fn_ok {fn : Fn} (F : FunD K x qual params body scope [] [] f fd) (S : FnScope N ps scope) (hps : ps.length = fn.lent.length) (hN : N.length = fn.names)
    (hbody : ∀ (cdv : Value) (A : Around) (outer : List PySem.Env) (s : Shared) (H : Hp) (E : XK), Room k (A.deeper (PyProof.Rows.envOfC qual scope s.heap.objs.size f cdv)) →
      BD (cxOf (L2.CX P w) P w K mg base N qual scope f cdv A outer s H E) ex (fun cls d _ H => E cls d H) Φ (lentIx 0 fn.lent) body fn.body) :
    FnOk P w K mg base (L2.CX P w) (k + 1) f fd ps (spD K ex (runFn Φ fn) fn.lent) := by
  refine F.ok S (fun vs H Q E h => by rw [hps]; exact spD_len h) fun cdv A outer s H us Q E hr hsp => ⟨_, hbody cdv A outer s H E hr, ?_⟩
  obtain ⟨Z, vs, as, r, ws, hz, lr, nd, e, kk⟩ := hsp
  obtain ⟨so, own⟩ := start_ok hz lr nd hN
  refine ⟨Z, entry fn vs, so, ?_⟩
  unfold runFn at e
  split at e
  · have fin : ∀ {ρ' σ' Z' H'}, backs ρ' (lentIx 0 fn.lent) = some ws → Step (Own (entry fn vs) (L2.start N us)) (Own ρ' σ') Z H Z' H' → StOk K Z' ρ' σ' H' → Same (lentIx 0 fn.lent) (L2.start N us) σ' →
        Step (· ∈ as) (· ∈ as) Z H Z' H' ∧ OwnAll K Z' H' as ws ∧ ∀ a ∈ as, Own ρ' σ' a := fun {ρ' σ' Z' H'} e st so' sm => by
      obtain ⟨h1, h2⟩ := backs_ok so' lr e fun i hi u hu => by
        rw [sm i hi]
        exact get_app hu
      exact ⟨st.imp (fun a h => (own a).mp h) fun a h => .inr h, h1, h2⟩
    have vrt : ∀ {ρ' σ' Z' H' u v}, (∀ a ∈ as, Own ρ' σ' a) → ValRep K (Own (entry fn vs) (L2.start N us)) H (Own ρ' σ') Z' H' u v → ValRep K (· ∈ as) H (· ∈ as) Z' H' u v := fun {ρ' σ' Z' H' u v} h vr => by
      unfold ValRep at vr ⊢
      split
      · rename_i hv
        rw [if_pos hv] at vr
        obtain ⟨a, e1, r, n, q⟩ := vr
        exact ⟨a, e1, r, fun z => n (h a z), q.imp (fun z => (own a).mp z) id⟩
      · rename_i hv
        rw [if_neg hv] at vr
        exact vr
    generalize exe Φ (lentIx 0 fn.lent) fn.body (entry fn vs) = m at e
    match m, e with
    | some (.val .nx, ρ'), e =>
      obtain ⟨ws', e1, e2⟩ := Option.map_eq_some_iff.mp e
      cases e2
      intro σ' Z' H' st so' sm
      obtain ⟨h1, h2, h3⟩ := fin e1 st so' sm
      exact kk Z' H' h1 so'.z h2 .non .non
    | some (.val (.rt v b), ρ'), e =>
      obtain ⟨ws', e1, e2⟩ := Option.map_eq_some_iff.mp e
      cases e2
      intro σ' Z' H' st so' sm u vr
      obtain ⟨h1, h2, h3⟩ := fin e1 st so' sm
      exact kk Z' H' h1 so'.z h2 u (vrt h3 vr)
    | some (.exn x, ρ'), e =>
      obtain ⟨ws', e1, e2⟩ := Option.map_eq_some_iff.mp e
      cases e2
      intro σ' Z' H' st so' sm
      obtain ⟨h1, h2, h3⟩ := fin e1 st so' sm
      exact kk Z' H' h1 so'.z h2
  · cases e
end
end Tl
end
section
set_option linter.all false
set_option maxRecDepth 100000
namespace Tl
open PySem PySem.Spec L2
def W0 : WX := fun _ _ _ _ => False
section
theorem wipe_get {σ : L2.St} {j : Nat} : ∀ {vs : List Nat}, (wipe σ vs)[j]? = if j ∈ vs then (if j < σ.length then some none else none) else σ[j]?
  | [] => by simp [wipe]
  | v :: vs => by
    unfold wipe
    by_cases h : v = j
    · subst h
      rw [if_pos (by simp), List.getElem?_set_self', wipe_get (vs := vs)]
      by_cases h2 : v < σ.length
      · rw [if_pos h2]
        by_cases h3 : v ∈ vs
        · rw [if_pos h3]; rfl
        · rw [if_neg h3, List.getElem?_eq_getElem h2]; rfl
      · rw [if_neg h2]
        by_cases h3 : v ∈ vs
        · rw [if_pos h3]; rfl
        · rw [if_neg h3, List.getElem?_eq_none (by omega)]; rfl
    · rw [List.getElem?_set_ne h, wipe_get (vs := vs)]
      by_cases h3 : j ∈ vs
      · rw [if_pos h3, if_pos (List.mem_cons_of_mem _ h3)]
      · rw [if_neg h3, if_neg (by simp [h3, Ne.symm h])]
theorem wipeP_len {ρ : Env} : ∀ {vs : List Nat}, (wipeP ρ vs).length = ρ.length
  | [] => rfl
  | v :: vs => by unfold wipeP; rw [List.length_set, wipeP_len (vs := vs)]
theorem wipeP_get {ρ : Env} {j : Nat} {s : Bool × PV} : ∀ {vs : List Nat}, (wipeP ρ vs)[j]? = some (some s) ↔ j ∉ vs ∧ ρ[j]? = some (some s)
  | [] => by simp [wipeP]
  | v :: vs => by
    unfold wipeP
    by_cases h : v = j
    · subst h
      constructor
      · intro e
        by_cases h2 : v < (wipeP ρ vs).length
        · rw [List.getElem?_set_self h2] at e; cases e
        · rw [List.getElem?_eq_none (by rw [List.length_set]; omega)] at e; cases e
      · intro ⟨h1, _⟩; exact absurd (by simp) h1
    · rw [List.getElem?_set_ne h, wipeP_get (vs := vs)]
      constructor
      · intro ⟨h1, h2⟩; exact ⟨by simp [h1, Ne.symm h], h2⟩
      · intro ⟨h1, h2⟩; exact ⟨fun z => h1 (by simp [z]), h2⟩
theorem keepP_len {ρ ρ' : Env} : ∀ {vs : List Nat}, (keepP ρ ρ' vs).length = ρ'.length
  | [] => rfl
  | v :: vs => by unfold keepP; rw [List.length_set, keepP_len (vs := vs)]
theorem keepP_get {ρ ρ' : Env} (hl : ρ'.length = ρ.length) {j : Nat} {s : Bool × PV} : ∀ {vs : List Nat}, (keepP ρ ρ' vs)[j]? = some (some s) → (j ∈ vs ∧ ρ[j]? = some (some s)) ∨ (j ∉ vs ∧ ρ'[j]? = some (some s))
  | [], e => .inr ⟨by simp, e⟩
  | v :: vs, e => by
    unfold keepP at e
    by_cases h : v = j
    · subst h
      refine .inl ⟨by simp, ?_⟩
      by_cases h2 : v < (keepP ρ ρ' vs).length
      · rw [List.getElem?_set_self h2] at e
        rw [keepP_len] at h2
        cases h3 : ρ[v]? with
        | none => rw [h3] at e; cases e
        | some x => rw [h3] at e; exact e
      · rw [List.getElem?_eq_none (by rw [List.length_set]; omega)] at e; cases e
    · rw [List.getElem?_set_ne h] at e
      rcases keepP_get hl e with ⟨h1, h2⟩ | ⟨h1, h2⟩
      · exact .inl ⟨by simp [h1], h2⟩
      · exact .inr ⟨by simp [h1, Ne.symm h], h2⟩
end
section
variable {K : PySem.W.Frag} {ex : Nat → Value} {W : WX} {σ σ2 σw : L2.St} {Z H : Hp} {ρ : Env} {Φ : Fun}
theorem wipe_ok {vs : List Nat} (so : StOk K Z ρ σ2 H) (e : wipe σ2 vs = σw) : StOk K Z (wipeP ρ vs) σw H ∧ ∀ a, Own (wipeP ρ vs) σw a → Own ρ σ2 a := by
  subst e
  have look : ∀ {i : Nat} {u : V}, i ∉ vs → σ2[i]? = some (some u) → (wipe σ2 vs)[i]? = some (some u) := fun h e => by rw [wipe_get, if_neg h]; exact e
  have back : ∀ {i : Nat} {u : V}, (wipe σ2 vs)[i]? = some (some u) → σ2[i]? = some (some u) := fun {i u} e => by
    rw [wipe_get] at e
    split at e
    · split at e <;> cases e
    · exact e
  refine ⟨⟨so.z, by rw [wipeP_len, wipe_length]; exact so.len, fun i p e => ?_, fun i p e => ?_, fun i j p q a e1 e2 e3 e4 => ?_⟩, fun a ⟨i, p, e1, e2⟩ => ⟨i, p, (wipeP_get.mp e1).2, back e2⟩⟩
  · obtain ⟨h1, h2⟩ := wipeP_get.mp e
    obtain ⟨u, g1, g2⟩ := so.sh i p h2
    exact ⟨u, look h1 g1, g2⟩
  · obtain ⟨h1, h2⟩ := wipeP_get.mp e
    obtain ⟨u, g1, g2⟩ := so.ow i p h2
    exact ⟨u, look h1 g1, g2⟩
  · exact so.inj i j p q a (wipeP_get.mp e1).2 (wipeP_get.mp e2).2 (back e3) (back e4)
theorem wipe_eq {is vs : List Nat} {σ σ2 : L2.St} (hl : σ2.length = (wipe σ vs).length) (hs : ∀ j, j ∉ is → σ2[j]? = (wipe σ vs)[j]?) (hi : ∀ j ∈ is, j ∈ vs) : wipe σ2 vs = wipe σ vs := by
  refine List.ext_getElem? fun j => ?_
  rw [wipe_length] at hl
  rw [wipe_get, wipe_get, hl]
  by_cases h : j ∈ vs
  · rw [if_pos h, if_pos h]
  · rw [if_neg h, if_neg h, hs j fun z => h (hi j z), wipe_get, if_neg h]
/-- a list that nobody else knows is written -/
theorem StOk.far {L : Addr} {x : HO} (so : StOk K Z ρ σ H) (hz : Z L = none) (hn : ¬ Own ρ σ L) : StOk K Z ρ σ (upd H L x) := by
  refine ⟨fun b u h => ?_, so.len, so.sh, fun i p e => ?_, so.inj⟩
  · have hb : b ≠ L := fun z => by subst z; rw [hz] at h; cases h
    rw [upd_ne hb]; exact so.z b u h
  · obtain ⟨a, e1, r⟩ := so.ow i p e
    have hb : a ≠ L := fun z => by subst z; exact hn ⟨i, p, e, e1⟩
    exact ⟨a, e1, r.move .refl r.1 fun u hu => by rw [upd_ne hb]; exact hu⟩
theorem Step.far {O O' : Addr → Prop} {Z' H' : Hp} {L : Addr} {x : HO} (st : Step O O' Z H Z' H') (h : H L = none) : Step O O' Z H Z' (upd H' L x) := by
  refine ⟨fun a u e n => ?_, st.zm, st.zn, st.on, fun a n => ?_⟩
  · have hb : a ≠ L := fun z => by subst z; rw [h] at e; cases e
    rw [upd_ne hb]; exact st.fr a u e n
  · by_cases hb : a = L
    · subst hb; rw [upd_same]; exact fun z => nomatch z
    · rw [upd_ne hb]; exact st.al a n
theorem keep_ok {own : List Nat} {ρ1 ρe : Env} {Z1 H1 Z' H' : Hp} (so1 : StOk K Z1 ρ1 σ H1) (soe : StOk K Z' ρe (wipe σ own) H') (st : Step (Own (wipeP ρ1 own) (wipe σ own)) (Own ρe (wipe σ own)) Z1 H1 Z' H') :
    StOk K Z' (keepP ρ1 ρe own) σ H' ∧ Step (Own ρ1 σ) (Own (keepP ρ1 ρe own) σ) Z1 H1 Z' H' ∧ ∀ a, Own (keepP ρ1 ρe own) σ a → Own ρ1 σ a ∨ Own ρe (wipe σ own) a := by
  obtain ⟨sow, oww⟩ := wipe_ok (vs := own) so1 rfl
  have hl : ρe.length = ρ1.length := by rw [soe.len, wipe_length, so1.len]
  have same : ∀ {i : Nat} {u : V}, i ∉ own → (wipe σ own)[i]? = some (some u) → σ[i]? = some (some u) := fun h e => by rw [wipe_get, if_neg h] at e; exact e
  have same' : ∀ {i : Nat} {u : V}, i ∉ own → σ[i]? = some (some u) → (wipe σ own)[i]? = some (some u) := fun h e => by rw [wipe_get, if_neg h]; exact e
  have apart : ∀ {i : Nat} {p : PV} {a : Addr}, i ∈ own → ρ1[i]? = some (some (true, p)) → σ[i]? = some (some (V.ref a)) → ¬ Own (wipeP ρ1 own) (wipe σ own) a := fun {i p a} hi e es ⟨j, q, e1, e2⟩ => by
    obtain ⟨h1, h2⟩ := wipeP_get.mp e1
    have := so1.inj i j p q a e h2 es (same h1 e2)
    subst this
    exact h1 hi
  have noe : ∀ {i : Nat} {p : PV} {a : Addr}, i ∈ own → ρ1[i]? = some (some (true, p)) → σ[i]? = some (some (V.ref a)) → ¬ Own ρe (wipe σ own) a := fun {i p a} hi e es z => by
    rcases st.on a z with z | z
    · exact apart hi e es z
    · exact so1.own_h ⟨i, p, e, es⟩ z
  refine ⟨⟨soe.z, by rw [keepP_len, hl]; exact so1.len, fun i p e => ?_, fun i p e => ?_, fun i j p q a e1 e2 e3 e4 => ?_⟩, ⟨fun a u e n => st.fr a u e fun z => n (oww a z), st.zm, fun a e h n => st.zn a e h fun z => n (oww a z), fun a ⟨i, p, e1, e2⟩ => ?_, st.al⟩, fun a ⟨i, p, e1, e2⟩ => ?_⟩
  · rcases keepP_get hl e with ⟨h1, h2⟩ | ⟨h1, h2⟩
    · obtain ⟨u, g1, g2⟩ := so1.sh i p h2; exact ⟨u, g1, g2.mono st.zm⟩
    · obtain ⟨u, g1, g2⟩ := soe.sh i p h2; exact ⟨u, same h1 g1, g2⟩
  · rcases keepP_get hl e with ⟨h1, h2⟩ | ⟨h1, h2⟩
    · obtain ⟨a, g1, g2⟩ := so1.ow i p h2
      have n := apart h1 h2 g1
      exact ⟨a, g1, g2.move st.zm (st.zn a g2.1 g2.h n) fun u hu => st.fr a u hu n⟩
    · obtain ⟨a, g1, g2⟩ := soe.ow i p h2; exact ⟨a, same h1 g1, g2⟩
  · rcases keepP_get hl e1 with ⟨h1, h2⟩ | ⟨h1, h2⟩ <;> rcases keepP_get hl e2 with ⟨k1, k2⟩ | ⟨k1, k2⟩
    · exact so1.inj i j p q a h2 k2 e3 e4
    · exact absurd ⟨j, q, k2, same' k1 e4⟩ (noe h1 h2 e3)
    · exact absurd ⟨i, p, h2, same' h1 e3⟩ (noe k1 k2 e4)
    · exact soe.inj i j p q a h2 k2 (same' h1 e3) (same' k1 e4)
  · rcases keepP_get hl e1 with ⟨h1, h2⟩ | ⟨h1, h2⟩
    · exact .inl ⟨i, p, h2, e2⟩
    · exact (st.on a ⟨i, p, h2, same' h1 e2⟩).imp (oww a) id
  · rcases keepP_get hl e1 with ⟨h1, h2⟩ | ⟨h1, h2⟩
    · exact .inl ⟨i, p, h2, e2⟩
    · exact .inr ⟨i, p, h2, same' h1 e2⟩
theorem foldT_len : ∀ {is : List Nat} {vs : List PV} {ρ : Env}, (foldT ρ is vs).length = ρ.length := by
  intro is
  induction is with
  | nil => intro vs ρ; rfl
  | cons i is ih =>
    intro vs ρ
    cases vs with
    | nil => rfl
    | cons v vs =>
      have := ih (vs := vs) (ρ := ρ.set i (some (false, v)))
      rw [List.length_set] at this
      exact this
theorem bindT_len {is : List Nat} {v : PV} {ρ ρ' : Env} (h : bindT is v ρ = some ρ') : ρ'.length = ρ.length := by
  by_cases h1 : is.length = 1
  · match is, h1 with
    | [i], _ => rw [bindT_one h, List.length_set]
  · obtain ⟨vs, _, _, rfl⟩ := bindT_many h h1
    exact foldT_len
theorem comp_ok {tg own : List Nat} {b : Bool} {it cond elt : C} {Q : VK} (hb : b = true → tg.length ≠ 1) (ht : ∀ j ∈ tg, j ∈ own) (h : tE K ex W (den Φ (.comp tg own it cond elt)) σ H Q) :
    tLc (tI K ex W b (den Φ it)) (gTg K tg) (tT K ex W0 (den Φ cond)) (tE K ex W0 (den Φ elt)) own σ H Q := by
  obtain ⟨Z, ρ, so, h⟩ := h
  unfold den at h
  refine ⟨Z, ρ, so, h.bind.mono fun v ρ1 Z1 H1 st1 so1 h1 => ?_⟩
  split at h1
  · exact h1.elim
  · rename_i xs hx
    split at h1
    · rename_i hbig
      refine ⟨xs, hx, fun J jo L hL => ?_⟩
      obtain ⟨sow, oww⟩ := wipe_ok (vs := own) so1 rfl
      obtain ⟨r, ρe, hr⟩ : ∃ r ρe, compLoop (fun ρ => den Φ cond ρ) (fun ρ => den Φ elt ρ) tg own xs [] (wipeP ρ1 own) = some (r, ρe) := by
        match e : compLoop (fun ρ => den Φ cond ρ) (fun ρ => den Φ elt ρ) tg own xs [] (wipeP ρ1 own) with
        | none => rw [e] at h1; exact h1.elim
        | some (r, ρe) => exact ⟨r, ρe, rfl⟩
      have zL : Z1 L = none := zok_none so1.z hL
      refine ⟨fun i m H' => i ≤ xs.length ∧ m = xs.length - i ∧ ∃ Z' ρ' us acc, StOk K Z' ρ' (wipe σ own) H' ∧ Step (Own (wipeP ρ1 own) (wipe σ own)) (Own ρ' (wipe σ own)) Z1 H1 Z' H' ∧ H' L = some (.lst us) ∧ RepL K Z' us acc ∧ Z' L = none ∧ ¬ Own ρ' (wipe σ own) L ∧ acc.length ≤ i ∧
        compLoop (fun ρ => den Φ cond ρ) (fun ρ => den Φ elt ρ) tg own (xs.drop i) acc ρ' = some (r, ρe), ⟨xs.length, Nat.zero_le _, rfl, Z1, wipeP ρ1 own, [], [], ?_, ?_, upd_same, .nil, zL, fun z => sow.own_h z hL, Nat.le_refl _, hr⟩, ?_⟩
      · exact sow.far zL fun z => sow.own_h z hL
      · exact Step.refl.far hL
      intro i m H' ⟨hile, hm, Z', ρ', us, acc, so', st', hL', rl, zL', nL, hacc, hc⟩
      by_cases hlt : i < xs.length
      · refine .inr ⟨jo.go i Z' H' st'.zm so'.z hlt, fun H2 => (i + 1 ≤ xs.length ∧ ∃ Z' ρ' us acc, StOk K Z' ρ' (wipe σ own) H2 ∧ Step (Own (wipeP ρ1 own) (wipe σ own)) (Own ρ' (wipe σ own)) Z1 H1 Z' H2 ∧ H2 L = some (.lst us) ∧ RepL K Z' us acc ∧ Z' L = none ∧ ¬ Own ρ' (wipe σ own) L ∧ acc.length ≤ i + 1 ∧
          compLoop (fun ρ => den Φ cond ρ) (fun ρ => den Φ elt ρ) tg own (xs.drop (i + 1)) acc ρ' = some (r, ρe)), fun H2 ⟨g1, g2⟩ => ⟨xs.length - (i + 1), by omega, g1, rfl, g2⟩, fun x H2 hy => ?_⟩
        have hxi : xs[i]? = some xs[i] := List.getElem?_eq_getElem hlt
        obtain ⟨Z2, g, im⟩ := jo.yld i _ Z' H' x H2 st'.zm so'.z hxi hy
        rw [List.drop_eq_getElem_cons hlt] at hc
        unfold compLoop at hc
        have so2 := so'.grow g
        split at hc
        · cases hc
        · rename_i ρ2 e2
          refine tg_ok (fx := []) (σ0 := wipe σ own) hb so2 (Step.grow g) .refl im e2 (by unfold noneIn; simp) fun σ3 so3 st3 sm3 hs3 => ?_
          have ew : wipe σ3 own = wipe σ own := wipe_eq (by rw [← so3.len, ← so'.len, bindT_len e2]) hs3 ht
          refine ⟨ew, Z2, ρ2, so3, ?_⟩
          split at hc
          · rename_i f ρ3 e3
            rw [show den Φ cond ρ2 = _ from e3]
            intro Z3 H3 st4 so4
            refine ⟨true, rfl, ?_⟩
            split at hc
            · rename_i v' f' ρ4 e4
              have h0 : Out K ex W0 σ3 Z3 H3 ρ3 (den Φ elt ρ3) fun w ρ' _ _ => w.1 = v' ∧ ρ' = ρ4 := by
                rw [show den Φ elt ρ3 = _ from e4]
                exact fun _ _ _ _ => ⟨rfl, rfl⟩
              refine tE_0 so4 h0 fun w ρ4' Z4 H4 st5 so5 ⟨ew', eρ⟩ u ru => ?_
              subst eρ
              rw [ew'] at ru
              have S : Step (Own ρ' (wipe σ own)) (Own ρ4' σ3) Z' H' Z4 H4 := st3.trans (st4.trans st5)
              have hL4 := S.fr L _ hL' nL
              have zL4 := S.zn L zL' (by rw [hL']; exact fun z => nomatch z) nL
              obtain ⟨so6, ow6⟩ := wipe_ok so5 ew
              have n6 : ¬ Own (wipeP ρ4' own) (wipe σ own) L := fun z => by
                rcases S.on L (ow6 L z) with z | z
                · exact nL z
                · rw [hL'] at z; cases z
              have hlen : us.length < sizeLine := by rw [rl.length, ← big_eq]; omega
              refine ⟨us, hL4, hlen, hlt, Z4, wipeP ρ4' own, us ++ [u], acc ++ [v'], so6.far zL4 n6, ?_, upd_same, (rl.mono S.zm).append (.cons ru .nil), zL4, n6, by simpa using hacc, hc⟩
              exact ((st'.trans S).imp (fun _ h => h) fun a h => .inl (ow6 a h)).far hL
            · cases hc
          · rename_i f ρ3 e3
            rw [show den Φ cond ρ2 = _ from e3]
            intro Z3 H3 st4 so4
            refine ⟨false, rfl, ?_⟩
            have S : Step (Own ρ' (wipe σ own)) (Own ρ3 σ3) Z' H' Z3 H3 := st3.trans st4
            have hL4 := S.fr L _ hL' nL
            have zL4 := S.zn L zL' (by rw [hL']; exact fun z => nomatch z) nL
            obtain ⟨so6, ow6⟩ := wipe_ok so4 ew
            have n6 : ¬ Own (wipeP ρ3 own) (wipe σ own) L := fun z => by
              rcases S.on L (ow6 L z) with z | z
              · exact nL z
              · rw [hL'] at z; cases z
            exact ⟨hlt, Z3, wipeP ρ3 own, us, acc, so6, (st'.trans S).imp (fun _ h => h) fun a h => .inl (ow6 a h), hL4, rl.mono S.zm, zL4, n6, by omega, hc⟩
          · cases hc
      · have e : xs.drop i = [] := List.drop_eq_nil_of_le (by omega)
        have ei : i = xs.length := by omega
        rw [e] at hc
        cases hc
        refine .inl ⟨by rw [ei]; exact jo.stop Z' H' st'.zm so'.z, ?_⟩
        rw [hr] at h1
        obtain ⟨so5, st5, ow5⟩ := keep_ok so1 so' st'
        refine h1 Z' H' st5 so5 _ ?_
        refine ⟨L, rfl, ⟨zL', .inl ⟨us, acc, rfl, hL', rl⟩⟩, fun z => ?_, .inr ?_⟩
        · rcases ow5 L z with z | z
          · exact so1.own_h z hL
          · exact nL z
        · cases e : H L with
          | none => rfl
          | some u => exact absurd hL (st1.al L (by rw [e]; exact fun z => nomatch z))
    · exact h1.elim
end
section
variable {X : Cx} {ex : Nat → Value} {W : WX} {Φ : Fun} {fx : List Nat} {pos : Pos}
theorem k_yes {X : Cx} : PTs X [] (tT X.K ex W0 (den Φ (.lit (.bl true)))) := ⟨fun pins s σ H Q I ⟨Z, ρ, so, q⟩ => by
  obtain ⟨b, e, q⟩ := Out.here (show Out X.K ex W0 σ Z H ρ (some (.val ((.bl true : PV), false), ρ)) _ from q) so
  cases e
  exact (pts_nil (X := X)).run pins s σ H Q I q⟩
theorem k_comp {elt tg iter : Expr} {ifs : List Expr} {scope : Scope} {own : List (Str × Nat)} {is : List Nat} {b : Bool} {ci cc ce : C} {oi : List Nat} (ho : own.map (·.2) = oi) (hc : X.calm = true) (hN : X.N.Nodup) (hb : b = true → is.length ≠ 1) (ht : ∀ j ∈ is, j ∈ oi) (hi : ID X ex W Φ b tg iter ci) (ok : BlkOk X.N X.env.scope scope own)
    (hg : ∀ (s : Shared) (H : Hp) (C : Addr) (cl : List (Str × Addr)) (fp : List Addr), PG (X.blk s H scope (compEnvC scope cl C X.env) fp) tg (gTg X.K is))
    (hts : ∀ (s : Shared) (H : Hp) (C : Addr) (cl : List (Str × Addr)) (fp : List Addr), PTs (X.blk s H scope (compEnvC scope cl C X.env) fp) ifs (tT X.K ex W0 (den Φ cc)))
    (he : ∀ (s : Shared) (H : Hp) (C : Addr) (cl : List (Str × Addr)) (fp : List Addr), ED (X.blk s H scope (compEnvC scope cl C X.env) fp) ex W0 Φ elt ce) (hs : ∀ x, foldedSetIterable iter X.env x = pure x := by intro _; rfl) :
    ED X ex W Φ (.ListComp elt [⟨tg, iter, ifs, 0⟩] scope pos) (.comp is oi ci cc ce) := by
  subst ho
  exact PE.imp (pe_lc hc hN hi ok hg hts he hs) fun σ H Q q => comp_ok hb ht q
/-- name = [..] on one line -/
theorem s_setC {i : Nat} {y : Str} {py spos : Pos} {elt tg iter : Expr} {ifs : List Expr} {scope : Scope} {own : List (Str × Nat)} {is : List Nat} {b : Bool} {ci cc ce : C} {oi : List Nat} (ho : own.map (·.2) = oi) (hc : X.calm = true) (hN : X.N.Nodup) (hy : X.N[i]? = some y) (hyl : X.env.scope.names.lookup y = some .local)
    (hsw : swapsWith (.ListComp elt [⟨tg, iter, ifs, 0⟩] scope pos) (some (.Name y py)) spos.line X.env = pure true) (hb : b = true → is.length ≠ 1) (ht : ∀ j ∈ is, j ∈ oi) (hi : ID X ex W Φ b tg iter ci) (ok : BlkOk X.N X.env.scope scope own)
    (hg : ∀ (s : Shared) (H : Hp) (C : Addr) (cl : List (Str × Addr)) (fp : List Addr), PG (X.blk s H scope (compEnvC scope cl C X.env) fp) tg (gTg X.K is))
    (hts : ∀ (s : Shared) (H : Hp) (C : Addr) (cl : List (Str × Addr)) (fp : List Addr), PTs (X.blk s H scope (compEnvC scope cl C X.env) fp) ifs (tT X.K ex W0 (den Φ cc)))
    (he : ∀ (s : Shared) (H : Hp) (C : Addr) (cl : List (Str × Addr)) (fp : List Addr), ED (X.blk s H scope (compEnvC scope cl C X.env) fp) ex W0 Φ elt ce) (hs : ∀ x, foldedSetIterable iter X.env x = pure x := by intro _; rfl) :
    SD X ex W Φ fx (.Assign [.Name y py] (.ListComp elt [⟨tg, iter, ifs, 0⟩] scope pos) spos) (.set i (.comp is oi ci cc ce)) := by
  subst ho
  exact PS.imp (ps_setLc hc hN hy hyl hsw hi ok hg hts he hs) fun D σ H q => comp_ok hb ht (set_ok q)
end
end Tl
end
section
set_option linter.all false
set_option maxRecDepth 100000
namespace Tl
open PySem PySem.Spec L2
section
variable {X : Cx} {ex : Nat → Value} {W : WX} {Φ : Fun} {fx : List Nat} {pos : Pos}
theorem k_int {i : Int} {j : Nat} : ED X ex W Φ (.Constant (.int i) j pos) (.lit (.int i)) := k_lit pe_int fun _ => .int _
theorem k_bl {b : Bool} {j : Nat} : ED X ex W Φ (.Constant (.bool b) j pos) (.lit (.bl b)) := k_lit pe_bl fun _ => .bl _
theorem k_non {j : Nat} : ED X ex W Φ (.Constant .none j pos) (.lit .non) := k_lit pe_non fun _ => .non
theorem k_str {x : List Nat} {y : Str} {j : Nat} (h : asT x = y) (a : (x.all (· < 128)) = true) : ED X ex W Φ (.Constant (.str y) j pos) (.lit (.str x)) := by
  subst h
  exact k_lit pe_str fun _ => .str _ fun c hc => by simpa using List.all_eq_true.mp a c hc
/-- a constant of the module -/
theorem k_gint {x : Str} {i : Int} (hg : Gl X x) (hm : ∃ t, X.mg x = some (.int i t)) (hd : (x == ("__debug__" : Str)) = false := by decide) : ED X ex W Φ (.Name x pos) (.lit (.int i)) := by
  obtain ⟨t, hm⟩ := hm
  exact k_lit (pe_glob (v := .int i) hg hm ⟨t, rfl⟩ hd) fun _ => .int _
theorem k_gstr {x : Str} {z : List Nat} (hg : Gl X x) (hm : ∃ t, X.mg x = some (.str (asT z) t)) (a : (z.all (· < 128)) = true) (hd : (x == ("__debug__" : Str)) = false := by decide) : ED X ex W Φ (.Name x pos) (.lit (.str z)) := by
  obtain ⟨t, hm⟩ := hm
  exact k_lit (pe_glob (v := .str (asT z)) hg hm ⟨t, rfl⟩ hd) fun _ => .str _ fun c hc => by simpa using List.all_eq_true.mp a c hc
theorem k_gref {x : Str} {p : PV} (hg : Gl X x) (hm : ∃ a, X.mg x = some (.ref a) ∧ ∀ Z, Rep X.K Z (.ref a) p) (hd : (x == ("__debug__" : Str)) = false := by decide) : ED X ex W Φ (.Name x pos) (.lit p) := by
  obtain ⟨a, hm, r⟩ := hm
  exact k_lit (pe_glob (v := .ref a) hg hm rfl hd) r
/-- a power of constants -/
theorem k_pow {i j k : Int} {a b : Nat} {p q : Pos} (hc : CPow i j) (hk : i ^ j.toNat = k) : ED X ex W Φ (.BinOp (.Constant (.int i) a p) .Pow (.Constant (.int j) b q) pos) (.lit (.int k)) :=
  PE.imp (pe_op op_pow pe_int pe_int) fun σ H Q ⟨Z, ρ, so, h⟩ => by
    refine ⟨i, j, rfl, rfl, hc, ?_⟩
    have := h.here so (.int k) (show Rep X.K Z (.int k) (.int k) from .int k)
    rw [← hk] at this
    exact this
end
/-! ### a def that is called by its name -/
structure Callee (P : Program) (w : World) (K : PySem.W.Frag) (mg : Str → Option Value) (base : Heap) (k : Nat) (x : Str) (ps : List Str) (sp : Sp) : Prop where
  ex : ∃ f fd, FnOk P w K mg base (L2.CX P w) k f fd ps sp ∧ mg x = some (.ref f) ∧ PySem.W.keepIn K (.ref f) = true ∧ Binds K fd ps []
section
variable {X : Cx} {ex : Nat → Value} {W : WX} {Φ : Fun} {k f : Nat} {x : Str} {ps : List Str} {p pos : Pos} {e : Expr} {es : List Expr} {bs : List Bool} {a : CL}
theorem k_fn (C : Callee X.prog X.w X.K X.mg X.base k x ps (spD X.K ex (Φ f) bs)) (hr : Room k X.A) (tk : Takes X W) (hg : Gl X x)
    (ha : PA X (e :: es) (tLent X.K ex W Φ bs a)) (hdb : (x == ("__debug__" : Str)) = false := by decide) (he : starEach (e :: es) X.env = (false, eval e X.env) :: starEach es X.env := by rfl) (hpl : (backTo pos (starEach es X.env)).any (·.1) = false := by rfl) :
    ED X ex W Φ (.Call (.Name x p) (e :: es) [] pos) (.call f bs a) := by
  obtain ⟨fa, fd, F, g, kp, b⟩ := C.ex
  exact k_call F hr g kp b tk hg ha hdb he hpl
abbrev exA (ea : Nat → Addr) : Nat → Value := fun n => .ref (ea n)
theorem xm_of {K : PySem.W.Frag} {n : Nat} {hs : List (Nat × PV)} {ea : Nat → Addr} (h : ∀ x, x < n → ∀ y, y ≠ 0 → y < n → PySem.W.exmOne K (.ref (ea x)) (.ref (ea y)) = some (y == x)) (hh : (hs.all fun h => decide (h.1 ≠ 0) && decide (h.1 < n)) = true) :
    ∀ x, x < n → ∀ h ∈ hs, PySem.W.exmOne K (exA ea x) (exA ea h.1) = some (h.1 == x) := fun x hx y hy => by
  have := List.all_eq_true.mp hh y hy
  rw [Bool.and_eq_true, decide_eq_true_eq, decide_eq_true_eq] at this
  exact h x hx y.1 this.1 this.2
theorem r200 {A : Around} {k : Nat} (hr : Room (k + 8) A) : A.units + 200 < cLine := by have := hr.un; omega
theorem r300 {A : Around} {k : Nat} (hr : Room (k + 8) A) : A.units + 300 < cLine := by have := hr.un; omega
theorem r1 {A : Around} {k : Nat} (hr : Room (k + 8) A) : A.units + 1 < cLine := by have := hr.un; omega
abbrev ve := PySem.F.excBase_ValueError
theorem takes0 {X : Cx} : Takes X W0 := takes_none5
end
section
variable {P : Program} {w : World} {K : PySem.W.Frag} {mg : Str → Option Value} {base : Heap} {x qual : Str} {params : Arguments} {body : List Stmt} {scope : Scope} {ex : Nat → Value} {N ps : List Str} {k n i : Nat} {T : List Fn}
theorem sp0 {bs : List Bool} {us : List V} {H : Hp} {Q : VK} {E : XK} (h : spD K ex (callN T 0 i) bs us H Q E) : False := by
  obtain ⟨_, vs, _, r, ws, _, _, _, e, _⟩ := h
  exact nomatch (show none = some (r, ws) from e)
theorem callee0 {f : Addr} {fd : FuncData} {bs : List Bool} (g : mg x = some (.ref f)) (kp : PySem.W.keepIn K (.ref f) = true) (b : Binds K fd ps []) : Callee P w K mg base k x ps (spD K ex (callN T 0 i) bs) :=
  ⟨f, fd, ⟨fun _ _ _ _ h => (sp0 h).elim, fun _ _ _ _ _ _ _ _ _ _ _ _ _ h => (sp0 h).elim⟩, g, kp, b⟩
theorem callee1 {f : Addr} {fd : FuncData} {fn : Fn} (hT : T[i]? = some fn) (F : FunD K x qual params body scope [] [] f fd) (g : mg x = some (.ref f)) (b : Binds K fd ps []) (S : FnScope N ps scope) (hps : ps.length = fn.lent.length) (hN : N.length = fn.names)
    (hbody : ∀ (cdv : Value) (A : Around) (outer : List PySem.Env) (s : Shared) (H : Hp) (E : XK), Room k (A.deeper (PyProof.Rows.envOfC qual scope s.heap.objs.size f cdv)) →
      BD (cxOf (L2.CX P w) P w K mg base N qual scope f cdv A outer s H E) ex (fun cls d _ H => E cls d H) (callN T n) (lentIx 0 fn.lent) body fn.body) :
    Callee P w K mg base (k + 1) x ps (spD K ex (callN T (n + 1) i) fn.lent) := by
  have e : callN T (n + 1) i = runFn (callN T n) fn := by
    funext vs
    show (match T[i]? with | some fn => runFn (callN T n) fn vs | none => none) = _
    rw [hT]
  rw [e]
  exact ⟨f, fd, fn_ok F S hps hN hbody, g, F.kp, b⟩
end
end Tl
end
section
set_option linter.all false
set_option maxRecDepth 100000
set_option Elab.async false
namespace Tl
open PySem PySem.Spec L2
open PySem.Froz hiding SD
/-! ### the table of a set: what an add keeps -/
theorem tail_keeps {ep : Nat} {es1 : Array (Int × Value)} {t2 : SetTable} {wd : Bool} (r : Ris t2.place.toList) : Ris (tailTx ep es1 t2 wd).2.2.place.toList ∧ (tailTx ep es1 t2 wd).2.2.led = t2.led := by
  unfold tailTx
  split
  · exact ⟨relayAll_ris .., relayAll_led ..⟩
  · exact ⟨r, rfl⟩
theorem add_keeps {h : Int} {v : Value} {D : PySem.Froz.SD} (r : Ris D.2.2.place.toList) : Ris (addTx h v D).2.2.place.toList ∧ (addTx h v D).2.2.led = D.2.2.led := by
  have h1 := layNew_ris D.2.2 D.1 h v r
  have h2 := layNew_led D.2.2 D.1 h v
  unfold addTx
  have key : Ris (if (layNew D.2.2 D.1 h v).2.1.plain = true then { (layNew D.2.2 D.1 h v).2.1 with plain := false } else (layNew D.2.2 D.1 h v).2.1).place.toList ∧
      (if (layNew D.2.2 D.1 h v).2.1.plain = true then { (layNew D.2.2 D.1 h v).2.1 with plain := false } else (layNew D.2.2 D.1 h v).2.1).led = D.2.2.led := by
    split
    · exact ⟨h1, h2⟩
    · exact ⟨h1, h2⟩
  obtain ⟨k1, k2⟩ := tail_keeps (ep := D.2.1) (es1 := (layNew D.2.2 D.1 h v).1) (wd := (layNew D.2.2 D.1 h v).2.2.1) key.1
  exact ⟨k1, k2.trans key.2⟩
/-- the set at a holds the texts l -/
def SetS (P : Program) (w : World) (h : Heap) (a : Addr) (l : List Str) : Prop := ∃ D : PySem.Froz.SD, h.get? a = some (sObj "set" D) ∧ TxOk P w D l ∧ Ris D.2.2.place.toList ∧ (w.params.followText "set-order" = true ∨ D.2.2.led = true) ∧ l.Nodup
section
variable {P : Program} {w : World} {A : Around} {E : Value → Shared → Prop} {s : Shared} {a : Addr} {l : List Str}
theorem setS_fresh {h : Heap} (e : h.get? a = some { cls := .type "set", dict := none, data := .set #[] 0 (.fresh 0 0 (!w.params.followText "set-order")) }) : SetS P w h a [] := by
  refine ⟨(#[], 0, .fresh 0 0 (!w.params.followText "set-order")), e, .nil rfl, List.Pairwise.nil, ?_, List.nodup_nil⟩
  show _ ∨ (!w.params.followText "set-order") = true
  cases w.params.followText "set-order"
  · exact .inr rfl
  · exact .inl rfl
/-- a text comes to the set -/
theorem setS_add {k : Str} {u : Tok} {Q : Bool → Shared → Prop} (R : SetS P w s.heap a l) (hb : l.length + 1 < scanBound)
    (hq : ∀ b h', Heap.SameBut a s.heap h' → SetS P w h' a (if k ∈ l then l else k :: l) → Q b { s with heap := h' }) : wpAny (model P w) A (setAddHashed a (.str k u) (hashStr w k)) Q E s := by
  obtain ⟨D, ho, F, r, hl, nd⟩ := id R
  by_cases hk : k ∈ l
  · rw [if_pos hk] at hq
    obtain ⟨es, ep, t⟩ := D
    have hd : (sObj "set" (es, ep, t)).data = .set es ep t := rfl
    have hkey : (strKind P w).is k (.str k u) = true := is_str k u
    obtain ⟨j, hj⟩ : ∃ j, List.findIdx? (fun e => (strKind P w).is k e.2) es.toList = some j := by
      cases hf : List.findIdx? (fun e => (strKind P w).is k e.2) es.toList with
      | some j => exact ⟨j, rfl⟩
      | none =>
        obtain ⟨e, he, q⟩ := (F.mem k).mp hk
        have := List.findIdx?_eq_none_iff.mp hf e he
        rw [q] at this; cases this
    unfold setAddHashed setAddHashedIn
    refine wpAny_holding (wpAny_bind (wpAny_setState_of ho hd F.fit ?_))
    dsimp only
    rw [byScan_of (x := Value.str k u) rfl (by have := F.sz; show es.size < scanBound; have : es.size = l.length := F.sz; omega) F.el]
    simp only [↓reduceIte]
    unfold setAddByScan
    refine wpAny_bind ?_
    refine wpAny_bind (wpAny_rule ?_)
    refine wpAny_bind (wpAny_setScan_of (knd := strKind P w) (k := k) hkey ho hd F.fit F.el ?_)
    rw [hj]
    dsimp only
    exact wpAny_pure (wpAny_pure (hq _ s.heap (Heap.SameBut.refl a s.heap) R))
  · rw [if_neg hk] at hq
    obtain ⟨r2, l2⟩ := add_keeps (h := hashStr w k) (v := .str k u) r
    refine add_x ho F hk hb (hq _ _ (Heap.SameBut.update s.heap a _) ⟨_, get_upd _ ho rfl, add_ok u F, r2, hl.imp id fun z => by rw [l2]; exact z, List.nodup_cons.mpr ⟨hk, nd⟩⟩)
/-- what a set has got of the first texts -/
def GotS (xs : List Str) (i : Nat) (l : List Str) : Prop := (∀ x, x ∈ l ↔ x ∈ xs.take i) ∧ l.length ≤ i
theorem gotS_next {xs : List Str} {i : Nat} {k : Str} (g : GotS xs i l) (hk : xs[i]? = some k) : GotS xs (i + 1) (if k ∈ l then l else k :: l) := by
  have e : xs.take (i + 1) = xs.take i ++ [k] := by rw [List.take_add_one, hk]; rfl
  split
  · rename_i hm
    refine ⟨fun x => ?_, by have := g.2; omega⟩
    rw [e, List.mem_append, List.mem_singleton, ← g.1 x]
    exact ⟨.inl, fun z => z.elim id fun z => z ▸ hm⟩
  · refine ⟨fun x => ?_, by have := g.2; simp; omega⟩
    rw [e, List.mem_append, List.mem_singleton, List.mem_cons, ← g.1 x]
    exact Or.comm
theorem setS_at {h h' : Heap} (R : SetS P w h a l) (k : ∀ o, h.get? a = some o → h'.get? a = some o) : SetS P w h' a l := by
  obtain ⟨D, ho, r⟩ := R
  exact ⟨D, k _ ho, r⟩
theorem updStrs {I : Addr} {fp wr : List Addr} {G : Array GenState → Array GenState → Prop} {n : Nat} {Pv : Nat → Value → Prop} {St : Nat → Shared → Prop} {R : Result → Shared → Prop}
    (V : WalksS P w A.in1 I fp wr G n Pv St) (S : Addr) (hSf : S ∉ fp) (xs : List Str) (hsz : xs.length = n) (hn : n < 64) (hval : ∀ i v, Pv i v → ∃ t k, xs[i]? = some k ∧ v = .str k t) :
    ∀ (k i : Nat) (s : Shared), n - i = k → i ≤ n → St i s → (∃ l, SetS P w s.heap S l ∧ GotS xs i l) →
      (∀ s' l, Moved (S :: wr) G s s' → SetS P w s'.heap S l → GotS xs n l → R (.ok (.ret .none)) s') → codeAny (model P w) A (.builtin "set.update.loop" ⟨[.ref S, .ref I], []⟩) R s := by
  have hSw : S ∉ wr := fun h => hSf (V.sub _ h)
  have hsub : ∀ b ∈ wr, b ∈ S :: wr := fun b hb => List.mem_cons_of_mem _ hb
  intro k
  induction k with
  | zero =>
    intro i s hk hi hst ⟨l, hS, g⟩ hR
    obtain rfl : i = n := by omega
    refine codeAny_builtin PyProof.Rows.F.entry_set_update_loop ?_
    rw [Around.under_plainId PyProof.Rows.F.plain_set_update_loop _]
    show wpAny _ A.in1 (pyNext (.ref I) >>= _) _ _ s
    refine wpAny_bind (V.done s _ _ hst fun s' hm => ?_)
    show wpAny _ A.in1 (ret Value.none) _ _ s'
    exact wpAny_pure (hR s' l (hm.mono hsub) (setS_at hS fun o e => hm.heap S o hSw e) g)
  | succ k ih =>
    intro i s hk hi hst ⟨l, hS, g⟩ hR
    have hlt : i < n := by omega
    refine codeAny_builtin PyProof.Rows.F.entry_set_update_loop ?_
    rw [Around.under_plainId PyProof.Rows.F.plain_set_update_loop _]
    show wpAny _ A.in1 (pyNext (.ref I) >>= _) _ _ s
    refine wpAny_bind (V.item i s _ _ hlt hst fun v s' hP hst' hm => ?_)
    obtain ⟨t, x, hx, rfl⟩ := hval i v hP
    have hS' : SetS P w s'.heap S l := setS_at hS fun o e => hm.heap S o hSw e
    show wpAny _ A.in1 (holding [Value.str x t] (setAdd S (.str x t)) >>= _) _ _ s'
    refine wpAny_bind (wpAny_holding ?_)
    unfold setAdd
    refine wpAny_holding ?_
    refine wpAny_bind ((strKind P w).pyHash (k := x) (is_str x t) ?_)
    refine setS_add (s := { s' with toks := s'.toks + 1 }) hS' (by have := g.2; unfold scanBound; omega) fun b h' hsb hS2 => ?_
    refine wpAny_pure ⟨plainId_quiet PyProof.Rows.F.plain_set_update_loop _, ih (i + 1) _ (by omega) hlt (V.frame _ s' _ _ hst' (Nat.le_succ _) fun b hb o e => ?_) ⟨_, hS2, gotS_next g hx⟩ fun s'' l'' hm'' hS'' g'' => ?_⟩
    · rw [hsb.2 b (fun h : b = S => hSf (by rw [← h]; exact hb))]; exact e
    · refine hR s'' l'' (Moved.trans V.gtrans ((hm.mono hsub).then_heap (Nat.le_succ _) fun b o hb e => ?_) hm'') hS'' g''
      rw [hsb.2 b (fun h : b = S => hb (by rw [h]; exact List.mem_cons_self))]; exact e
theorem strs_get : ∀ {us : List Value} {xs : List Str}, PyProof.Rows.StrsAre us xs → ∀ (i : Nat) (v : Value), us[i]? = some v → ∃ t k, xs[i]? = some k ∧ v = .str k t
  | _, _, .nil, i, v, h => by simp at h
  | _, _, .cons n t hr, 0, v, h => by simp at h; exact ⟨t, n, rfl, h.symm⟩
  | _, _, .cons n t hr, i + 1, v, h => by
    obtain ⟨t', k, e1, e2⟩ := strs_get hr i v (by simpa using h)
    exact ⟨t', k, by simpa using e1, e2⟩
set_option maxHeartbeats 3200000 in
theorem set_of_list {b : Addr} {items : Array Value} {xs : List Str} {Q : Value → Shared → Prop} (hh : A.handled = none) (hl : s.heap.IsList b items) (hi : PyProof.Rows.StrsAre items.toList xs) (h64 : xs.length < 64)
    (h : ∀ (h' : Heap) (tk : Nat) l, SetS P w h' s.heap.objs.size l → (∀ x, x ∈ l ↔ x ∈ xs) → l.length ≤ xs.length → (∀ b o, s.heap.get? b = some o → h'.get? b = some o) → Q (.ref s.heap.objs.size) { s with heap := h', toks := tk }) :
    wpAny (model P w) A (call (.type "set") [.ref b]) Q E s := by
  obtain ⟨c, tl, hmro⟩ := PySem.F.called_set.mro
  have hmade := PySem.F.called_set.made
  have hsub := PySem.F.called_set.sub
  have hsz : xs.length = items.size := by rw [← PyProof.Rows.StrsAre.len_eq hi, Array.length_toList]
  refine wpAny_call (codeAny_of_tree ?_)
  show wpAny _ _ (callAny (.type "set") _) _ _ _
  refine wpAny_pure ⟨Code.quiet_builtin _ (by decide +kernel), codeAny_builtin PySem.F.entry_type_call ?_⟩
  rw [Around.under_plain (weight_type_call_type "set" [.ref b] []) rfl]
  have h1 := PySem.F.called_set.notType
  have h2 := PySem.F.called_set.canCreate
  have hct := PySem.F.typeCall_set_1 (.ref b)
  repeat (any_goals (first | assumption | wp_step))
  refine codeAny_mono (code_set_led1 (.ref b) (E := E) (Q₁ := fun obj s₁ => obj = .ref s.heap.objs.size ∧ s₁ = { s with heap := s.heap.push ({ cls := .type "set", dict := none, data := .set #[] 0 (.fresh 0 0 (!w.params.followText "set-order")) } : Obj) }) ⟨rfl, rfl⟩) fun r s₁ hr => ?_
  cases r with
  | error e => exact hr
  | ok fl =>
    cases fl with
    | ret obj =>
      obtain ⟨rfl, rfl⟩ := hr
      have hS : (s.heap.push ({ cls := .type "set", dict := none, data := .set #[] 0 (.fresh 0 0 (!w.params.followText "set-order")) } : Obj)).get? s.heap.objs.size = some ({ cls := .type "set", dict := none, data := .set #[] 0 (.fresh 0 0 (!w.params.followText "set-order")) } : Obj) := Heap.get?_push_size _ rfl
      have hT : Shared.TypeIs { s with heap := s.heap.push ({ cls := .type "set", dict := none, data := .set #[] 0 (.fresh 0 0 (!w.params.followText "set-order")) } : Obj) } (.ref s.heap.objs.size) "set" := ⟨_, hS, rfl⟩
      have hli := PySem.F.called_set.init.lookup
      have hbi := PySem.F.called_set.init.bind (.ref s.heap.objs.size)
      repeat (any_goals (first | assumption | wp_step))
      refine codeAny_mono (codeAny_call_builtin (R := wants (fun r s₂ => r = .none ∧ ∃ h' tk l, s₂ = { s with heap := h', toks := tk } ∧ SetS P w h' s.heap.objs.size l ∧ GotS xs items.size l ∧ (∀ b o, s.heap.get? b = some o → h'.get? b = some o)) E) PySem.F.called_set.init.plain PySem.F.entry_set_init (check_set_init_1 hT ?_)) fun r₂ s₂ hr₂ => ?_
      · have hlS : b < s.heap.objs.size := by obtain ⟨_, e, _⟩ := hl; exact Heap.lt_size e
        have hl1 : (s.heap.push ({ cls := .type "set", dict := none, data := .set #[] 0 (.fresh 0 0 (!w.params.followText "set-order")) } : Obj)).IsList b items := hl.push _
        obtain ⟨ol, hol, hcl, nl, hdl⟩ := hl1
        obtain ⟨ocls, odict, odata, oslots⟩ := ol
        simp only at hcl hdl
        subst hcl; subst hdl
        have hl1 : (s.heap.push ({ cls := .type "set", dict := none, data := .set #[] 0 (.fresh 0 0 (!w.params.followText "set-order")) } : Obj)).IsList b items := ⟨_, hol, rfl, nl, rfl⟩
        have hsls := PySem.F.sub_list_set
        have hslf := PySem.F.sub_list_frozenset
        have hne : (Value.type "list" == Value.type "dict") = false := by decide
        unfold Builtin.«set.__init__» noKeywords Builtin.Frozenset.updateFrom
        generalize hPI : pyIter = PI
        wp_walk
        subst hPI
        refine wpAny_pyIter_list hl1 ?_
        refine wpAny_bind (wpAny_runValue ?_)
        have hh3 : A.in1.in1.in1.handled = none := by simp [hh]
        have hsp : (s.heap.push ({ cls := .type "set", dict := none, data := .set #[] 0 (.fresh 0 0 (!w.params.followText "set-order")) } : Obj)).objs.size = s.heap.objs.size + 1 := Heap.size_push ..
        have hneI : b ≠ (s.heap.push ({ cls := .type "set", dict := none, data := .set #[] 0 (.fresh 0 0 (!w.params.followText "set-order")) } : Obj)).objs.size := by rw [hsp]; exact Nat.ne_of_lt (Nat.lt_succ_of_lt hlS)
        have hSf : s.heap.objs.size ∉ [(s.heap.push ({ cls := .type "set", dict := none, data := .set #[] 0 (.fresh 0 0 (!w.params.followText "set-order")) } : Obj)).objs.size, b] := by
          rw [hsp]
          simp only [List.mem_cons, List.not_mem_nil, or_false, not_or]
          exact ⟨Nat.ne_of_lt (Nat.lt_succ_self _), Nat.ne_of_gt hlS⟩
        refine updStrs ((Walks.list hh3 _ b hneI items).toS) s.heap.objs.size hSf xs hsz (by rw [← hsz]; exact h64) (fun i v hv => strs_get hi i v (by rw [Array.getElem?_toList]; exact hv)) (items.size - 0) 0 _ (by omega) (Nat.zero_le _)
          ⟨⟨_, Heap.get?_push_size _ rfl, rfl, rfl⟩, (hl1.push _)⟩ ⟨[], setS_fresh ?_, ⟨fun x => by simp, Nat.le_refl _⟩⟩ fun s' l hm hS' g => ?_
        · exact Heap.get?_push_of_some _ hS
        · obtain ⟨h', g', d', tk', os'⟩ := s'
          cases (show g' = s.gens from hm.gens)
          cases (show d' = s.drawn from hm.drawn)
          cases (show os' = s.os from hm.os)
          show wpAny _ _ _ _ _ _
          refine wpAny_pure ?_
          show wpAny _ _ (ret Value.none) _ _ _
          refine wpAny_pure ⟨rfl, h', tk', l, rfl, hS', g, fun c o e => ?_⟩
          have hc := Heap.lt_size e
          refine hm.heap c o (fun z => ?_) (Heap.get?_push_of_some _ (Heap.get?_push_of_some _ e))
          rcases List.mem_cons.mp z with z | z
          · exact absurd hc (by rw [z]; exact Nat.lt_irrefl _)
          · have z := List.mem_singleton.mp z
            exact absurd hc (by rw [z, hsp]; exact Nat.not_lt_of_le (Nat.le_succ _))
      · cases r₂ with
        | error e => exact hr₂
        | ok fl₂ =>
          cases fl₂ with
          | ret r =>
            obtain ⟨rfl, h', tk, l, rfl, hS', g, hk'⟩ := hr₂
            repeat (any_goals (first | assumption | wp_step))
            rw [← hsz] at g
            exact h _ _ l hS' (fun x => by rw [g.1 x, List.take_length]) g.2 hk'
          | _ => exact hr₂.elim
    | _ => exact hr.elim
set_option maxHeartbeats 3200000 in
theorem set_of_tuple {b : Addr} {items : Array Value} {xs : List Str} {Q : Value → Shared → Prop} (hh : A.handled = none) (hl : s.heap.IsTuple b items) (hi : PyProof.Rows.StrsAre items.toList xs) (h64 : xs.length < 64)
    (h : ∀ (h' : Heap) (tk : Nat) l, SetS P w h' s.heap.objs.size l → (∀ x, x ∈ l ↔ x ∈ xs) → l.length ≤ xs.length → (∀ b o, s.heap.get? b = some o → h'.get? b = some o) → Q (.ref s.heap.objs.size) { s with heap := h', toks := tk }) :
    wpAny (model P w) A (call (.type "set") [.ref b]) Q E s := by
  obtain ⟨c, tl, hmro⟩ := PySem.F.called_set.mro
  have hmade := PySem.F.called_set.made
  have hsub := PySem.F.called_set.sub
  have hsz : xs.length = items.size := by rw [← PyProof.Rows.StrsAre.len_eq hi, Array.length_toList]
  refine wpAny_call (codeAny_of_tree ?_)
  show wpAny _ _ (callAny (.type "set") _) _ _ _
  refine wpAny_pure ⟨Code.quiet_builtin _ (by decide +kernel), codeAny_builtin PySem.F.entry_type_call ?_⟩
  rw [Around.under_plain (weight_type_call_type "set" [.ref b] []) rfl]
  have h1 := PySem.F.called_set.notType
  have h2 := PySem.F.called_set.canCreate
  have hct := PySem.F.typeCall_set_1 (.ref b)
  repeat (any_goals (first | assumption | wp_step))
  refine codeAny_mono (code_set_led1 (.ref b) (E := E) (Q₁ := fun obj s₁ => obj = .ref s.heap.objs.size ∧ s₁ = { s with heap := s.heap.push ({ cls := .type "set", dict := none, data := .set #[] 0 (.fresh 0 0 (!w.params.followText "set-order")) } : Obj) }) ⟨rfl, rfl⟩) fun r s₁ hr => ?_
  cases r with
  | error e => exact hr
  | ok fl =>
    cases fl with
    | ret obj =>
      obtain ⟨rfl, rfl⟩ := hr
      have hS : (s.heap.push ({ cls := .type "set", dict := none, data := .set #[] 0 (.fresh 0 0 (!w.params.followText "set-order")) } : Obj)).get? s.heap.objs.size = some ({ cls := .type "set", dict := none, data := .set #[] 0 (.fresh 0 0 (!w.params.followText "set-order")) } : Obj) := Heap.get?_push_size _ rfl
      have hT : Shared.TypeIs { s with heap := s.heap.push ({ cls := .type "set", dict := none, data := .set #[] 0 (.fresh 0 0 (!w.params.followText "set-order")) } : Obj) } (.ref s.heap.objs.size) "set" := ⟨_, hS, rfl⟩
      have hli := PySem.F.called_set.init.lookup
      have hbi := PySem.F.called_set.init.bind (.ref s.heap.objs.size)
      repeat (any_goals (first | assumption | wp_step))
      refine codeAny_mono (codeAny_call_builtin (R := wants (fun r s₂ => r = .none ∧ ∃ h' tk l, s₂ = { s with heap := h', toks := tk } ∧ SetS P w h' s.heap.objs.size l ∧ GotS xs items.size l ∧ (∀ b o, s.heap.get? b = some o → h'.get? b = some o)) E) PySem.F.called_set.init.plain PySem.F.entry_set_init (check_set_init_1 hT ?_)) fun r₂ s₂ hr₂ => ?_
      · have hlS : b < s.heap.objs.size := by obtain ⟨_, e, _⟩ := hl; exact Heap.lt_size e
        have hl1 : (s.heap.push ({ cls := .type "set", dict := none, data := .set #[] 0 (.fresh 0 0 (!w.params.followText "set-order")) } : Obj)).IsTuple b items := hl.push _
        obtain ⟨ol, hol, hcl, nl, hdl⟩ := hl1
        obtain ⟨ocls, odict, odata, oslots⟩ := ol
        simp only at hcl hdl
        subst hcl; subst hdl
        have hl1 : (s.heap.push ({ cls := .type "set", dict := none, data := .set #[] 0 (.fresh 0 0 (!w.params.followText "set-order")) } : Obj)).IsTuple b items := ⟨_, hol, rfl, nl, rfl⟩
        have hsls := PySem.F.sub_tuple_set
        have hslf := PySem.F.sub_tuple_frozenset
        have hne : (Value.type "tuple" == Value.type "dict") = false := by decide
        unfold Builtin.«set.__init__» noKeywords Builtin.Frozenset.updateFrom
        generalize hPI : pyIter = PI
        wp_walk
        subst hPI
        refine wpAny_pyIter_tuple hl1 ?_
        refine wpAny_bind (wpAny_runValue ?_)
        have hh3 : A.in1.in1.in1.handled = none := by simp [hh]
        have hsp : (s.heap.push ({ cls := .type "set", dict := none, data := .set #[] 0 (.fresh 0 0 (!w.params.followText "set-order")) } : Obj)).objs.size = s.heap.objs.size + 1 := Heap.size_push ..
        have hneI : b ≠ (s.heap.push ({ cls := .type "set", dict := none, data := .set #[] 0 (.fresh 0 0 (!w.params.followText "set-order")) } : Obj)).objs.size := by rw [hsp]; exact Nat.ne_of_lt (Nat.lt_succ_of_lt hlS)
        have hSf : s.heap.objs.size ∉ [(s.heap.push ({ cls := .type "set", dict := none, data := .set #[] 0 (.fresh 0 0 (!w.params.followText "set-order")) } : Obj)).objs.size, b] := by
          rw [hsp]
          simp only [List.mem_cons, List.not_mem_nil, or_false, not_or]
          exact ⟨Nat.ne_of_lt (Nat.lt_succ_self _), Nat.ne_of_gt hlS⟩
        refine updStrs ((Walks.tuple hh3 _ b hneI items).toS) s.heap.objs.size hSf xs hsz (by rw [← hsz]; exact h64) (fun i v hv => strs_get hi i v (by rw [Array.getElem?_toList]; exact hv)) (items.size - 0) 0 _ (by omega) (Nat.zero_le _)
          ⟨⟨_, Heap.get?_push_size _ rfl, rfl, rfl⟩, (hl1.push _)⟩ ⟨[], setS_fresh ?_, ⟨fun x => by simp, Nat.le_refl _⟩⟩ fun s' l hm hS' g => ?_
        · exact Heap.get?_push_of_some _ hS
        · obtain ⟨h', g', d', tk', os'⟩ := s'
          cases (show g' = s.gens from hm.gens)
          cases (show d' = s.drawn from hm.drawn)
          cases (show os' = s.os from hm.os)
          show wpAny _ _ _ _ _ _
          refine wpAny_pure ?_
          show wpAny _ _ (ret Value.none) _ _ _
          refine wpAny_pure ⟨rfl, h', tk', l, rfl, hS', g, fun c o e => ?_⟩
          have hc := Heap.lt_size e
          refine hm.heap c o (fun z => ?_) (Heap.get?_push_of_some _ (Heap.get?_push_of_some _ e))
          rcases List.mem_cons.mp z with z | z
          · exact absurd hc (by rw [z]; exact Nat.lt_irrefl _)
          · have z := List.mem_singleton.mp z
            exact absurd hc (by rw [z, hsp]; exact Nat.not_lt_of_le (Nat.le_succ _))
      · cases r₂ with
        | error e => exact hr₂
        | ok fl₂ =>
          cases fl₂ with
          | ret r =>
            obtain ⟨rfl, h', tk, l, rfl, hS', g, hk'⟩ := hr₂
            repeat (any_goals (first | assumption | wp_step))
            rw [← hsz] at g
            exact h _ _ l hS' (fun x => by rw [g.1 x, List.take_length]) g.2 hk'
          | _ => exact hr₂.elim
    | _ => exact hr.elim
end
end Tl
end
section
set_option linter.all false
set_option maxRecDepth 100000
set_option Elab.async false
namespace Tl
open PySem PySem.Spec L2
open PySem.Froz hiding SD
theorem perm_of_sub {α : Type} [DecidableEq α] : ∀ {l ks : List α}, l.Nodup → (∀ x ∈ l, x ∈ ks) → ks.length ≤ l.length → ks.Perm l
  | [], ks, _, _, h => by rw [List.length_eq_zero_iff.mp (Nat.le_zero.mp h)]
  | x :: l, ks, nd, hs, h => by
    rw [List.nodup_cons] at nd
    have hx := hs x (by simp)
    have p := List.perm_cons_erase hx
    have hl : (ks.erase x).length ≤ l.length := by
      have := p.length_eq
      simp at this h
      omega
    exact p.trans ((perm_of_sub nd.2 (fun y hy => (List.mem_erase_of_ne (fun z => nd.1 (by rw [← z]; exact hy))).mpr (hs y (by simp [hy]))) hl).cons x)
theorem strs_of {P : Program} {w : World} : ∀ {l : List (Int × Value)}, ElemsOf (strKind P w) l → ∃ ks, PyProof.Rows.StrsAre (l.map (·.2)) ks ∧ ∀ k, k ∈ ks ↔ ∃ e ∈ l, (strKind P w).is k e.2 = true
  | [], _ => ⟨[], .nil, by simp⟩
  | e :: l, h => by
    obtain ⟨ks, h1, h2⟩ := strs_of (l := l) fun e he => h e (List.mem_cons_of_mem _ he)
    obtain ⟨⟨k, hk, _⟩, _⟩ := h e (by simp)
    obtain ⟨t, et⟩ := Value.isStrOf_shape (show Value.isStrOf k e.2 = true from hk)
    refine ⟨k :: ks, ?_, fun x => ?_⟩
    · rw [List.map_cons, et]; exact .cons k t h1
    · rw [List.mem_cons, h2 x]
      constructor
      · rintro (rfl | ⟨e', he, q⟩)
        · exact ⟨e, by simp, hk⟩
        · exact ⟨e', by simp [he], q⟩
      · rintro ⟨e', he, q⟩
        rcases List.mem_cons.mp he with rfl | he
        · exact .inl ((strKind P w).inj _ _ _ q hk)
        · exact .inr ⟨e', he, q⟩
theorem strs_perm : ∀ {us vs : List Value}, us.Perm vs → ∀ {xs : List Str}, PyProof.Rows.StrsAre vs xs → ∃ ys, PyProof.Rows.StrsAre us ys ∧ ys.Perm xs := by
  intro us vs p
  induction p with
  | nil => intro xs h; exact ⟨xs, h, .refl _⟩
  | cons x _ ih =>
    intro xs h
    cases h with
    | cons k t h => obtain ⟨ys, h1, h2⟩ := ih h; exact ⟨k :: ys, .cons k t h1, h2.cons k⟩
  | swap x y l =>
    intro xs h
    cases h with
    | cons k t h =>
      cases h with
      | cons k' t' h => exact ⟨_, .cons k' t' (.cons k t h), .swap ..⟩
  | trans _ _ ih1 ih2 =>
    intro xs h
    obtain ⟨ys, h1, h2⟩ := ih2 h
    obtain ⟨zs, h3, h4⟩ := ih1 h1
    exact ⟨zs, h3, h4.trans h2⟩
section
variable {P : Program} {w : World} {A : Around} {E : Value → Shared → Prop} {s : Shared} {a : Addr} {l : List Str}
theorem sorted_of_set {Q : Value → Shared → Prop} (R : SetS P w s.heap a l) (hh : A.handled = none) (h64 : l.length < 64)
    (hQ : ∀ s' p (out : Array Value) (c : Nat) (ss : List Str), (∀ b o, s.heap.get? b = some o → s'.heap.get? b = some o) → s'.gens = s.gens → s'.os = s.os → s.heap.objs.size ≤ p →
      s'.heap.get? p = some (PyProof.Rows.seqObj "list" out c) → PyProof.Rows.StrsAre out.toList ss → ss.Perm l → PyProof.Rows.sortedS ss = true → Q (.ref p) s') :
    wpAny (model P w) A (call (.builtin "sorted") [.ref a]) Q E s := by
  obtain ⟨D, ho, F, r, hl, nd⟩ := R
  obtain ⟨ks, k1, k2⟩ := strs_of F.el
  have pk : ks.Perm l := perm_of_sub nd (fun x hx => (k2 x).mpr ((F.mem x).mp hx)) (by
    rw [← F.sz, ← PyProof.Rows.StrsAre.len_eq k1, List.length_map, Array.length_toList]; exact Nat.le_refl _)
  refine Calls.call_function_entry PyProof.Rows.kind_sorted PyProof.Rows.plain_sorted PyProof.Rows.entry_sorted (PyProof.Rows.args_sorted1 _) ?_
  unfold Builtin.«sorted»
  refine wpAny_bind (m := checkCount "sorted" 1 1 _) (wpAny_pure ?_)
  refine wpAny_bind (collect_set (A := A.in1) hh ⟨_, ho, rfl, rfl⟩ F.fit (by have := F.sz; unfold scanBound; omega) r hl fun s1 vs q1 hz g1 o1 pm => ?_)
  obtain ⟨xs, hx, px⟩ := strs_perm pm k1
  have hvl : vs.length < 64 := by
    rw [PyProof.Rows.StrsAre.len_eq hx, (px.trans pk).length_eq]; exact h64
  refine wpAny_bind (wpAny_newList ?_ (by rw [sizeLine_eq]; omega))
  have hoL : (s1.heap.push (PyProof.Rows.seqObj "list" vs.toArray 0)).get? s1.heap.objs.size = some (PyProof.Rows.seqObj "list" vs.toArray 0) := Heap.get?_push_size _ rfl
  refine wpAny_bind (wpAny_holding (wpAny_call_entry PyProof.Rows.slot_list_sort ⟨_, hoL, rfl⟩ PyProof.Rows.entry_list_sort (PyProof.Rows.list_sort_treeK PyProof.Rows.strKind_oneLt hoL hx.keysOf (fun v₁ v₂ rest e => PyProof.Rows.keyKind_strs (by rw [← e]; exact hx)) hvl fun st' a1 a2 => ⟨_, rfl, ?_⟩) (PyProof.Rows.args_list_sort _)))
  obtain ⟨ss, h1, h2, h3⟩ := PyProof.Rows.sorted_out_str hx a1 a2
  obtain ⟨c, hc⟩ := PyProof.Rows.sortedHeap_at (vs := vs) (out := (PyProof.Rows.arrOf st').map (·.2)) hoL
  refine wpAny_pure ⟨_, rfl, hQ _ s1.heap.objs.size _ c ss (fun b u e => ?_) g1 o1 hz hc h1 (h2.trans (px.trans pk)) h3⟩
  have q := q1 b u e
  have hlt := Heap.lt_size q
  show (PyProof.Rows.sortedHeap (s1.heap.push (PyProof.Rows.seqObj "list" vs.toArray 0)) s1.heap.objs.size vs _).get? b = some u
  rw [PyProof.Rows.sortedHeap_old (Nat.ne_of_lt hlt) (by rw [PyProof.Rows.size_push']; exact Nat.lt_succ_of_lt hlt)]
  exact Heap.get?_push_of_some _ q
end
/-! ### the order of texts -/
theorem tlt_irrefl : ∀ x : List Nat, tlt x x = false
  | [] => rfl
  | a :: x => by unfold tlt; rw [if_neg (Nat.lt_irrefl _), if_pos rfl]; exact tlt_irrefl x
theorem tlt_trans : ∀ {x y z : List Nat}, tlt x y = true → tlt y z = true → tlt x z = true
  | [], [], _, h, _ => by cases h
  | [], _ :: _, [], _, h => by cases h
  | [], _ :: _, _ :: _, _, _ => rfl
  | _ :: _, [], _, h, _ => by cases h
  | _ :: _, _ :: _, [], _, h => by cases h
  | a :: x, b :: y, c :: z, h, k => by
    unfold tlt at h k ⊢
    split at h
    · split at k
      · rw [if_pos (by omega)]
      · split at k
        · rw [if_pos (by omega)]
        · cases k
    · split at h
      · split at k
        · rw [if_pos (by omega)]
        · split at k
          · rw [if_neg (by omega), if_pos (by omega)]; exact tlt_trans h k
          · cases k
      · cases h
theorem tlt_tri : ∀ {x y : List Nat}, tlt x y = false → tlt y x = false → x = y
  | [], [], _, _ => rfl
  | [], _ :: _, h, _ => by cases h
  | _ :: _, [], _, h => by cases h
  | a :: x, b :: y, h, k => by
    unfold tlt at h k
    split at h
    · cases h
    · split at k
      · cases k
      · have e : a = b := by omega
        rw [if_pos e] at h
        rw [if_pos e.symm] at k
        rw [e, tlt_tri h k]
/-- ascending, no text twice -/
def Asd (l : List (List Nat)) : Prop := l.Pairwise fun x y => tlt x y = true
theorem insT_mem {x z : List Nat} : ∀ {l : List (List Nat)}, z ∈ insT x l ↔ z = x ∨ z ∈ l
  | [] => by simp [insT]
  | y :: r => by
    unfold insT
    split
    · rw [List.mem_cons, insT_mem, List.mem_cons]
      exact ⟨fun h => by rcases h with h | h | h <;> simp [h], fun h => by rcases h with h | h | h <;> simp [h]⟩
    · split
      · rename_i e
        rw [List.mem_cons]
        exact ⟨.inr, fun h => by rcases h with h | h | h; exact .inl (h.trans e); exact .inl h; exact .inr h⟩
      · rw [List.mem_cons]
theorem insT_asd {x : List Nat} : ∀ {l : List (List Nat)}, Asd l → Asd (insT x l)
  | [], _ => by unfold insT; exact List.pairwise_singleton _ _
  | y :: r, h => by
    obtain ⟨h1, h2⟩ := List.pairwise_cons.mp h
    unfold insT
    split
    · rename_i hy
      refine List.pairwise_cons.mpr ⟨fun z hz => ?_, insT_asd h2⟩
      rcases insT_mem.mp hz with rfl | hz
      · exact hy
      · exact h1 z hz
    · rename_i hy
      split
      · exact h
      · rename_i hne
        have hxy : tlt x y = true := by
          cases e : tlt x y with
          | true => rfl
          | false => exact absurd (tlt_tri e (by simpa using hy)) hne
        refine List.pairwise_cons.mpr ⟨fun z hz => ?_, h⟩
        rcases List.mem_cons.mp hz with rfl | hz
        · exact hxy
        · exact tlt_trans hxy (h1 z hz)
theorem sortT_mem {z : List Nat} : ∀ {l : List (List Nat)}, z ∈ sortT l ↔ z ∈ l
  | [] => by simp [sortT]
  | x :: r => by unfold sortT; rw [insT_mem, sortT_mem, List.mem_cons]
theorem sortT_asd : ∀ {l : List (List Nat)}, Asd (sortT l)
  | [] => List.Pairwise.nil
  | x :: r => by unfold sortT; exact insT_asd sortT_asd
theorem asd_eq : ∀ {l k : List (List Nat)}, Asd l → Asd k → (∀ x, x ∈ l ↔ x ∈ k) → l = k
  | [], [], _, _, _ => rfl
  | [], y :: k, _, _, h => by have := (h y).mpr (by simp); cases this
  | x :: l, [], _, _, h => by have := (h x).mp (by simp); cases this
  | x :: l, y :: k, h1, h2, h => by
    obtain ⟨a1, a2⟩ := List.pairwise_cons.mp h1
    obtain ⟨b1, b2⟩ := List.pairwise_cons.mp h2
    have no : ∀ {x y : List Nat}, tlt x y = true → tlt y x = true → False := fun p q => by
      have := tlt_trans p q
      rw [tlt_irrefl] at this; cases this
    have e : x = y := by
      rcases List.mem_cons.mp ((h x).mp (by simp)) with e | e
      · exact e
      · rcases List.mem_cons.mp ((h y).mpr (by simp)) with e' | e'
        · exact e'.symm
        · exact (no (b1 x e) (a1 y e')).elim
    subst e
    rw [asd_eq a2 b2 fun z => ?_]
    constructor
    · intro hz
      rcases List.mem_cons.mp ((h z).mp (by simp [hz])) with e | e
      · subst e; have := a1 _ hz; rw [tlt_irrefl] at this; cases this
      · exact e
    · intro hz
      rcases List.mem_cons.mp ((h z).mpr (by simp [hz])) with e | e
      · subst e; have := b1 _ hz; rw [tlt_irrefl] at this; cases this
      · exact e
theorem ltCps_tlt (x y : List Nat) : ltCps x y = tlt x y := by rw [PyProof.Rows.ltCps_eq, tlt_eq]
theorem risingS_pw : ∀ {l : List (List Nat)} {p : List Nat}, PyProof.Rows.risingS (asT p) (l.map asT) = true → (p :: l).Pairwise fun x y => tlt y x = false
  | [], _, _ => List.pairwise_singleton _ _
  | x :: l, p, h => by
    have h : (!ltCps x p && PyProof.Rows.risingS (asT x) (l.map asT)) = true := h
    rw [Bool.and_eq_true, ltCps_tlt] at h
    have ih := risingS_pw h.2
    have hx : tlt x p = false := by simpa using h.1
    refine List.pairwise_cons.mpr ⟨fun z hz => ?_, ih⟩
    rcases List.mem_cons.mp hz with rfl | hz
    · exact hx
    · have h1 := (List.pairwise_cons.mp ih).1 z hz
      cases e : tlt z p with
      | false => rfl
      | true =>
        -- p is not above x, x not above z
        cases e2 : tlt p x with
        | true => have := tlt_trans e e2; rw [h1] at this; cases this
        | false => rw [tlt_tri e2 hx] at e; rw [h1] at e; cases e
theorem sortedS_pw {l : List (List Nat)} (h : PyProof.Rows.sortedS (l.map asT) = true) : l.Pairwise fun x y => tlt y x = false := by
  cases l with
  | nil => exact List.Pairwise.nil
  | cons x l => exact risingS_pw h
theorem asd_of {l : List (List Nat)} (h : l.Pairwise fun x y => tlt y x = false) (nd : l.Nodup) : Asd l := by
  induction l with
  | nil => exact List.Pairwise.nil
  | cons x l ih =>
    obtain ⟨h1, h2⟩ := List.pairwise_cons.mp h
    obtain ⟨n1, n2⟩ := List.nodup_cons.mp nd
    refine List.pairwise_cons.mpr ⟨fun y hy => ?_, ih h2 n2⟩
    cases e : tlt x y with
    | true => rfl
    | false => exact absurd (tlt_tri e (h1 y hy) ▸ hy) n1
/-! ### sorted(set(xs)) -/
def SetSO (P : Program) (w : World) (a : Addr) (l : List Str) : HO := .ext fun h => SetS P w h a l
section
variable {X : Cx}
theorem setSO_new {P : Program} {w : World} {H : Hp} {h : Heap} {a : Addr} {l : List Str} (R : SetS P w h a l) : ObjOk P w H h a (SetSO P w a l) := by
  have ⟨D, ho, r⟩ := R
  refine ⟨R, ⟨_, ho⟩, fun h1 h2 p k => ?_⟩
  have ⟨D', ho', r'⟩ := (show SetS P w h1 a l from p)
  exact ⟨D', k _ ho', r'⟩
def rSetS (K : PySem.W.Frag) (P : Program) (w : World) : List V → Hp → VK → Prop := fun us H Q => ∃ (a : Addr) (xs : List Str), us = [.ref a] ∧ (SqL K H a (xs.map V.str) ∨ SqT K H a (xs.map V.str)) ∧ xs.length < 64 ∧
  ∀ p l, H p = none → (∀ x, x ∈ l ↔ x ∈ xs) → l.Nodup → l.length ≤ xs.length → Q (.ref p) (upd H p (SetSO P w p l))
theorem cr_setS (hc : X.calm = true) : CallR X (.type "set") (rSetS X.K X.prog X.w) := by
  intro pins s σ H us vs Q I r ⟨a, xs, e, hs, h64, q⟩
  subst e
  rw [Vals.ref1 r]
  have fin : ∀ (h' : Heap) (tk : Nat) l, SetS X.prog X.w h' s.heap.objs.size l → (∀ x, x ∈ l ↔ x ∈ xs) → l.length ≤ xs.length → (∀ b o, s.heap.get? b = some o → h'.get? b = some o) →
      EP X pins σ Q (.ref s.heap.objs.size) { s with heap := h', toks := tk } := fun h' tk l R h1 h2 k => by
    have nd : l.Nodup := R.choose_spec.2.2.2.2
    exact ⟨.ref s.heap.objs.size, upd H s.heap.objs.size (SetSO X.prog X.w s.heap.objs.size l), I.laid (t' := tk) k (Nat.le_refl _) (setSO_new R), rfl, q _ l (I.hok.fresh (Nat.le_refl _)) h1 nd h2⟩
  rcases hs with hs | hs
  · obtain ⟨its, rv, p, hz⟩ := I.list hs
    exact set_of_list (I.ok.hd hc) p.isList rv.strs h64 fin
  · obtain ⟨its, rv, p, hz⟩ := I.tuple hs
    exact set_of_tuple (I.ok.hd hc) (show s.heap.IsTuple a its.toArray from p) rv.strs h64 fin
def rSortSet (P : Program) (w : World) : List V → Hp → VK → Prop := fun us H Q => ∃ (a : Addr) (l : List Str), us = [.ref a] ∧ H a = some (SetSO P w a l) ∧ l.length < 64 ∧
  ∀ p ss, H p = none → ss.Perm l → PyProof.Rows.sortedS ss = true → Q (.ref p) (upd H p (.lst (ss.map V.str)))
theorem cr_sortSet (hc : X.calm = true) : CallR X (.builtin "sorted") (rSortSet X.prog X.w) := by
  intro pins s σ H us vs Q I r ⟨a, l, e, ha, h64, q⟩
  subst e
  rw [Vals.ref1 r]
  have R : SetS X.prog X.w s.heap a l := (show ObjOk X.prog X.w H s.heap a (SetSO X.prog X.w a l) from I.hok a _ ha).1
  refine sorted_of_set R (I.ok.hd hc) h64 fun s' p out c ss k g o hz hp ho hl hs => ?_
  have hlen : (ss.map V.str).length ≤ sizeLine := by rw [List.length_map, hl.length_eq, sizeLine_eq]; omega
  have hn : H p = none := I.hok.fresh hz
  have J : L2.Inv X pins σ (upd H p (.lst (ss.map V.str))) { s with heap := s'.heap, gens := s'.gens, drawn := s'.drawn, toks := s'.toks } :=
    I.call (ch := []) (Un.laid k hz hn) (I.hok.laid k hz ⟨hlen, out.toList, c, vals_of_strs ho, hp⟩) (by rw [g]; exact I.bare) (fun _ z => nomatch z)
  have e : s' = { s with heap := s'.heap, gens := s'.gens, drawn := s'.drawn, toks := s'.toks } := by
    cases s'
    cases s
    cases o
    rfl
  rw [e]
  exact ⟨.ref p, _, J, rfl, q p ss hn hl hs⟩
end
section
variable {X : Cx} {ex : Nat → Value} {W : WX} {Φ : Fun} {e : Expr} {c : C} {p p2 pos pos2 : Pos}
theorem updN {H : Hp} {a b : Addr} {o : HO} (e : upd H a o b = none) : H b = none := by
  by_cases h : b = a
  · subst h; rw [upd_same] at e; cases e
  · rw [upd_ne h] at e; exact e
theorem k_sortSet (hu : X.A.units + 300 < cLine) (hg : Gl X "sorted") (hgs : Gl X "set") (hm : X.mg "sorted" = none) (hcalm : X.calm = true) (hms : X.mg "set" = none) (ha : AD X ex W Φ e c)
    (he : starEach [e] X.env = (false, eval e X.env) :: starEach [] X.env := by rfl) : ED X ex W Φ (.Call (.Name "sorted" p) [.Call (.Name "set" p2) [e] [] pos2] [] pos) (.op .sortSet (.cons c .nil)) :=
  PE.imp (pe_callB (cr_sortSet hcalm) hg hm (by rfl) (pa_cons (pe_callTy (cr_setS hcalm) hgs hms (by rfl) (pa_cons ha pa_nil he) (by decide) (by decide) he) pa_nil)) fun σ H Q h => by
    have := op_ok h
    rw [tArgs_cons] at this
    refine tA1_mono' this fun x H1 q => ?_
    obtain ⟨Z, vs, w, hz, hp, hd, q⟩ := q
    obtain ⟨v, rfl, h1⟩ := prepL_1 hp
    change dSortSet [v] = some w at hd
    obtain ⟨ps, ts, hv, hts, h64, rfl⟩ : ∃ ps ts, (v = .lst ps ∨ v = .tup ps) ∧ allS ps = some ts ∧ ts.length < 64 ∧ w = .lst ((sortT ts).map .str) := by
      unfold dSortSet at hd
      split at hd
      · rename_i ps e
        cases e
        obtain ⟨ts, e1, e2⟩ := Option.bind_eq_some_iff.mp hd
        split at e2
        · cases e2; exact ⟨ps, ts, .inl rfl, e1, by assumption, rfl⟩
        · cases e2
      · rename_i ps e
        cases e
        obtain ⟨ts, e1, e2⟩ := Option.bind_eq_some_iff.mp hd
        split at e2
        · cases e2; exact ⟨ps, ts, .inr rfl, e1, by assumption, rfl⟩
        · cases e2
      · cases hd
    obtain ⟨a, us, rfl, hs, rl⟩ : ∃ a us, x = .ref a ∧ (SqL X.K H1 a us ∨ SqT X.K H1 a us) ∧ RepL X.K Z us ps := by
      rcases hv with rfl | rfl
      · obtain ⟨a, us, e1, e2, e3⟩ := prep_lst hz h1
        exact ⟨a, us, e1, .inl (.inl (.inl e2)), e3⟩
      · obtain ⟨a, us, e1, e2, e3⟩ := prep_tup h1
        exact ⟨a, us, e1, .inr (e2.zok hz).sq, e3⟩
    obtain ⟨rfl, hasc⟩ := repL_strs rl hts
    refine ⟨a, ts.map asT, rfl, hs, by rw [List.length_map]; exact h64, fun d l hn hl nd hlen => ?_⟩
    rw [List.length_map] at hlen
    refine ⟨d, l, rfl, upd_same, by omega, fun b ss hb hp hsort => ?_⟩
    -- the texts
    obtain ⟨ls, rfl, hls⟩ : ∃ ls : List (List Nat), ss = ls.map asT ∧ ∀ z, z ∈ ls ↔ z ∈ ts := by
      refine ⟨ss.map fun s => s.cps.toList, ?_, fun z => ?_⟩
      · rw [List.map_map]
        conv => lhs; rw [← List.map_id ss]
        exact List.map_congr_left fun s _ => rfl
      · rw [List.mem_map]
        constructor
        · rintro ⟨s, hs, rfl⟩
          obtain ⟨y, hy, rfl⟩ := List.mem_map.mp ((hl s).mp (hp.mem_iff.mp hs))
          exact hy
        · intro hz
          exact ⟨asT z, hp.mem_iff.mpr ((hl _).mpr (List.mem_map.mpr ⟨z, hz, rfl⟩)), rfl⟩
    have nds : ls.Nodup := by
      have := hp.nodup_iff.mpr nd
      exact List.Pairwise.of_map asT (fun x y h e => h (by rw [e])) this
    have es : ls = sortT ts := asd_eq (asd_of (sortedS_pw hsort) nds) sortT_asd fun z => by rw [hls z, sortT_mem]
    subst es
    have hb1 : H1 b = none := updN hb
    have g : Grow Z H1 Z (upd (upd H1 d (SetSO X.prog X.w d l)) b (.lst (((sortT ts).map asT).map V.str))) :=
      ⟨.refl, (upd_le hn).trans (upd_le hb), fun _ e _ => e, zok_upd (zok_upd hz hn) hb⟩
    refine q Z _ _ g ?_
    have rl2 : RepL X.K Z (((sortT ts).map asT).map V.str) ((sortT ts).map PV.str) := repL_ofStrs fun x hx => hasc x (sortT_mem.mp hx)
    exact ⟨b, rfl, ⟨zok_none hz hb1, .inl ⟨_, _, rfl, upd_same, rl2⟩⟩, hb1⟩
end
end Tl
end
section
set_option linter.all false
set_option maxRecDepth 100000
namespace Tl
open PySem PySem.Spec L2
/-- the module's name x stands for a tuple of these -/
def tupN (K : PySem.W.Frag) (x : Str) (vs : List He.Dv) : Bool := match K.lookup (He.ga K x) with
  | some ⟨.type c, none, .seq its _, _⟩ => decide (c = "tuple") && (decide (its.size ≤ sizeLine) && He.relAll (vs.map (He.Dv.v K)) its.toList)
  | _ => false
theorem tupN_ok {K : PySem.W.Frag} {x : Str} {vs : List He.Dv} (h : tupN K x vs = true) {Z : Hp} : TupN K Z (He.ga K x) (vs.map (He.Dv.v K)) := by
  unfold tupN at h
  split at h
  · rename_i c its n sl e
    rw [Bool.and_eq_true, Bool.and_eq_true] at h
    obtain ⟨h1, h2, h3⟩ := h
    exact .inr ⟨_, its, n, e, congrArg Value.type (of_decide_eq_true h1), rfl, rfl, of_decide_eq_true h2, He.relAll_ok h3⟩
  · cases h
theorem asc_of {x : List Nat} (h : (x.all (· < 128)) = true) : Asc x := fun c hc => by simpa using List.all_eq_true.mp h c hc
theorem repL_int {K : PySem.W.Frag} {Z : Hp} : ∀ ns : List Int, RepL K Z (ns.map V.int) (ns.map PV.int)
  | [] => .nil
  | n :: r => .cons (.int n) (repL_int r)
theorem law_sp {K : PySem.W.Frag} {ex : Nat → Value} {f : List PV → Option (Res (PV × Bool) × List PV)} {ns : List Int} {H : Hp} {a : Addr} (h : f [.scr (ns.map .int)] = some (.val (.bl true, false), [])) (hS : SqL K H a (ns.map V.int)) :
    spD K ex f [false] [.ref a] H (fun v _ => v = .bl true) fun _ _ _ => False := by
  refine ⟨H, [.scr (ns.map .int)], [], _, _, fun _ _ e => .inl e, .f (.scr hS (repL_int ns)) .nil, .nil, h, fun Z' H' st hz oa u vr => ?_⟩
  have vr : Rep K Z' u (.bl true) := vr
  cases vr
  rfl
/-- a def that lets no exception out -/
theorem cx0_of {P : Program} {w : World} {K : PySem.W.Frag} {mg : Str → Option Value} {base : Heap} {k : Nat} {f : Addr} {fd : FuncData} {ps : List Str} {sp : Sp} (F : FnOk P w K mg base (L2.CX P w) k f fd ps sp) :
    FnOk P w K mg base CX0 k f fd ps (fun vs H Q _ => sp vs H Q fun _ _ _ => False) :=
  ⟨fun vs H Q E h => F.len vs H Q _ h, fun A outer s H args us vs Q E hr he hb hv hs => codeAny_mono (F.run A outer s H args us vs Q _ hr he hb hv hs) fun r s' h => by
    cases r with
    | error e =>
      obtain ⟨_, _, _, _, _, _, _, _, _, _, _, _, z⟩ := (show L2.CX P w outer H s (fun _ _ _ => False) e s' from h)
      exact z.elim
    | ok fl => cases fl <;> exact h⟩
end Tl
end
section
set_option linter.all false
set_option maxRecDepth 100000
set_option maxHeartbeats 4000000
set_option Elab.async false
namespace K01
open PySem PySem.Spec L2 Tl
def F0e0 : C := (.op .isin (.cons (.var 2) (.cons (.lit (.str [97, 98, 99, 100, 101, 102, 103, 104, 105, 106, 107, 108, 109, 110, 111, 112, 113, 114, 115, 116, 117, 118, 119, 120, 121, 122])) .nil)))
abbrev F0c0 : C := (.comp [2] [2] (.var 0) (.lit (.bl true)) F0e0)
/-- is_word(value, most, sign) -/
def F0 : Fn := ⟨3, [false, false],
  (.seq (.ite (.or (.not (.op .isStr (.cons (.var 0) .nil))) (.not (.chain .le .le (.cons (.lit (.int 1)) (.cons (.op .len (.cons (.var 0) .nil)) .nil)) (.cons (.var 1) .nil)))) (.ret (.lit (.bl false))) .skip)
  (.ret (.op .all (.cons F0c0 .nil))))⟩
/-- is_name(value) -/
def F1 : Fn := ⟨1, [false],
  (.ret (.call 0 [false, false] (.cons (.var 0) (.cons (.lit (.int 4)) .nil))))⟩
/-- is_content(value) -/
def F2 : Fn := ⟨1, [false],
  (.ret (.call 0 [false, false] (.cons (.var 0) (.cons (.lit (.int 8)) .nil))))⟩
def F3e0 : C := (.and (.op .isTup (.cons (.var 1) .nil)) (.and (.op .eq (.cons (.op .len (.cons (.var 1) .nil)) (.cons (.lit (.int 2)) .nil))) (.call 1 [false] (.cons (.op .idx (.cons (.var 1) (.cons (.lit (.int 0)) .nil))) .nil))))
abbrev F3c0 : C := (.comp [1] [1] (.var 0) (.lit (.bl true)) F3e0)
def F3e1 : C := (.op .idx (.cons (.var 1) (.cons (.lit (.int 0)) .nil)))
abbrev F3c1 : C := (.comp [1] [1] (.var 0) (.lit (.bl true)) F3e1)
/-- are_pairs(value, pair, names) -/
def F3 : Fn := ⟨3, [false],
  (.seq (.ite (.not (.op .isTup (.cons (.var 0) .nil))) (.ret (.lit (.bl false))) .skip)
  (.seq (.ite (.not (.op .all (.cons F3c0 .nil))) (.ret (.lit (.bl false))) .skip)
  (.seq (.set 2 F3c1)
  (.ret (.op .eq (.cons (.var 2) (.cons (.op .sortSet (.cons (.var 2) .nil)) .nil)))))))⟩
def F4e0 : C := (.or (.call 2 [false] (.cons (.var 3) .nil)) (.call 4 [false, false] (.cons (.var 3) (.cons (.op .sub (.cons (.var 1) (.cons (.lit (.int 1)) .nil))) .nil))))
abbrev F4c0 : C := (.comp [2, 3] [2, 3] (.var 0) (.lit (.bl true)) F4e0)
/-- is_folder(value, deep, name, node) -/
def F4 : Fn := ⟨4, [false, false],
  (.seq (.ite (.or (.op .eq (.cons (.var 1) (.cons (.lit (.int 0)) .nil))) (.not (.call 3 [false] (.cons (.var 0) .nil)))) (.ret (.lit (.bl false))) .skip)
  (.ret (.op .all (.cons F4c0 .nil))))⟩
def F5b0 : S := (.ite (.op .isTup (.cons (.var 3) .nil)) (.set 1 (.op .add (.cons (.var 1) (.cons (.call 5 [false] (.cons (.var 3) .nil)) .nil)))) .skip)
/-- count_pairs(folder, many, name, node) -/
def F5 : Fn := ⟨4, [false],
  (.seq (.set 1 (.op .len (.cons (.var 0) .nil)))
  (.seq (.for [2, 3] (.var 0) F5b0)
  (.ret (.var 1))))⟩
/-- is_right_tree(value) -/
def F6 : Fn := ⟨1, [false],
  (.ret (.and (.call 4 [false, false] (.cons (.var 0) (.cons (.lit (.int 6)) .nil))) (.op .le (.cons (.call 5 [false] (.cons (.var 0) .nil)) (.cons (.lit (.int 40)) .nil)))))⟩
def F7e0 : C := (.call 1 [false] (.cons (.var 2) .nil))
abbrev F7c0 : C := (.comp [2] [2] (.var 0) (.lit (.bl true)) F7e0)
/-- is_names(value, most, name) -/
def F7 : Fn := ⟨3, [false, false],
  (.ret (.and (.op .isTup (.cons (.var 0) .nil)) (.and (.chain .le .le (.cons (.lit (.int 1)) (.cons (.op .len (.cons (.var 0) .nil)) .nil)) (.cons (.var 1) .nil)) (.op .all (.cons F7c0 .nil)))))⟩
/-- is_tree(value) -/
def F8 : Fn := ⟨1, [false],
  (.ret (.call 6 [false] (.cons (.var 0) .nil)))⟩
/-- is_path(value) -/
def F9 : Fn := ⟨1, [false],
  (.ret (.call 7 [false, false] (.cons (.var 0) (.cons (.lit (.int 6)) .nil))))⟩
/-- is_entry(value, deep) -/
def F10 : Fn := ⟨2, [false, false],
  (.ret (.or (.op .isN (.cons (.var 0) .nil)) (.or (.call 2 [false] (.cons (.var 0) .nil)) (.call 11 [false, false] (.cons (.var 0) (.cons (.var 1) .nil))))))⟩
def F11e0 : C := (.call 10 [false, false] (.cons (.var 3) (.cons (.op .sub (.cons (.var 1) (.cons (.lit (.int 1)) .nil))) .nil)))
abbrev F11c0 : C := (.comp [2, 3] [2, 3] (.op .idx (.cons (.var 0) (.cons (.lit (.int 1)) .nil))) (.lit (.bl true)) F11e0)
/-- is_layer_so(value, deep, name, entry) -/
def F11 : Fn := ⟨4, [false, false],
  (.seq (.ite (.or (.op .eq (.cons (.var 1) (.cons (.lit (.int 0)) .nil))) (.or (.not (.op .isTup (.cons (.var 0) .nil))) (.or (.op .ne (.cons (.op .len (.cons (.var 0) .nil)) (.cons (.lit (.int 2)) .nil))) (.not (.op .isBool (.cons (.op .idx (.cons (.var 0) (.cons (.lit (.int 0)) .nil))) .nil)))))) (.ret (.lit (.bl false))) .skip)
  (.ret (.and (.call 3 [false] (.cons (.op .idx (.cons (.var 0) (.cons (.lit (.int 1)) .nil))) .nil)) (.op .all (.cons F11c0 .nil)))))⟩
def F12b0 : S := (.seq (.set 2 (.op .add (.cons (.var 2) (.cons (.seq true (.cons (.op .add (.cons (.var 1) (.cons (.seq false (.cons (.var 3) .nil)) .nil))) .nil)) .nil))))
  (.ite (.op .isTup (.cons (.var 4) .nil)) (.set 2 (.op .add (.cons (.var 2) (.cons (.call 12 [false, false] (.cons (.var 4) (.cons (.op .add (.cons (.var 1) (.cons (.seq false (.cons (.var 3) .nil)) .nil))) .nil))) .nil)))) .skip))
/-- places_in(layer, names, found, name, entry) -/
def F12 : Fn := ⟨5, [false, false],
  (.seq (.set 2 (.seq true .nil))
  (.seq (.for [3, 4] (.op .idx (.cons (.var 0) (.cons (.lit (.int 1)) .nil))) F12b0)
  (.ret (.var 2))))⟩
/-- entries_in(layer) -/
def F13 : Fn := ⟨1, [false],
  (.ret (.op .len (.cons (.call 12 [false, false] (.cons (.var 0) (.cons (.seq false .nil) .nil))) .nil)))⟩
/-- is_right_layer(value) -/
def F14 : Fn := ⟨1, [false],
  (.ret (.and (.call 11 [false, false] (.cons (.var 0) (.cons (.lit (.int 4)) .nil))) (.op .le (.cons (.call 13 [false] (.cons (.var 0) .nil)) (.cons (.lit (.int 16)) .nil)))))⟩
/-- need_layer(value) -/
def F15 : Fn := ⟨1, [false],
  (.ite (.not (.call 14 [false] (.cons (.var 0) .nil))) (.raise 1) .skip)⟩
/-- is_layer(value) -/
def F16 : Fn := ⟨1, [false],
  (.ret (.call 14 [false] (.cons (.var 0) .nil)))⟩
/-- count_entries(layer) -/
def F17 : Fn := ⟨1, [false],
  (.seq (.ex (.call 15 [false] (.cons (.var 0) .nil)))
  (.ret (.call 13 [false] (.cons (.var 0) .nil))))⟩
def F18e0 : C := (.op .isStr (.cons (.var 2) .nil))
abbrev F18c0 : C := (.comp [2] [2] (.var 1) (.lit (.bl true)) F18e0)
def F18e1 : C := (.op .isin (.cons (.var 2) (.cons (.lit (.tup [(.str [102, 105, 108, 101]), (.str [102, 111, 108, 100, 101, 114]), (.str [110, 111, 116, 104, 105, 110, 103])])) .nil)))
abbrev F18c1 : C := (.comp [2] [2] (.var 1) (.lit (.bl true)) F18e1)
/-- is_right_claim(value, what, word) -/
def F18 : Fn := ⟨3, [false],
  (.seq (.ite (.or (.not (.op .isTup (.cons (.var 0) .nil))) (.or (.op .ne (.cons (.op .len (.cons (.var 0) .nil)) (.cons (.lit (.int 2)) .nil))) (.not (.call 7 [false, false] (.cons (.op .idx (.cons (.var 0) (.cons (.lit (.int 0)) .nil))) (.cons (.lit (.int 4)) .nil)))))) (.ret (.lit (.bl false))) .skip)
  (.seq (.set 1 (.op .idx (.cons (.var 0) (.cons (.lit (.int 1)) .nil))))
  (.seq (.ite (.or (.not (.op .isTup (.cons (.var 1) .nil))) (.or (.not (.chain .le .le (.cons (.lit (.int 1)) (.cons (.op .len (.cons (.var 1) .nil)) .nil)) (.cons (.lit (.int 2)) .nil))) (.not (.op .all (.cons F18c0 .nil))))) (.ret (.lit (.bl false))) .skip)
  (.seq (.ite (.op .eq (.cons (.op .idx (.cons (.var 1) (.cons (.lit (.int 0)) .nil))) (.cons (.lit (.str [105, 115])) .nil))) (.ret (.and (.op .eq (.cons (.op .len (.cons (.var 1) .nil)) (.cons (.lit (.int 2)) .nil))) (.call 2 [false] (.cons (.op .idx (.cons (.var 1) (.cons (.lit (.int 1)) .nil))) .nil)))) .skip)
  (.ret (.and (.op .all (.cons F18c1 .nil)) (.op .eq (.cons (.op .toLst (.cons (.var 1) .nil)) (.cons (.op .sortSet (.cons (.var 1) .nil)) .nil)))))))))⟩
/-- is_claim(value) -/
def F19 : Fn := ⟨1, [false],
  (.ret (.call 18 [false] (.cons (.var 0) .nil)))⟩
/-- _law_source(script, k, number, start) -/
def F20 : Fn := ⟨4, [false, false],
  (.seq (.set 2 (.lit (.int 0)))
  (.seq (.ite (.op .gt (.cons (.op .len (.cons (.var 0) .nil)) (.cons (.var 1) .nil))) (.set 2 (.op .toInt (.cons (.op .idx (.cons (.var 0) (.cons (.var 1) .nil))) .nil))) .skip)
  (.seq (.set 3 (.op .mod (.cons (.op .add (.cons (.op .add (.cons (.op .mul (.cons (.var 2) (.cons (.lit (.int 16807)) .nil))) (.cons (.op .mul (.cons (.lit (.int 60919)) (.cons (.var 1) .nil))) .nil))) (.cons (.lit (.int 31)) .nil))) (.cons (.lit (.int 2147481173)) .nil))))
  (.seq (.set 3 (.op .add (.cons (.op .add (.cons (.op .mod (.cons (.op .mul (.cons (.var 3) (.cons (.var 3) .nil))) (.cons (.lit (.int 2147481151)) .nil))) (.cons (.op .mul (.cons (.lit (.int 2)) (.cons (.var 1) .nil))) .nil))) (.cons (.lit (.int 5)) .nil))))
  (.ret (.seq true (.cons (.ite (.op .ge (.cons (.var 2) (.cons (.lit (.int 1000000000000000000)) .nil))) (.var 2) (.lit (.int 0))) (.cons (.var 3) .nil))))))))⟩
/-- _law_pick(source, many, found) -/
def F21 : Fn := ⟨3, [true, false],
  (.seq (.ite (.op .gt (.cons (.op .idx (.cons (.var 0) (.cons (.lit (.int 0)) .nil))) (.cons (.lit (.int 0)) .nil))) (.seq (.set 2 (.op .mod (.cons (.op .toInt (.cons (.op .idx (.cons (.var 0) (.cons (.lit (.int 0)) .nil))) .nil)) (.cons (.var 1) .nil))))
  (.seq (.ixset 0 (.lit (.int 0)) (.op .fdiv (.cons (.op .toInt (.cons (.op .idx (.cons (.var 0) (.cons (.lit (.int 0)) .nil))) .nil)) (.cons (.var 1) .nil))))
  (.ret (.var 2)))) .skip)
  (.seq (.ixset 0 (.lit (.int 1)) (.op .mod (.cons (.op .toInt (.cons (.op .add (.cons (.op .mul (.cons (.op .idx (.cons (.var 0) (.cons (.lit (.int 1)) .nil))) (.cons (.lit (.int 44497)) .nil))) (.cons (.lit (.int 9973)) .nil))) .nil)) (.cons (.lit (.int 2147483647)) .nil))))
  (.ret (.op .mod (.cons (.op .fdiv (.cons (.op .mod (.cons (.op .toInt (.cons (.op .mul (.cons (.op .idx (.cons (.var 0) (.cons (.lit (.int 1)) .nil))) (.cons (.op .idx (.cons (.var 0) (.cons (.lit (.int 1)) .nil))) .nil))) .nil)) (.cons (.lit (.int 2147483399)) .nil))) (.cons (.lit (.int 11)) .nil))) (.cons (.var 1) .nil))))))⟩
/-- _law_chosen(source, things) -/
def F22 : Fn := ⟨2, [true, false],
  (.ret (.op .idx (.cons (.var 1) (.cons (.call 21 [true, false] (.cons (.var 0) (.cons (.op .len (.cons (.var 1) .nil)) .nil))) .nil))))⟩
/-- _law_is_bool(told, due) -/
def F23 : Fn := ⟨2, [false, false],
  (.ret (.and (.op .isBool (.cons (.var 0) .nil)) (.op .eq (.cons (.var 0) (.cons (.var 1) .nil)))))⟩
/-- _law_wide(value, low, high) -/
def F24 : Fn := ⟨3, [false, false, false],
  (.ret (.and (.op .isTup (.cons (.var 0) .nil)) (.chain .le .le (.cons (.var 1) (.cons (.op .len (.cons (.var 0) .nil)) .nil)) (.cons (.var 2) .nil))))⟩
def F25e0 : C := (.call 25 [true, false] (.cons (.var 0) (.cons (.op .sub (.cons (.var 1) (.cons (.lit (.int 1)) .nil))) .nil)))
abbrev F25c0 : C := (.comp [5] [5] (.op .rng1 (.cons (.call 21 [true, false] (.cons (.var 0) (.cons (.lit (.int 5)) .nil))) .nil)) (.lit (.bl true)) F25e0)
/-- _law_any_value(source, deep, simple_so, way, parts, turn) -/
def F25 : Fn := ⟨6, [true, false],
  (.seq (.set 2 (.seq true (.cons (.lit .non) (.cons (.lit (.bl true)) (.cons (.lit (.bl false)) (.cons (.lit (.int 0)) (.cons (.lit (.int 1)) (.cons (.op .neg (.cons (.lit (.int 2)) .nil)) (.cons (.lit (.str [])) (.cons (.lit (.str [97])) (.cons (.lit (.str [98])) (.cons (.lit (.str [120])) (.cons (.lit (.str [122, 122])) (.cons (.lit (.str [102, 105, 108, 101])) (.cons (.lit (.str [105, 115])) (.cons (.lit (.str [65])) (.cons (.seq false .nil) (.cons (.seq true .nil) (.cons (.seq false (.cons (.lit (.str [97])) .nil)) (.cons (.seq false (.cons (.lit (.bl false)) (.cons (.seq false .nil) .nil))) .nil))))))))))))))))))))
  (.seq (.set 3 (.call 21 [true, false] (.cons (.var 0) (.cons (.lit (.int 8)) .nil))))
  (.seq (.ite (.or (.op .lt (.cons (.var 1) (.cons (.lit (.int 1)) .nil))) (.op .lt (.cons (.var 3) (.cons (.lit (.int 5)) .nil)))) (.ret (.call 22 [true, false] (.cons (.var 0) (.cons (.var 2) .nil)))) .skip)
  (.seq (.set 4 F25c0)
  (.ret (.ite (.op .eq (.cons (.var 3) (.cons (.lit (.int 5)) .nil))) (.var 4) (.op .toTup (.cons (.var 4) .nil))))))))⟩
/-- _law_variant(source, value, deep, parts, spot, way, inner, near) -/
def F26 : Fn := ⟨8, [true, false, false],
  (.seq (.set 3 (.op .toLst (.cons (.var 1) .nil)))
  (.seq (.ite (.op .eq (.cons (.var 3) (.cons (.seq true .nil) .nil))) (.ret (.seq false (.cons (.call 25 [true, false] (.cons (.var 0) (.cons (.lit (.int 1)) .nil))) .nil))) .skip)
  (.seq (.par [4, 5] (.cons (.call 21 [true, false] (.cons (.var 0) (.cons (.op .len (.cons (.var 3) .nil)) .nil))) (.cons (.call 21 [true, false] (.cons (.var 0) (.cons (.lit (.int 9)) .nil))) .nil)))
  (.seq (.set 6 (.op .idx (.cons (.var 3) (.cons (.var 4) .nil))))
  (.seq (.ite (.and (.op .isTup (.cons (.var 6) .nil)) (.and (.op .gt (.cons (.var 2) (.cons (.lit (.int 0)) .nil))) (.op .gt (.cons (.var 5) (.cons (.lit (.int 2)) .nil))))) (.ret (.op .add (.cons (.op .add (.cons (.op .toTup (.cons (.op (.sl false true) (.cons (.var 3) (.cons (.var 4) .nil))) .nil)) (.cons (.seq false (.cons (.call 26 [true, false, false] (.cons (.var 0) (.cons (.var 6) (.cons (.op .sub (.cons (.var 2) (.cons (.lit (.int 1)) .nil))) .nil)))) .nil)) .nil))) (.cons (.op .toTup (.cons (.op (.sl true false) (.cons (.var 3) (.cons (.op .add (.cons (.var 4) (.cons (.lit (.int 1)) .nil))) .nil))) .nil)) .nil)))) .skip)
  (.seq (.ite (.op .eq (.cons (.var 5) (.cons (.lit (.int 0)) .nil))) (.ret (.op .toTup (.cons (.op .add (.cons (.op (.sl false true) (.cons (.var 3) (.cons (.var 4) .nil))) (.cons (.op (.sl true false) (.cons (.var 3) (.cons (.op .add (.cons (.var 4) (.cons (.lit (.int 1)) .nil))) .nil))) .nil))) .nil))) .skip)
  (.seq (.ite (.op .eq (.cons (.var 5) (.cons (.lit (.int 1)) .nil))) (.ret (.op .toTup (.cons (.op .add (.cons (.op (.sl false true) (.cons (.var 3) (.cons (.op .add (.cons (.var 4) (.cons (.lit (.int 1)) .nil))) .nil))) (.cons (.op (.sl true false) (.cons (.var 3) (.cons (.var 4) .nil))) .nil))) .nil))) .skip)
  (.seq (.ite (.op .eq (.cons (.var 5) (.cons (.lit (.int 2)) .nil))) (.ret (.op .toTup (.cons (.op .add (.cons (.op .add (.cons (.op (.sl false true) (.cons (.var 3) (.cons (.var 4) .nil))) (.cons (.op .rev (.cons (.op (.sl true true) (.cons (.var 3) (.cons (.var 4) (.cons (.op .add (.cons (.var 4) (.cons (.lit (.int 2)) .nil))) .nil)))) .nil)) .nil))) (.cons (.op (.sl true false) (.cons (.var 3) (.cons (.op .add (.cons (.var 4) (.cons (.lit (.int 2)) .nil))) .nil))) .nil))) .nil))) .skip)
  (.seq (.ite (.op .eq (.cons (.var 5) (.cons (.lit (.int 3)) .nil))) (.ret (.var 3)) .skip)
  (.seq (.ite (.op .lt (.cons (.var 5) (.cons (.lit (.int 6)) .nil))) (.ixset 3 (.var 4) (.call 25 [true, false] (.cons (.var 0) (.cons (.lit (.int 2)) .nil)))) (.seq (.set 7 (.seq true (.cons (.lit .non) (.cons (.lit (.bl true)) (.cons (.lit (.bl false)) (.cons (.lit (.int 0)) (.cons (.lit (.str [])) (.cons (.lit (.str [97])) (.cons (.lit (.str [98])) (.cons (.lit (.str [122, 122])) (.cons (.lit (.str [120])) (.cons (.lit (.str [102, 105, 108, 101])) (.cons (.lit (.str [110, 111, 116, 104, 105, 110, 103])) (.cons (.lit (.str [105, 115])) (.cons (.lit (.str [66])) (.cons (.lit (.str [97, 98, 99, 100, 101])) (.cons (.seq false .nil) (.cons (.seq false (.cons (.lit (.str [97])) (.cons (.lit (.str [120])) .nil))) .nil))))))))))))))))))
  (.ixset 3 (.var 4) (.call 22 [true, false] (.cons (.var 0) (.cons (.var 7) .nil))))))
  (.ret (.op .toTup (.cons (.var 3) .nil)))))))))))))⟩
def F27t0 : C := (.not (.chain .le .le (.cons (.lit (.str [97])) (.cons (.var 2) .nil)) (.cons (.lit (.str [122])) .nil)))
def F27e0 : C := (.var 2)
abbrev F27c0 : C := (.comp [2] [2] (.var 0) F27t0 F27e0)
/-- _law_is_text(value, most, sign) -/
def F27 : Fn := ⟨3, [false, false],
  (.seq (.ite (.or (.not (.op .isStr (.cons (.var 0) .nil))) (.not (.chain .lt .le (.cons (.lit (.int 0)) (.cons (.op .len (.cons (.var 0) .nil)) .nil)) (.cons (.var 1) .nil)))) (.ret (.lit (.bl false))) .skip)
  (.ret (.op .eq (.cons F27c0 (.cons (.seq true .nil) .nil)))))⟩
def F28b0 : S := (.seq (.ite (.or (.not (.call 24 [false, false, false] (.cons (.var 2) (.cons (.lit (.int 2)) (.cons (.lit (.int 2)) .nil))))) (.or (.not (.call 27 [false, false] (.cons (.op .idx (.cons (.var 2) (.cons (.lit (.int 0)) .nil))) (.cons (.lit (.int 4)) .nil)))) (.not (.op .lt (.cons (.var 1) (.cons (.op .idx (.cons (.var 2) (.cons (.lit (.int 0)) .nil))) .nil)))))) (.ret (.lit (.bl false))) .skip)
  (.set 1 (.op .idx (.cons (.var 2) (.cons (.lit (.int 0)) .nil)))))
/-- _law_is_pairs(value, last, pair) -/
def F28 : Fn := ⟨3, [false],
  (.seq (.ite (.not (.op .isTup (.cons (.var 0) .nil))) (.ret (.lit (.bl false))) .skip)
  (.seq (.set 1 (.lit (.str [])))
  (.seq (.for [2] (.var 0) F28b0)
  (.ret (.lit (.bl true))))))⟩
def F29b0 : S := (.set 2 (.op .add (.cons (.var 2) (.cons (.ite (.call 27 [false, false] (.cons (.var 4) (.cons (.lit (.int 8)) .nil))) (.lit (.int 0)) (.call 29 [false, false] (.cons (.var 4) (.cons (.op .sub (.cons (.var 1) (.cons (.lit (.int 1)) .nil))) .nil)))) .nil))))
/-- _law_tree_size(value, deep, many, name, node) -/
def F29 : Fn := ⟨5, [false, false],
  (.seq (.ite (.or (.op .eq (.cons (.var 1) (.cons (.lit (.int 0)) .nil))) (.not (.call 28 [false] (.cons (.var 0) .nil)))) (.ret (.lit (.int 999))) .skip)
  (.seq (.set 2 (.op .len (.cons (.var 0) .nil)))
  (.seq (.for [3, 4] (.var 0) F29b0)
  (.ret (.var 2)))))⟩
def F30b0 : S := (.ite (.and (.op .notN (.cons (.var 4) .nil)) (.not (.call 27 [false, false] (.cons (.var 4) (.cons (.lit (.int 8)) .nil))))) (.set 2 (.op .add (.cons (.var 2) (.cons (.call 30 [false, false] (.cons (.var 4) (.cons (.op .sub (.cons (.var 1) (.cons (.lit (.int 1)) .nil))) .nil))) .nil)))) .skip)
/-- _law_layer_size(value, deep, many, name, entry) -/
def F30 : Fn := ⟨5, [false, false],
  (.seq (.ite (.or (.op .eq (.cons (.var 1) (.cons (.lit (.int 0)) .nil))) (.or (.not (.call 24 [false, false, false] (.cons (.var 0) (.cons (.lit (.int 2)) (.cons (.lit (.int 2)) .nil))))) (.or (.not (.op .isBool (.cons (.op .idx (.cons (.var 0) (.cons (.lit (.int 0)) .nil))) .nil))) (.not (.call 28 [false] (.cons (.op .idx (.cons (.var 0) (.cons (.lit (.int 1)) .nil))) .nil)))))) (.ret (.lit (.int 999))) .skip)
  (.seq (.set 2 (.op .len (.cons (.op .idx (.cons (.var 0) (.cons (.lit (.int 1)) .nil))) .nil)))
  (.seq (.for [3, 4] (.op .idx (.cons (.var 0) (.cons (.lit (.int 1)) .nil))) F30b0)
  (.ret (.var 2)))))⟩
def F31b0 : S := (.seq (.set 4 (.call 21 [true, false] (.cons (.var 0) (.cons (.lit (.int 8)) .nil))))
  (.ite (.op .eq (.cons (.var 4) (.cons (.lit (.int 0)) .nil))) (.app 2 (.seq false (.cons (.var 3) (.cons (.lit .non) .nil)))) (.ite (.op .eq (.cons (.var 4) (.cons (.lit (.int 1)) .nil))) (.app 2 (.seq false (.cons (.var 3) (.cons (.call 22 [true, false] (.cons (.var 0) (.cons (.seq true (.cons (.lit (.str [120])) (.cons (.lit (.str [121, 121])) .nil))) .nil))) .nil)))) (.ite (.and (.op .lt (.cons (.var 4) (.cons (.lit (.int 5)) .nil))) (.op .gt (.cons (.var 1) (.cons (.lit (.int 1)) .nil)))) (.app 2 (.seq false (.cons (.var 3) (.cons (.call 31 [true, false] (.cons (.var 0) (.cons (.op .sub (.cons (.var 1) (.cons (.lit (.int 1)) .nil))) .nil))) .nil)))) .skip))))
/-- _law_sheet(source, deep, rows, name, way) -/
def F31 : Fn := ⟨5, [true, false],
  (.seq (.set 2 (.seq true .nil))
  (.seq (.for [3] (.seq true (.cons (.lit (.str [97])) (.cons (.lit (.str [98])) (.cons (.lit (.str [99, 99])) .nil)))) F31b0)
  (.ret (.seq false (.cons (.op .eq (.cons (.call 21 [true, false] (.cons (.var 0) (.cons (.lit (.int 6)) .nil))) (.cons (.lit (.int 0)) .nil))) (.cons (.op .toTup (.cons (.var 2) .nil)) .nil))))))⟩
def F32w0 : C := (.op .gt (.cons (.call 30 [false, false] (.cons (.var 1) (.cons (.lit (.int 4)) .nil))) (.cons (.lit (.int 16)) .nil)))
def F32b0 : S := (.set 1 (.seq false (.cons (.op .idx (.cons (.var 1) (.cons (.lit (.int 0)) .nil))) (.cons (.op (.sl true false) (.cons (.op .idx (.cons (.var 1) (.cons (.lit (.int 1)) .nil))) (.cons (.lit (.int 1)) .nil))) .nil))))
/-- _law_layer(source, found) -/
def F32 : Fn := ⟨2, [true],
  (.seq (.set 1 (.call 31 [true, false] (.cons (.var 0) (.cons (.lit (.int 3)) .nil))))
  (.seq (.while F32w0 F32b0)
  (.ret (.var 1))))⟩
def F33b0 : S := (.seq (.set 4 (.call 21 [true, false] (.cons (.var 0) (.cons (.lit (.int 5)) .nil))))
  (.ite (.op .eq (.cons (.var 4) (.cons (.lit (.int 0)) .nil))) (.app 2 (.seq false (.cons (.var 3) (.cons (.call 22 [true, false] (.cons (.var 0) (.cons (.seq true (.cons (.lit (.str [120])) (.cons (.lit (.str [121, 121])) (.cons (.lit (.str [117])) .nil)))) .nil))) .nil)))) (.ite (.and (.op .lt (.cons (.var 4) (.cons (.lit (.int 3)) .nil))) (.op .gt (.cons (.var 1) (.cons (.lit (.int 1)) .nil)))) (.app 2 (.seq false (.cons (.var 3) (.cons (.call 33 [true, false] (.cons (.var 0) (.cons (.op .sub (.cons (.var 1) (.cons (.lit (.int 1)) .nil))) .nil))) .nil)))) .skip)))
/-- _law_node(source, deep, rows, name, way) -/
def F33 : Fn := ⟨5, [true, false],
  (.seq (.set 2 (.seq true .nil))
  (.seq (.for [3] (.seq true (.cons (.lit (.str [97])) (.cons (.lit (.str [98])) (.cons (.lit (.str [99, 99])) (.cons (.lit (.str [100])) .nil))))) F33b0)
  (.ret (.op .toTup (.cons (.var 2) .nil)))))⟩
def F34w0 : C := (.op .gt (.cons (.call 29 [false, false] (.cons (.var 1) (.cons (.lit (.int 6)) .nil))) (.cons (.lit (.int 40)) .nil)))
def F34b0 : S := (.set 1 (.op (.sl true false) (.cons (.var 1) (.cons (.lit (.int 1)) .nil))))
/-- _law_tree(source, found) -/
def F34 : Fn := ⟨2, [true],
  (.seq (.set 1 (.call 33 [true, false] (.cons (.var 0) (.cons (.lit (.int 4)) .nil))))
  (.seq (.while F34w0 F34b0)
  (.ret (.var 1))))⟩
def F35b0 : S := (.set 1 (.seq false (.cons (.seq false (.cons (.var 2) (.cons (.var 1) .nil))) .nil)))
/-- _law_chain(path, node, name) -/
def F35 : Fn := ⟨3, [false, false],
  (.seq (.for [2] (.op .rev (.cons (.var 0) .nil)) F35b0)
  (.ret (.var 1)))⟩
def F36t0 : C := (.not (.call 27 [false, false] (.cons (.var 1) (.cons (.lit (.int 4)) .nil))))
def F36e0 : C := (.var 1)
abbrev F36c0 : C := (.comp [1] [1] (.op .idx (.cons (.var 0) (.cons (.lit (.int 0)) .nil))) F36t0 F36e0)
/-- _law_good_claim(value, name, first, last, words_so) -/
def F36 : Fn := ⟨5, [false],
  (.seq (.ite (.or (.not (.call 24 [false, false, false] (.cons (.var 0) (.cons (.lit (.int 2)) (.cons (.lit (.int 2)) .nil))))) (.or (.not (.call 24 [false, false, false] (.cons (.op .idx (.cons (.var 0) (.cons (.lit (.int 0)) .nil))) (.cons (.lit (.int 1)) (.cons (.lit (.int 4)) .nil))))) (.not (.call 24 [false, false, false] (.cons (.op .idx (.cons (.var 0) (.cons (.lit (.int 1)) .nil))) (.cons (.lit (.int 1)) (.cons (.lit (.int 2)) .nil))))))) (.ret (.lit (.bl false))) .skip)
  (.seq (.ite (.op .ne (.cons F36c0 (.cons (.seq true .nil) .nil))) (.ret (.lit (.bl false))) .skip)
  (.seq (.par [2, 3] (.cons (.op .idx (.cons (.op .idx (.cons (.var 0) (.cons (.lit (.int 1)) .nil))) (.cons (.lit (.int 0)) .nil))) (.cons (.op .idx (.cons (.op .idx (.cons (.var 0) (.cons (.lit (.int 1)) .nil))) (.cons (.op .neg (.cons (.lit (.int 1)) .nil)) .nil))) .nil)))
  (.seq (.ite (.and (.op .isStr (.cons (.var 2) .nil)) (.op .eq (.cons (.var 2) (.cons (.lit (.str [105, 115])) .nil)))) (.ret (.and (.op .eq (.cons (.op .len (.cons (.op .idx (.cons (.var 0) (.cons (.lit (.int 1)) .nil))) .nil)) (.cons (.lit (.int 2)) .nil))) (.call 27 [false, false] (.cons (.var 3) (.cons (.lit (.int 8)) .nil))))) .skip)
  (.seq (.set 4 (.seq true (.cons (.seq false (.cons (.lit (.str [102, 105, 108, 101])) .nil)) (.cons (.seq false (.cons (.lit (.str [102, 111, 108, 100, 101, 114])) .nil)) (.cons (.seq false (.cons (.lit (.str [110, 111, 116, 104, 105, 110, 103])) .nil)) (.cons (.seq false (.cons (.lit (.str [102, 105, 108, 101])) (.cons (.lit (.str [102, 111, 108, 100, 101, 114])) .nil))) (.cons (.seq false (.cons (.lit (.str [102, 105, 108, 101])) (.cons (.lit (.str [110, 111, 116, 104, 105, 110, 103])) .nil))) (.cons (.seq false (.cons (.lit (.str [102, 111, 108, 100, 101, 114])) (.cons (.lit (.str [110, 111, 116, 104, 105, 110, 103])) .nil))) .nil))))))))
  (.ret (.op .isin (.cons (.op .idx (.cons (.var 0) (.cons (.lit (.int 1)) .nil))) (.cons (.var 4) .nil)))))))))⟩
/-- _law_counted(value) -/
def F37 : Fn := ⟨1, [false],
  (.try 2 (.ret (.call 17 [false] (.cons (.var 0) .nil))) [(1, (.str [108, 97, 121, 101, 114, 33]))])⟩
def F38t0 : C := (.not (.call 27 [false, false] (.cons (.var 3) (.cons (.lit (.int 4)) .nil))))
def F38e0 : C := (.var 3)
abbrev F38c0 : C := (.comp [3] [3] (.var 0) F38t0 F38e0)
/-- _law_told_right(value, size, paths, name) -/
def F38 : Fn := ⟨4, [false],
  (.seq (.set 1 (.call 30 [false, false] (.cons (.var 0) (.cons (.lit (.int 4)) .nil))))
  (.seq (.ite (.not (.call 23 [false, false] (.cons (.call 8 [false] (.cons (.var 0) .nil)) (.cons (.op .le (.cons (.call 29 [false, false] (.cons (.var 0) (.cons (.lit (.int 6)) .nil))) (.cons (.lit (.int 40)) .nil))) .nil)))) (.ret (.lit (.bl false))) .skip)
  (.seq (.ite (.not (.call 23 [false, false] (.cons (.call 16 [false] (.cons (.var 0) .nil)) (.cons (.op .le (.cons (.var 1) (.cons (.lit (.int 16)) .nil))) .nil)))) (.ret (.lit (.bl false))) .skip)
  (.seq (.set 2 (.and (.call 24 [false, false, false] (.cons (.var 0) (.cons (.lit (.int 1)) (.cons (.lit (.int 6)) .nil)))) (.op .eq (.cons F38c0 (.cons (.seq true .nil) .nil)))))
  (.seq (.ite (.or (.not (.call 23 [false, false] (.cons (.call 9 [false] (.cons (.var 0) .nil)) (.cons (.var 2) .nil)))) (.not (.call 23 [false, false] (.cons (.call 19 [false] (.cons (.var 0) .nil)) (.cons (.call 36 [false] (.cons (.var 0) .nil)) .nil))))) (.ret (.lit (.bl false))) .skip)
  (.ret (.op .eq (.cons (.call 37 [false] (.cons (.var 0) .nil)) (.cons (.ite (.op .le (.cons (.var 1) (.cons (.lit (.int 16)) .nil))) (.var 1) (.lit (.str [108, 97, 121, 101, 114, 33]))) .nil)))))))))⟩
def F39b0 : S := (.seq (.set 9 (.call 22 [true, false] (.cons (.var 2) (.cons (.seq true (.cons (.var 3) (.cons (.var 4) (.cons (.var 5) (.cons (.var 6) .nil))))) .nil))))
  (.seq (.set 10 (.call 26 [true, false, false] (.cons (.var 2) (.cons (.var 9) (.cons (.lit (.int 4)) .nil)))))
  (.seq (.app 7 (.var 10))
  (.ite (.and (.op .isTup (.cons (.var 10) .nil)) (.op .eq (.cons (.call 21 [true, false] (.cons (.var 2) (.cons (.lit (.int 3)) .nil))) (.cons (.lit (.int 0)) .nil)))) (.app 7 (.call 26 [true, false, false] (.cons (.var 2) (.cons (.var 10) (.cons (.lit (.int 4)) .nil))))) .skip))))
def F39b1 : S := (.ite (.not (.call 38 [false] (.cons (.var 11) .nil))) (.ret (.lit (.bl false))) .skip)
def F39b2 : S := (.seq (.set 2 (.call 20 [false, false] (.cons (.var 0) (.cons (.var 1) .nil))))
  (.seq (.par [3, 4] (.cons (.call 34 [true] (.cons (.var 2) .nil)) (.cons (.call 32 [true] (.cons (.var 2) .nil)) .nil)))
  (.seq (.setT [5, 6] (.seq false (.cons (.seq false (.cons (.seq false (.cons (.lit (.str [97])) (.cons (.lit (.str [98])) .nil))) (.cons (.seq false (.cons (.lit (.str [105, 115])) (.cons (.lit (.str [120])) .nil))) .nil))) (.cons (.seq false (.cons (.seq false (.cons (.lit (.str [97])) .nil)) (.cons (.seq false (.cons (.lit (.str [102, 105, 108, 101])) (.cons (.lit (.str [102, 111, 108, 100, 101, 114])) .nil))) .nil))) .nil))))
  (.seq (.set 7 (.seq true (.cons (.var 3) (.cons (.var 4) (.cons (.var 5) (.cons (.op .toLst (.cons (.var 3) .nil)) (.cons (.op .toLst (.cons (.var 4) .nil)) (.cons (.op .mul (.cons (.seq false (.cons (.lit (.str [97])) .nil)) (.cons (.lit (.int 6)) .nil))) (.cons (.op .mul (.cons (.seq false (.cons (.lit (.str [97])) .nil)) (.cons (.lit (.int 7)) .nil))) (.cons (.seq false .nil) (.cons (.lit .non) .nil)))))))))))
  (.seq (.set 7 (.op .add (.cons (.var 7) (.cons (.seq true (.cons (.lit (.str [97])) (.cons (.op .idx (.cons (.var 5) (.cons (.lit (.int 0)) .nil))) (.cons (.op .idx (.cons (.var 4) (.cons (.lit (.int 1)) .nil))) .nil)))) .nil))))
  (.seq (.for [8] (.op .rng1 (.cons (.lit (.int 30)) .nil)) F39b0)
  (.for [11] (.op .add (.cons (.var 7) (.cons (.seq true (.cons (.call 25 [true, false] (.cons (.var 2) (.cons (.lit (.int 3)) .nil))) .nil)) .nil))) F39b1)))))))
def F39e0 : C := (.seq false (.cons (.op .add (.cons (.lit (.str [97])) (.cons (.var 13) .nil))) (.cons (.lit (.str [120])) .nil)))
abbrev F39c0 : C := (.comp [13] [13] (.lit (.str [97, 98, 99, 100, 101, 102, 103, 104, 105, 106, 107, 108, 109, 110, 111, 112, 113])) (.lit (.bl true)) F39e0)
def F39b3 : S := (.app 14 (.seq false (.cons (.lit (.bl false)) (.cons (.seq false (.cons (.seq false (.cons (.lit (.str [97])) (.cons (.op .idx (.cons (.var 14) (.cons (.op .neg (.cons (.lit (.int 1)) .nil)) .nil))) .nil))) .nil)) .nil))))
def F39t0 : C := (.not (.call 38 [false] (.cons (.var 11) .nil)))
def F39e1 : C := (.var 11)
abbrev F39c1 : C := (.comp [11] [11] (.var 15) F39t0 F39e1)
/-- law(script, k, source, tree, layer, claim, other, values, turn, some, odd, value, many, sign, deep, rows) -/
def F39 : Fn := ⟨16, [false],
  (.seq (.for [1] (.op .rng1 (.cons (.op .max2 (.cons (.lit (.int 6)) (.cons (.op .min2 (.cons (.lit (.int 20)) (.cons (.op .len (.cons (.var 0) .nil)) .nil))) .nil))) .nil)) F39b2)
  (.seq (.set 12 (.op .toTup (.cons F39c0 .nil)))
  (.seq (.set 14 (.seq true (.cons (.seq false (.cons (.lit (.bl false)) (.cons (.seq false .nil) .nil))) .nil)))
  (.seq (.for [8] (.op .rng1 (.cons (.lit (.int 4)) .nil)) F39b3)
  (.seq (.set 15 (.op .add (.cons (.var 14) (.cons (.seq true (.cons (.seq false (.cons (.lit (.bl false)) (.cons (.var 12) .nil))) (.cons (.seq false (.cons (.lit (.bl false)) (.cons (.op (.sl true false) (.cons (.var 12) (.cons (.lit (.int 1)) .nil))) .nil))) (.cons (.seq false (.cons (.lit (.bl true)) (.cons (.seq false (.cons (.seq false (.cons (.lit (.str [98])) (.cons (.lit .non) .nil))) (.cons (.seq false (.cons (.lit (.str [97])) (.cons (.lit .non) .nil))) .nil))) .nil))) .nil)))) .nil))))
  (.seq (.set 15 (.op .add (.cons (.var 15) (.cons (.seq true (.cons (.seq false (.cons (.lit (.int 0)) (.cons (.seq false .nil) .nil))) (.cons (.seq false (.cons (.lit (.bl false)) (.cons (.seq false (.cons (.seq false (.cons (.lit (.str [97, 98, 49])) (.cons (.lit .non) .nil))) .nil)) .nil))) (.cons (.seq false (.cons (.seq false (.cons (.lit (.str [97])) (.cons (.op .mul (.cons (.lit (.str [120])) (.cons (.lit (.int 9)) .nil))) .nil))) .nil)) (.cons (.seq false (.cons (.seq false (.cons (.lit (.str [97])) (.cons (.op .mul (.cons (.lit (.str [120])) (.cons (.lit (.int 8)) .nil))) .nil))) .nil)) .nil))))) .nil))))
  (.seq (.set 15 (.op .add (.cons (.var 15) (.cons (.seq true (.cons (.seq false (.cons (.seq false (.cons (.lit (.str [97])) (.cons (.seq false .nil) .nil))) (.cons (.seq false (.cons (.lit (.str [97])) (.cons (.seq false .nil) .nil))) .nil))) (.cons (.seq false (.cons (.seq false (.cons (.lit (.str [113])) (.cons (.seq false (.cons (.seq false (.cons (.lit (.str [98])) (.cons (.var 12) .nil))) (.cons (.seq false (.cons (.lit (.str [99])) (.cons (.var 12) .nil))) .nil))) .nil))) .nil)) .nil))) .nil))))
  (.seq (.app 15 (.seq false (.cons (.lit (.bl false)) (.cons (.seq false (.cons (.seq false (.cons (.lit (.str [97])) (.cons (.seq false (.cons (.lit (.bl false)) (.cons (.op (.sl false true) (.cons (.var 12) (.cons (.lit (.int 8)) .nil))) .nil))) .nil))) (.cons (.seq false (.cons (.lit (.str [98])) (.cons (.seq false (.cons (.lit (.bl true)) (.cons (.op (.sl false true) (.cons (.var 12) (.cons (.lit (.int 7)) .nil))) .nil))) .nil))) .nil))) .nil))))
  (.seq (.set 15 (.op .add (.cons (.var 15) (.cons (.seq true (.cons (.seq false (.cons (.seq false (.cons (.lit (.str [113])) (.cons (.seq false (.cons (.seq false (.cons (.lit (.str [98])) (.cons (.var 12) .nil))) (.cons (.seq false (.cons (.lit (.str [99])) (.cons (.var 12) .nil))) (.cons (.seq false (.cons (.lit (.str [100])) (.cons (.op (.sl false true) (.cons (.var 12) (.cons (.lit (.int 3)) .nil))) .nil))) .nil)))) .nil))) .nil)) (.cons (.call 35 [false, false] (.cons (.op .mul (.cons (.seq false (.cons (.lit (.str [97])) .nil)) (.cons (.lit (.int 5)) .nil))) (.cons (.seq false .nil) .nil))) .nil))) .nil))))
  (.seq (.set 15 (.op .add (.cons (.var 15) (.cons (.seq true (.cons (.call 35 [false, false] (.cons (.op .mul (.cons (.seq false (.cons (.lit (.str [97])) .nil)) (.cons (.lit (.int 6)) .nil))) (.cons (.seq false .nil) .nil))) (.cons (.call 35 [false, false] (.cons (.op .mul (.cons (.seq false (.cons (.lit (.str [97])) .nil)) (.cons (.lit (.int 6)) .nil))) (.cons (.lit (.str [120])) .nil))) (.cons (.seq false (.cons (.op .mul (.cons (.seq false (.cons (.lit (.str [97])) .nil)) (.cons (.lit (.int 5)) .nil))) (.cons (.seq false (.cons (.lit (.str [102, 105, 108, 101])) .nil)) .nil))) .nil)))) .nil))))
  (.seq (.set 15 (.op .add (.cons (.var 15) (.cons (.seq true (.cons (.seq false (.cons (.seq false (.cons (.lit (.str [97])) .nil)) (.cons (.seq false (.cons (.lit (.str [102, 111, 108, 100, 101, 114])) (.cons (.lit (.str [102, 105, 108, 101])) .nil))) .nil))) (.cons (.seq false (.cons (.seq false (.cons (.lit (.str [97])) .nil)) (.cons (.seq false (.cons (.lit (.str [105, 115])) .nil)) .nil))) (.cons (.seq false (.cons (.seq false (.cons (.lit (.str [97])) .nil)) (.cons (.seq false (.cons (.lit (.str [105, 115])) (.cons (.lit (.str [102, 105, 108, 101])) .nil))) .nil))) .nil)))) .nil))))
  (.ret (.op .eq (.cons F39c1 (.cons (.seq true .nil) .nil)))))))))))))))⟩
def T : List Fn := [F0, F1, F2, F3, F4, F5, F6, F7, F8, F9, F10, F11, F12, F13, F14, F15, F16, F17, F18, F19, F20, F21, F22, F23, F24, F25, F26, F27, F28, F29, F30, F31, F32, F33, F34, F35, F36, F37, F38, F39]
abbrev st (i : Nat) : Stmt := PySem.Challenge.pw_treelayers_k01_trees_layers_and_claims_r.main.body.getD i (.Pass ⟨0, 0, 0, 0⟩)
/-- what the names of the module stand for -/
structure Fx (K : PySem.W.Frag) (mg : Str → Option Value) (ea : Nat → Addr) : Prop where
  n_all : mg "all" = none
  n_bool : mg "bool" = none
  n_int : mg "int" = none
  n_isinstance : mg "isinstance" = none
  n_len : mg "len" = none
  n_list : mg "list" = none
  n_max : mg "max" = none
  n_min : mg "min" = none
  n_range : mg "range" = none
  n_set : mg "set" = none
  n_sorted : mg "sorted" = none
  n_str : mg "str" = none
  n_tuple : mg "tuple" = none
  c_LETTERS : ∃ t, mg "LETTERS" = some (.str (asT [97, 98, 99, 100, 101, 102, 103, 104, 105, 106, 107, 108, 109, 110, 111, 112, 113, 114, 115, 116, 117, 118, 119, 120, 121, 122]) t)
  c_MOST_DEEP_layers : ∃ t, mg "MOST_DEEP_layers" = some (.int 4 t)
  c_MOST_DEEP_trees : ∃ t, mg "MOST_DEEP_trees" = some (.int 6 t)
  c_MOST_ENTRIES : ∃ t, mg "MOST_ENTRIES" = some (.int 16 t)
  c_MOST_NAMES : ∃ t, mg "MOST_NAMES" = some (.int 4 t)
  c_MOST_PAIRS : ∃ t, mg "MOST_PAIRS" = some (.int 40 t)
  c_WORDS : ∃ a, mg "WORDS" = some (.ref a) ∧ ∀ Z, Rep K Z (.ref a) (.tup [(.str [102, 105, 108, 101]), (.str [102, 111, 108, 100, 101, 114]), (.str [110, 111, 116, 104, 105, 110, 103])])
  x_InvalidLayer : PySem.W.excIn K (ea 1) He.veBase "ValueError.__new__" = true ∧ mg "InvalidLayer" = some (.ref (ea 1)) ∧ PySem.W.keepIn K (.ref (ea 1)) = true ∧ PySem.W.subIn K (.ref (ea 1)) (.type "BaseException") = some true ∧ PySem.W.typeIn K (.ref (ea 1)) = some (.type "type")
  xm : ∀ x, x < 2 → ∀ y, y ≠ 0 → y < 2 → PySem.W.exmOne K (.ref (ea x)) (.ref (ea y)) = some (y == x)
structure Gx (P : Program) (w : World) (K : PySem.W.Frag) (mg : Str → Option Value) (base : Heap) (ea : Nat → Addr) (Φ : Fun) (k : Nat) : Prop where
  a_is_word : Callee P w K mg base k "is_word" ["value", "most"] (spD K (exA ea) (Φ 0) [false, false])
  a_is_name : Callee P w K mg base k "is_name" ["value"] (spD K (exA ea) (Φ 1) [false])
  a_is_content : Callee P w K mg base k "is_content" ["value"] (spD K (exA ea) (Φ 2) [false])
  a_are_pairs : Callee P w K mg base k "are_pairs" ["value"] (spD K (exA ea) (Φ 3) [false])
  a_is_folder : Callee P w K mg base k "is_folder" ["value", "deep"] (spD K (exA ea) (Φ 4) [false, false])
  a_count_pairs : Callee P w K mg base k "count_pairs" ["folder"] (spD K (exA ea) (Φ 5) [false])
  a_is_right_tree : Callee P w K mg base k "is_right_tree" ["value"] (spD K (exA ea) (Φ 6) [false])
  a_is_names : Callee P w K mg base k "is_names" ["value", "most"] (spD K (exA ea) (Φ 7) [false, false])
  a_is_tree : Callee P w K mg base k "is_tree" ["value"] (spD K (exA ea) (Φ 8) [false])
  a_is_path : Callee P w K mg base k "is_path" ["value"] (spD K (exA ea) (Φ 9) [false])
  a_is_entry : Callee P w K mg base k "is_entry" ["value", "deep"] (spD K (exA ea) (Φ 10) [false, false])
  a_is_layer_so : Callee P w K mg base k "is_layer_so" ["value", "deep"] (spD K (exA ea) (Φ 11) [false, false])
  a_places_in : Callee P w K mg base k "places_in" ["layer", "names"] (spD K (exA ea) (Φ 12) [false, false])
  a_entries_in : Callee P w K mg base k "entries_in" ["layer"] (spD K (exA ea) (Φ 13) [false])
  a_is_right_layer : Callee P w K mg base k "is_right_layer" ["value"] (spD K (exA ea) (Φ 14) [false])
  a_need_layer : Callee P w K mg base k "need_layer" ["value"] (spD K (exA ea) (Φ 15) [false])
  a_is_layer : Callee P w K mg base k "is_layer" ["value"] (spD K (exA ea) (Φ 16) [false])
  a_count_entries : Callee P w K mg base k "count_entries" ["layer"] (spD K (exA ea) (Φ 17) [false])
  a_is_right_claim : Callee P w K mg base k "is_right_claim" ["value"] (spD K (exA ea) (Φ 18) [false])
  a_is_claim : Callee P w K mg base k "is_claim" ["value"] (spD K (exA ea) (Φ 19) [false])
  a__law_source : Callee P w K mg base k "_law_source" ["script", "k"] (spD K (exA ea) (Φ 20) [false, false])
  a__law_pick : Callee P w K mg base k "_law_pick" ["source", "many"] (spD K (exA ea) (Φ 21) [true, false])
  a__law_chosen : Callee P w K mg base k "_law_chosen" ["source", "things"] (spD K (exA ea) (Φ 22) [true, false])
  a__law_is_bool : Callee P w K mg base k "_law_is_bool" ["told", "due"] (spD K (exA ea) (Φ 23) [false, false])
  a__law_wide : Callee P w K mg base k "_law_wide" ["value", "low", "high"] (spD K (exA ea) (Φ 24) [false, false, false])
  a__law_any_value : Callee P w K mg base k "_law_any_value" ["source", "deep"] (spD K (exA ea) (Φ 25) [true, false])
  a__law_variant : Callee P w K mg base k "_law_variant" ["source", "value", "deep"] (spD K (exA ea) (Φ 26) [true, false, false])
  a__law_is_text : Callee P w K mg base k "_law_is_text" ["value", "most"] (spD K (exA ea) (Φ 27) [false, false])
  a__law_is_pairs : Callee P w K mg base k "_law_is_pairs" ["value"] (spD K (exA ea) (Φ 28) [false])
  a__law_tree_size : Callee P w K mg base k "_law_tree_size" ["value", "deep"] (spD K (exA ea) (Φ 29) [false, false])
  a__law_layer_size : Callee P w K mg base k "_law_layer_size" ["value", "deep"] (spD K (exA ea) (Φ 30) [false, false])
  a__law_sheet : Callee P w K mg base k "_law_sheet" ["source", "deep"] (spD K (exA ea) (Φ 31) [true, false])
  a__law_layer : Callee P w K mg base k "_law_layer" ["source"] (spD K (exA ea) (Φ 32) [true])
  a__law_node : Callee P w K mg base k "_law_node" ["source", "deep"] (spD K (exA ea) (Φ 33) [true, false])
  a__law_tree : Callee P w K mg base k "_law_tree" ["source"] (spD K (exA ea) (Φ 34) [true])
  a__law_chain : Callee P w K mg base k "_law_chain" ["path", "node"] (spD K (exA ea) (Φ 35) [false, false])
  a__law_good_claim : Callee P w K mg base k "_law_good_claim" ["value"] (spD K (exA ea) (Φ 36) [false])
  a__law_counted : Callee P w K mg base k "_law_counted" ["value"] (spD K (exA ea) (Φ 37) [false])
  a__law_told_right : Callee P w K mg base k "_law_told_right" ["value"] (spD K (exA ea) (Φ 38) [false])
  a_law : Callee P w K mg base k "law" ["script"] (spD K (exA ea) (Φ 39) [false])
section
variable {P : Program} {w : World} {K : PySem.W.Frag} {mg : Str → Option Value} {base : Heap} {ea : Nat → Addr} {Φ : Fun} {k : Nat}
theorem b_is_word (fx : Fx K mg ea) (gx : Gx P w K mg base ea Φ (k + 8)) {f : Addr} (cdv : Value) (A : Around) (outer : List PySem.Env) (s : Shared) (H : Hp) (E : XK) (hr : Room (k + 8) (A.deeper (PyProof.Rows.envOfC "is_word" (defScope (st 7)) s.heap.objs.size f cdv))) :
    BD (cxOf (L2.CX P w) P w K mg base ["value", "most", "sign"] "is_word" (defScope (st 7)) f cdv A outer s H E) (exA ea) (fun cls d _ H => E cls d H) Φ (lentIx 0 F0.lent) (defBody (st 7)) F0.body := by
  have hN : (["value", "most", "sign"] : List Str).Nodup := by decide +kernel
  have tk : Takes (cxOf (L2.CX P w) P w K mg base ["value", "most", "sign"] "is_word" (defScope (st 7)) f cdv A outer s H E) (fun cls d _ H => E cls d H) := takes_of rfl rfl rfl rfl
  have po : PassesOwn (model P w) (cxOf (L2.CX P w) P w K mg base ["value", "most", "sign"] "is_word" (defScope (st 7)) f cdv A outer s H E).A (cxOf (L2.CX P w) P w K mg base ["value", "most", "sign"] "is_word" (defScope (st 7)) f cdv A outer s H E).env (cxOf (L2.CX P w) P w K mg base ["value", "most", "sign"] "is_word" (defScope (st 7)) f cdv A outer s H E).xe := passes_of (X := cxOf (L2.CX P w) P w K mg base ["value", "most", "sign"] "is_word" (defScope (st 7)) f cdv A outer s H E) rfl
  exact (b_cons (s_if (t_pw (w_or (t_not (t_val (k_is c_isStr rfl fx.n_isinstance rfl fx.n_str rfl (pe_var (i := 0) rfl (.inl rfl))))) (w_or1 (t_not (t_chain u_le u_le nc_le k_int (k_cB c_len rfl fx.n_len rfl (k_a (pe_var (i := 0) rfl (.inl rfl)) k_a0)) (pe_var (i := 1) rfl (.inl rfl))))))) (b_one (s_ret (m_val k_bl))) b_nil)
    (b_one (s_ret (m_val (k_cB (c_all rfl) rfl fx.n_all rfl (k_a (k_comp (own := [("sign", 2)]) (b := false) rfl rfl hN (fun h => nomatch h) (by decide) (i_seq (k_var (pe_var (i := 0) rfl (.inl rfl)))) (blkOk_by (by kernel_rfl)) (fun _ _ _ _ _ => (g_one hN rfl (.inl rfl))) (fun _ _ _ _ _ => k_yes) (fun _ _ _ _ _ => (k_cmp (u_isin (r300 hr)) (pe_var (i := 2) rfl (.inl rfl)) (k_gstr rfl fx.c_LETTERS (by decide)) (by rfl)))) k_a0))))))
theorem b_is_name (fx : Fx K mg ea) (gx : Gx P w K mg base ea Φ (k + 8)) {f : Addr} (cdv : Value) (A : Around) (outer : List PySem.Env) (s : Shared) (H : Hp) (E : XK) (hr : Room (k + 8) (A.deeper (PyProof.Rows.envOfC "is_name" (defScope (st 8)) s.heap.objs.size f cdv))) :
    BD (cxOf (L2.CX P w) P w K mg base ["value"] "is_name" (defScope (st 8)) f cdv A outer s H E) (exA ea) (fun cls d _ H => E cls d H) Φ (lentIx 0 F1.lent) (defBody (st 8)) F1.body := by
  have hN : (["value"] : List Str).Nodup := by decide +kernel
  have tk : Takes (cxOf (L2.CX P w) P w K mg base ["value"] "is_name" (defScope (st 8)) f cdv A outer s H E) (fun cls d _ H => E cls d H) := takes_of rfl rfl rfl rfl
  have po : PassesOwn (model P w) (cxOf (L2.CX P w) P w K mg base ["value"] "is_name" (defScope (st 8)) f cdv A outer s H E).A (cxOf (L2.CX P w) P w K mg base ["value"] "is_name" (defScope (st 8)) f cdv A outer s H E).env (cxOf (L2.CX P w) P w K mg base ["value"] "is_name" (defScope (st 8)) f cdv A outer s H E).xe := passes_of (X := cxOf (L2.CX P w) P w K mg base ["value"] "is_name" (defScope (st 8)) f cdv A outer s H E) rfl
  exact (b_one (s_ret (m_val (k_fn gx.a_is_word hr tk rfl (k_bf (k_var (pe_var (i := 0) rfl (.inl rfl))) (k_bf k_int k_b0))))))
theorem b_is_content (fx : Fx K mg ea) (gx : Gx P w K mg base ea Φ (k + 8)) {f : Addr} (cdv : Value) (A : Around) (outer : List PySem.Env) (s : Shared) (H : Hp) (E : XK) (hr : Room (k + 8) (A.deeper (PyProof.Rows.envOfC "is_content" (defScope (st 9)) s.heap.objs.size f cdv))) :
    BD (cxOf (L2.CX P w) P w K mg base ["value"] "is_content" (defScope (st 9)) f cdv A outer s H E) (exA ea) (fun cls d _ H => E cls d H) Φ (lentIx 0 F2.lent) (defBody (st 9)) F2.body := by
  have hN : (["value"] : List Str).Nodup := by decide +kernel
  have tk : Takes (cxOf (L2.CX P w) P w K mg base ["value"] "is_content" (defScope (st 9)) f cdv A outer s H E) (fun cls d _ H => E cls d H) := takes_of rfl rfl rfl rfl
  have po : PassesOwn (model P w) (cxOf (L2.CX P w) P w K mg base ["value"] "is_content" (defScope (st 9)) f cdv A outer s H E).A (cxOf (L2.CX P w) P w K mg base ["value"] "is_content" (defScope (st 9)) f cdv A outer s H E).env (cxOf (L2.CX P w) P w K mg base ["value"] "is_content" (defScope (st 9)) f cdv A outer s H E).xe := passes_of (X := cxOf (L2.CX P w) P w K mg base ["value"] "is_content" (defScope (st 9)) f cdv A outer s H E) rfl
  exact (b_one (s_ret (m_val (k_fn gx.a_is_word hr tk rfl (k_bf (k_var (pe_var (i := 0) rfl (.inl rfl))) (k_bf k_int k_b0))))))
theorem b_are_pairs (fx : Fx K mg ea) (gx : Gx P w K mg base ea Φ (k + 8)) {f : Addr} (cdv : Value) (A : Around) (outer : List PySem.Env) (s : Shared) (H : Hp) (E : XK) (hr : Room (k + 8) (A.deeper (PyProof.Rows.envOfC "are_pairs" (defScope (st 10)) s.heap.objs.size f cdv))) :
    BD (cxOf (L2.CX P w) P w K mg base ["value", "pair", "names"] "are_pairs" (defScope (st 10)) f cdv A outer s H E) (exA ea) (fun cls d _ H => E cls d H) Φ (lentIx 0 F3.lent) (defBody (st 10)) F3.body := by
  have hN : (["value", "pair", "names"] : List Str).Nodup := by decide +kernel
  have tk : Takes (cxOf (L2.CX P w) P w K mg base ["value", "pair", "names"] "are_pairs" (defScope (st 10)) f cdv A outer s H E) (fun cls d _ H => E cls d H) := takes_of rfl rfl rfl rfl
  have po : PassesOwn (model P w) (cxOf (L2.CX P w) P w K mg base ["value", "pair", "names"] "are_pairs" (defScope (st 10)) f cdv A outer s H E).A (cxOf (L2.CX P w) P w K mg base ["value", "pair", "names"] "are_pairs" (defScope (st 10)) f cdv A outer s H E).env (cxOf (L2.CX P w) P w K mg base ["value", "pair", "names"] "are_pairs" (defScope (st 10)) f cdv A outer s H E).xe := passes_of (X := cxOf (L2.CX P w) P w K mg base ["value", "pair", "names"] "are_pairs" (defScope (st 10)) f cdv A outer s H E) rfl
  exact (b_cons (s_if (t_not (t_val (k_is c_isTup rfl fx.n_isinstance rfl fx.n_tuple rfl (pe_var (i := 0) rfl (.inl rfl))))) (b_one (s_ret (m_val k_bl))) b_nil)
    (b_cons (s_if (t_not (t_val (k_cB (c_all rfl) rfl fx.n_all rfl (k_a (k_comp (own := [("pair", 1)]) (b := false) rfl rfl hN (fun h => nomatch h) (by decide) (i_seq (k_var (pe_var (i := 0) rfl (.inl rfl)))) (blkOk_by (by kernel_rfl)) (fun _ _ _ _ _ => (g_one hN rfl (.inl rfl))) (fun _ _ _ _ _ => k_yes) (fun _ _ _ _ _ => (k_and (k_is c_isTup rfl fx.n_isinstance rfl fx.n_tuple rfl (pe_var (i := 1) rfl (.inl rfl))) (k_and (k_cmp (u_eq (r200 hr)) (k_cB c_len rfl fx.n_len rfl (k_a (pe_var (i := 1) rfl (.inl rfl)) k_a0)) k_int (nomark _)) (k_one (k_fn gx.a_is_name hr Tl.takes0 rfl (k_bf (k_idx (r1 hr) (pe_var (i := 1) rfl (.inl rfl)) k_int (fun _ _ => rfl)) k_b0))))))) k_a0)))) (b_one (s_ret (m_val k_bl))) b_nil)
    (b_cons (s_setC (own := [("pair", 1)]) (b := false) rfl rfl hN rfl rfl (sw_true rfl rfl rfl (by kernel_rfl)) (fun h => nomatch h) (by decide) (i_seq (k_var (pe_var (i := 0) rfl (.inl rfl)))) (blkOk_by (by kernel_rfl)) (fun _ _ _ _ _ => (g_one hN rfl (.inl rfl))) (fun _ _ _ _ _ => k_yes) (fun _ _ _ _ _ => (k_idx (r1 hr) (pe_var (i := 1) rfl (.inl rfl)) k_int (fun _ _ => rfl))))
    (b_one (s_ret (m_val (k_cmp (u_eq (r200 hr)) (pe_var (i := 2) rfl (.inl rfl)) (k_sortSet (r300 hr) rfl rfl fx.n_sorted rfl fx.n_set (pe_var (i := 2) rfl (.inl rfl))) (nomark _))))))))
theorem b_is_folder (fx : Fx K mg ea) (gx : Gx P w K mg base ea Φ (k + 8)) {f : Addr} (cdv : Value) (A : Around) (outer : List PySem.Env) (s : Shared) (H : Hp) (E : XK) (hr : Room (k + 8) (A.deeper (PyProof.Rows.envOfC "is_folder" (defScope (st 11)) s.heap.objs.size f cdv))) :
    BD (cxOf (L2.CX P w) P w K mg base ["value", "deep", "name", "node"] "is_folder" (defScope (st 11)) f cdv A outer s H E) (exA ea) (fun cls d _ H => E cls d H) Φ (lentIx 0 F4.lent) (defBody (st 11)) F4.body := by
  have hN : (["value", "deep", "name", "node"] : List Str).Nodup := by decide +kernel
  have tk : Takes (cxOf (L2.CX P w) P w K mg base ["value", "deep", "name", "node"] "is_folder" (defScope (st 11)) f cdv A outer s H E) (fun cls d _ H => E cls d H) := takes_of rfl rfl rfl rfl
  have po : PassesOwn (model P w) (cxOf (L2.CX P w) P w K mg base ["value", "deep", "name", "node"] "is_folder" (defScope (st 11)) f cdv A outer s H E).A (cxOf (L2.CX P w) P w K mg base ["value", "deep", "name", "node"] "is_folder" (defScope (st 11)) f cdv A outer s H E).env (cxOf (L2.CX P w) P w K mg base ["value", "deep", "name", "node"] "is_folder" (defScope (st 11)) f cdv A outer s H E).xe := passes_of (X := cxOf (L2.CX P w) P w K mg base ["value", "deep", "name", "node"] "is_folder" (defScope (st 11)) f cdv A outer s H E) rfl
  exact (b_cons (s_if (t_pw (w_or (t_cmp (u_eq (r200 hr)) (pe_var (i := 1) rfl (.inr (.inl rfl))) k_int (nomark _)) (w_or1 (t_not (t_val (k_fn gx.a_are_pairs hr tk rfl (k_bf (k_var (pe_var (i := 0) rfl (.inl rfl))) k_b0))))))) (b_one (s_ret (m_val k_bl))) b_nil)
    (b_one (s_ret (m_val (k_cB (c_all rfl) rfl fx.n_all rfl (k_a (k_comp (own := [("name", 2), ("node", 3)]) (b := false) rfl rfl hN (fun h => nomatch h) (by decide) (i_seq (k_var (pe_var (i := 0) rfl (.inl rfl)))) (blkOk_by (by kernel_rfl)) (fun _ _ _ _ _ => (g_many rfl (by decide) (g_cons hN rfl (.inl rfl) (g_cons hN rfl (.inl rfl) g_nil)))) (fun _ _ _ _ _ => k_yes) (fun _ _ _ _ _ => (k_or (k_fn gx.a_is_content hr Tl.takes0 rfl (k_bf (k_var (pe_var (i := 3) rfl (.inl rfl))) k_b0)) (k_one (k_fn gx.a_is_folder hr Tl.takes0 rfl (k_bf (k_var (pe_var (i := 3) rfl (.inl rfl))) (k_bf (k_bin u_sub (pe_var (i := 1) rfl (.inr (.inl rfl))) k_int) k_b0))))))) k_a0))))))
theorem b_count_pairs (fx : Fx K mg ea) (gx : Gx P w K mg base ea Φ (k + 8)) {f : Addr} (cdv : Value) (A : Around) (outer : List PySem.Env) (s : Shared) (H : Hp) (E : XK) (hr : Room (k + 8) (A.deeper (PyProof.Rows.envOfC "count_pairs" (defScope (st 12)) s.heap.objs.size f cdv))) :
    BD (cxOf (L2.CX P w) P w K mg base ["folder", "many", "name", "node"] "count_pairs" (defScope (st 12)) f cdv A outer s H E) (exA ea) (fun cls d _ H => E cls d H) Φ (lentIx 0 F5.lent) (defBody (st 12)) F5.body := by
  have hN : (["folder", "many", "name", "node"] : List Str).Nodup := by decide +kernel
  have tk : Takes (cxOf (L2.CX P w) P w K mg base ["folder", "many", "name", "node"] "count_pairs" (defScope (st 12)) f cdv A outer s H E) (fun cls d _ H => E cls d H) := takes_of rfl rfl rfl rfl
  have po : PassesOwn (model P w) (cxOf (L2.CX P w) P w K mg base ["folder", "many", "name", "node"] "count_pairs" (defScope (st 12)) f cdv A outer s H E).A (cxOf (L2.CX P w) P w K mg base ["folder", "many", "name", "node"] "count_pairs" (defScope (st 12)) f cdv A outer s H E).env (cxOf (L2.CX P w) P w K mg base ["folder", "many", "name", "node"] "count_pairs" (defScope (st 12)) f cdv A outer s H E).xe := passes_of (X := cxOf (L2.CX P w) P w K mg base ["folder", "many", "name", "node"] "count_pairs" (defScope (st 12)) f cdv A outer s H E) rfl
  exact (b_cons (s_set (i := 1) hN rfl (.inl rfl) (k_cB c_len rfl fx.n_len rfl (k_a (pe_var (i := 0) rfl (.inl rfl)) k_a0)))
    (b_cons (s_for (b := false) po rfl (fun h => nomatch h) (i_seq (k_var (pe_var (i := 0) rfl (.inl rfl)))) (g_many rfl (by decide) (g_cons hN rfl (.inl rfl) (g_cons hN rfl (.inl rfl) g_nil))) (b_one (s_if (t_val (k_is c_isTup rfl fx.n_isinstance rfl fx.n_tuple rfl (pe_var (i := 3) rfl (.inl rfl)))) (b_one (s_set (i := 1) hN rfl (.inl rfl) (k_bin u_add (pe_var (i := 1) rfl (.inl rfl)) (k_fn gx.a_count_pairs hr tk rfl (k_bf (k_var (pe_var (i := 3) rfl (.inl rfl))) k_b0))))) b_nil)))
    (b_one (s_ret (m_var (pe_var (i := 1) rfl (.inl rfl)))))))
theorem b_is_right_tree (fx : Fx K mg ea) (gx : Gx P w K mg base ea Φ (k + 8)) {f : Addr} (cdv : Value) (A : Around) (outer : List PySem.Env) (s : Shared) (H : Hp) (E : XK) (hr : Room (k + 8) (A.deeper (PyProof.Rows.envOfC "is_right_tree" (defScope (st 13)) s.heap.objs.size f cdv))) :
    BD (cxOf (L2.CX P w) P w K mg base ["value"] "is_right_tree" (defScope (st 13)) f cdv A outer s H E) (exA ea) (fun cls d _ H => E cls d H) Φ (lentIx 0 F6.lent) (defBody (st 13)) F6.body := by
  have hN : (["value"] : List Str).Nodup := by decide +kernel
  have tk : Takes (cxOf (L2.CX P w) P w K mg base ["value"] "is_right_tree" (defScope (st 13)) f cdv A outer s H E) (fun cls d _ H => E cls d H) := takes_of rfl rfl rfl rfl
  have po : PassesOwn (model P w) (cxOf (L2.CX P w) P w K mg base ["value"] "is_right_tree" (defScope (st 13)) f cdv A outer s H E).A (cxOf (L2.CX P w) P w K mg base ["value"] "is_right_tree" (defScope (st 13)) f cdv A outer s H E).env (cxOf (L2.CX P w) P w K mg base ["value"] "is_right_tree" (defScope (st 13)) f cdv A outer s H E).xe := passes_of (X := cxOf (L2.CX P w) P w K mg base ["value"] "is_right_tree" (defScope (st 13)) f cdv A outer s H E) rfl
  exact (b_one (s_ret (m_val (k_and (k_fn gx.a_is_folder hr tk rfl (k_bf (k_var (pe_var (i := 0) rfl (.inl rfl))) (k_bf (k_gint rfl fx.c_MOST_DEEP_trees) k_b0))) (k_one (k_cmp u_le (k_fn gx.a_count_pairs hr tk rfl (k_bf (k_var (pe_var (i := 0) rfl (.inl rfl))) k_b0)) (k_gint rfl fx.c_MOST_PAIRS) (nomark _)))))))
theorem b_is_names (fx : Fx K mg ea) (gx : Gx P w K mg base ea Φ (k + 8)) {f : Addr} (cdv : Value) (A : Around) (outer : List PySem.Env) (s : Shared) (H : Hp) (E : XK) (hr : Room (k + 8) (A.deeper (PyProof.Rows.envOfC "is_names" (defScope (st 14)) s.heap.objs.size f cdv))) :
    BD (cxOf (L2.CX P w) P w K mg base ["value", "most", "name"] "is_names" (defScope (st 14)) f cdv A outer s H E) (exA ea) (fun cls d _ H => E cls d H) Φ (lentIx 0 F7.lent) (defBody (st 14)) F7.body := by
  have hN : (["value", "most", "name"] : List Str).Nodup := by decide +kernel
  have tk : Takes (cxOf (L2.CX P w) P w K mg base ["value", "most", "name"] "is_names" (defScope (st 14)) f cdv A outer s H E) (fun cls d _ H => E cls d H) := takes_of rfl rfl rfl rfl
  have po : PassesOwn (model P w) (cxOf (L2.CX P w) P w K mg base ["value", "most", "name"] "is_names" (defScope (st 14)) f cdv A outer s H E).A (cxOf (L2.CX P w) P w K mg base ["value", "most", "name"] "is_names" (defScope (st 14)) f cdv A outer s H E).env (cxOf (L2.CX P w) P w K mg base ["value", "most", "name"] "is_names" (defScope (st 14)) f cdv A outer s H E).xe := passes_of (X := cxOf (L2.CX P w) P w K mg base ["value", "most", "name"] "is_names" (defScope (st 14)) f cdv A outer s H E) rfl
  exact (b_one (s_ret (m_val (k_and (k_is c_isTup rfl fx.n_isinstance rfl fx.n_tuple rfl (pe_var (i := 0) rfl (.inl rfl))) (k_and (k_chain u_le u_le nc_le k_int (k_cB c_len rfl fx.n_len rfl (k_a (pe_var (i := 0) rfl (.inl rfl)) k_a0)) (pe_var (i := 1) rfl (.inl rfl))) (k_one (k_cB (c_all rfl) rfl fx.n_all rfl (k_a (k_comp (own := [("name", 2)]) (b := false) rfl rfl hN (fun h => nomatch h) (by decide) (i_seq (k_var (pe_var (i := 0) rfl (.inl rfl)))) (blkOk_by (by kernel_rfl)) (fun _ _ _ _ _ => (g_one hN rfl (.inl rfl))) (fun _ _ _ _ _ => k_yes) (fun _ _ _ _ _ => (k_fn gx.a_is_name hr Tl.takes0 rfl (k_bf (k_var (pe_var (i := 2) rfl (.inl rfl))) k_b0)))) k_a0))))))))
theorem b_is_tree (fx : Fx K mg ea) (gx : Gx P w K mg base ea Φ (k + 8)) {f : Addr} (cdv : Value) (A : Around) (outer : List PySem.Env) (s : Shared) (H : Hp) (E : XK) (hr : Room (k + 8) (A.deeper (PyProof.Rows.envOfC "is_tree" (defScope (st 15)) s.heap.objs.size f cdv))) :
    BD (cxOf (L2.CX P w) P w K mg base ["value"] "is_tree" (defScope (st 15)) f cdv A outer s H E) (exA ea) (fun cls d _ H => E cls d H) Φ (lentIx 0 F8.lent) (defBody (st 15)) F8.body := by
  have hN : (["value"] : List Str).Nodup := by decide +kernel
  have tk : Takes (cxOf (L2.CX P w) P w K mg base ["value"] "is_tree" (defScope (st 15)) f cdv A outer s H E) (fun cls d _ H => E cls d H) := takes_of rfl rfl rfl rfl
  have po : PassesOwn (model P w) (cxOf (L2.CX P w) P w K mg base ["value"] "is_tree" (defScope (st 15)) f cdv A outer s H E).A (cxOf (L2.CX P w) P w K mg base ["value"] "is_tree" (defScope (st 15)) f cdv A outer s H E).env (cxOf (L2.CX P w) P w K mg base ["value"] "is_tree" (defScope (st 15)) f cdv A outer s H E).xe := passes_of (X := cxOf (L2.CX P w) P w K mg base ["value"] "is_tree" (defScope (st 15)) f cdv A outer s H E) rfl
  exact (b_one (s_ret (m_val (k_fn gx.a_is_right_tree hr tk rfl (k_bf (k_var (pe_var (i := 0) rfl (.inl rfl))) k_b0)))))
theorem b_is_path (fx : Fx K mg ea) (gx : Gx P w K mg base ea Φ (k + 8)) {f : Addr} (cdv : Value) (A : Around) (outer : List PySem.Env) (s : Shared) (H : Hp) (E : XK) (hr : Room (k + 8) (A.deeper (PyProof.Rows.envOfC "is_path" (defScope (st 16)) s.heap.objs.size f cdv))) :
    BD (cxOf (L2.CX P w) P w K mg base ["value"] "is_path" (defScope (st 16)) f cdv A outer s H E) (exA ea) (fun cls d _ H => E cls d H) Φ (lentIx 0 F9.lent) (defBody (st 16)) F9.body := by
  have hN : (["value"] : List Str).Nodup := by decide +kernel
  have tk : Takes (cxOf (L2.CX P w) P w K mg base ["value"] "is_path" (defScope (st 16)) f cdv A outer s H E) (fun cls d _ H => E cls d H) := takes_of rfl rfl rfl rfl
  have po : PassesOwn (model P w) (cxOf (L2.CX P w) P w K mg base ["value"] "is_path" (defScope (st 16)) f cdv A outer s H E).A (cxOf (L2.CX P w) P w K mg base ["value"] "is_path" (defScope (st 16)) f cdv A outer s H E).env (cxOf (L2.CX P w) P w K mg base ["value"] "is_path" (defScope (st 16)) f cdv A outer s H E).xe := passes_of (X := cxOf (L2.CX P w) P w K mg base ["value"] "is_path" (defScope (st 16)) f cdv A outer s H E) rfl
  exact (b_one (s_ret (m_val (k_fn gx.a_is_names hr tk rfl (k_bf (k_var (pe_var (i := 0) rfl (.inl rfl))) (k_bf (k_gint rfl fx.c_MOST_DEEP_trees) k_b0))))))
theorem b_is_entry (fx : Fx K mg ea) (gx : Gx P w K mg base ea Φ (k + 8)) {f : Addr} (cdv : Value) (A : Around) (outer : List PySem.Env) (s : Shared) (H : Hp) (E : XK) (hr : Room (k + 8) (A.deeper (PyProof.Rows.envOfC "is_entry" (defScope (st 20)) s.heap.objs.size f cdv))) :
    BD (cxOf (L2.CX P w) P w K mg base ["value", "deep"] "is_entry" (defScope (st 20)) f cdv A outer s H E) (exA ea) (fun cls d _ H => E cls d H) Φ (lentIx 0 F10.lent) (defBody (st 20)) F10.body := by
  have hN : (["value", "deep"] : List Str).Nodup := by decide +kernel
  have tk : Takes (cxOf (L2.CX P w) P w K mg base ["value", "deep"] "is_entry" (defScope (st 20)) f cdv A outer s H E) (fun cls d _ H => E cls d H) := takes_of rfl rfl rfl rfl
  have po : PassesOwn (model P w) (cxOf (L2.CX P w) P w K mg base ["value", "deep"] "is_entry" (defScope (st 20)) f cdv A outer s H E).A (cxOf (L2.CX P w) P w K mg base ["value", "deep"] "is_entry" (defScope (st 20)) f cdv A outer s H E).env (cxOf (L2.CX P w) P w K mg base ["value", "deep"] "is_entry" (defScope (st 20)) f cdv A outer s H E).xe := passes_of (X := cxOf (L2.CX P w) P w K mg base ["value", "deep"] "is_entry" (defScope (st 20)) f cdv A outer s H E) rfl
  exact (b_one (s_ret (m_val (k_or (k_isN u_isN (pe_var (i := 0) rfl (.inl rfl))) (k_or (k_fn gx.a_is_content hr tk rfl (k_bf (k_var (pe_var (i := 0) rfl (.inl rfl))) k_b0)) (k_one (k_fn gx.a_is_layer_so hr tk rfl (k_bf (k_var (pe_var (i := 0) rfl (.inl rfl))) (k_bf (k_var (pe_var (i := 1) rfl (.inl rfl))) k_b0)))))))))
theorem b_is_layer_so (fx : Fx K mg ea) (gx : Gx P w K mg base ea Φ (k + 8)) {f : Addr} (cdv : Value) (A : Around) (outer : List PySem.Env) (s : Shared) (H : Hp) (E : XK) (hr : Room (k + 8) (A.deeper (PyProof.Rows.envOfC "is_layer_so" (defScope (st 21)) s.heap.objs.size f cdv))) :
    BD (cxOf (L2.CX P w) P w K mg base ["value", "deep", "name", "entry"] "is_layer_so" (defScope (st 21)) f cdv A outer s H E) (exA ea) (fun cls d _ H => E cls d H) Φ (lentIx 0 F11.lent) (defBody (st 21)) F11.body := by
  have hN : (["value", "deep", "name", "entry"] : List Str).Nodup := by decide +kernel
  have tk : Takes (cxOf (L2.CX P w) P w K mg base ["value", "deep", "name", "entry"] "is_layer_so" (defScope (st 21)) f cdv A outer s H E) (fun cls d _ H => E cls d H) := takes_of rfl rfl rfl rfl
  have po : PassesOwn (model P w) (cxOf (L2.CX P w) P w K mg base ["value", "deep", "name", "entry"] "is_layer_so" (defScope (st 21)) f cdv A outer s H E).A (cxOf (L2.CX P w) P w K mg base ["value", "deep", "name", "entry"] "is_layer_so" (defScope (st 21)) f cdv A outer s H E).env (cxOf (L2.CX P w) P w K mg base ["value", "deep", "name", "entry"] "is_layer_so" (defScope (st 21)) f cdv A outer s H E).xe := passes_of (X := cxOf (L2.CX P w) P w K mg base ["value", "deep", "name", "entry"] "is_layer_so" (defScope (st 21)) f cdv A outer s H E) rfl
  exact (b_cons (s_if (t_pw (w_or (t_cmp (u_eq (r200 hr)) (pe_var (i := 1) rfl (.inr (.inl rfl))) k_int (nomark _)) (w_or (t_not (t_val (k_is c_isTup rfl fx.n_isinstance rfl fx.n_tuple rfl (pe_var (i := 0) rfl (.inl rfl))))) (w_or (t_cmp (u_ne (r200 hr)) (k_cB c_len rfl fx.n_len rfl (k_a (pe_var (i := 0) rfl (.inl rfl)) k_a0)) k_int (nomark _)) (w_or1 (t_not (t_val (k_is c_isBool rfl fx.n_isinstance rfl fx.n_bool rfl (k_idx (r1 hr) (pe_var (i := 0) rfl (.inl rfl)) k_int (fun _ _ => rfl)))))))))) (b_one (s_ret (m_val k_bl))) b_nil)
    (b_one (s_ret (m_val (k_and (k_fn gx.a_are_pairs hr tk rfl (k_bf (k_idx (r1 hr) (pe_var (i := 0) rfl (.inl rfl)) k_int (fun _ _ => rfl)) k_b0)) (k_one (k_cB (c_all rfl) rfl fx.n_all rfl (k_a (k_comp (own := [("name", 2), ("entry", 3)]) (b := false) rfl rfl hN (fun h => nomatch h) (by decide) (i_seq (k_idx (r1 hr) (pe_var (i := 0) rfl (.inl rfl)) k_int (fun _ _ => rfl))) (blkOk_by (by kernel_rfl)) (fun _ _ _ _ _ => (g_many rfl (by decide) (g_cons hN rfl (.inl rfl) (g_cons hN rfl (.inl rfl) g_nil)))) (fun _ _ _ _ _ => k_yes) (fun _ _ _ _ _ => (k_fn gx.a_is_entry hr Tl.takes0 rfl (k_bf (k_var (pe_var (i := 3) rfl (.inl rfl))) (k_bf (k_bin u_sub (pe_var (i := 1) rfl (.inr (.inl rfl))) k_int) k_b0))))) k_a0))))))))
theorem b_places_in (fx : Fx K mg ea) (gx : Gx P w K mg base ea Φ (k + 8)) {f : Addr} (cdv : Value) (A : Around) (outer : List PySem.Env) (s : Shared) (H : Hp) (E : XK) (hr : Room (k + 8) (A.deeper (PyProof.Rows.envOfC "places_in" (defScope (st 22)) s.heap.objs.size f cdv))) :
    BD (cxOf (L2.CX P w) P w K mg base ["layer", "names", "found", "name", "entry"] "places_in" (defScope (st 22)) f cdv A outer s H E) (exA ea) (fun cls d _ H => E cls d H) Φ (lentIx 0 F12.lent) (defBody (st 22)) F12.body := by
  have hN : (["layer", "names", "found", "name", "entry"] : List Str).Nodup := by decide +kernel
  have tk : Takes (cxOf (L2.CX P w) P w K mg base ["layer", "names", "found", "name", "entry"] "places_in" (defScope (st 22)) f cdv A outer s H E) (fun cls d _ H => E cls d H) := takes_of rfl rfl rfl rfl
  have po : PassesOwn (model P w) (cxOf (L2.CX P w) P w K mg base ["layer", "names", "found", "name", "entry"] "places_in" (defScope (st 22)) f cdv A outer s H E).A (cxOf (L2.CX P w) P w K mg base ["layer", "names", "found", "name", "entry"] "places_in" (defScope (st 22)) f cdv A outer s H E).env (cxOf (L2.CX P w) P w K mg base ["layer", "names", "found", "name", "entry"] "places_in" (defScope (st 22)) f cdv A outer s H E).xe := passes_of (X := cxOf (L2.CX P w) P w K mg base ["layer", "names", "found", "name", "entry"] "places_in" (defScope (st 22)) f cdv A outer s H E) rfl
  exact (b_cons (s_set (i := 2) hN rfl (.inl rfl) (k_lst k_v0 (by decide)))
    (b_cons (s_for (b := false) po rfl (fun h => nomatch h) (i_seq (k_idx (r1 hr) (pe_var (i := 0) rfl (.inl rfl)) k_int (fun _ _ => rfl))) (g_many rfl (by decide) (g_cons hN rfl (.inl rfl) (g_cons hN rfl (.inl rfl) g_nil))) (b_cons (s_set (i := 2) hN rfl (.inl rfl) (k_bin u_add (pe_var (i := 2) rfl (.inl rfl)) (k_lst (k_v (k_bin u_add (pe_var (i := 1) rfl (.inl rfl)) (k_tup (k_v (k_var (pe_var (i := 3) rfl (.inl rfl))) k_v0) (by decide))) k_v0) (by decide))))
    (b_one (s_if (t_val (k_is c_isTup rfl fx.n_isinstance rfl fx.n_tuple rfl (pe_var (i := 4) rfl (.inl rfl)))) (b_one (s_set (i := 2) hN rfl (.inl rfl) (k_bin u_add (pe_var (i := 2) rfl (.inl rfl)) (k_fn gx.a_places_in hr tk rfl (k_bf (k_var (pe_var (i := 4) rfl (.inl rfl))) (k_bf (k_bin u_add (pe_var (i := 1) rfl (.inl rfl)) (k_tup (k_v (k_var (pe_var (i := 3) rfl (.inl rfl))) k_v0) (by decide))) k_b0)))))) b_nil))))
    (b_one (s_ret (m_var (pe_var (i := 2) rfl (.inl rfl)))))))
theorem b_entries_in (fx : Fx K mg ea) (gx : Gx P w K mg base ea Φ (k + 8)) {f : Addr} (cdv : Value) (A : Around) (outer : List PySem.Env) (s : Shared) (H : Hp) (E : XK) (hr : Room (k + 8) (A.deeper (PyProof.Rows.envOfC "entries_in" (defScope (st 23)) s.heap.objs.size f cdv))) :
    BD (cxOf (L2.CX P w) P w K mg base ["layer"] "entries_in" (defScope (st 23)) f cdv A outer s H E) (exA ea) (fun cls d _ H => E cls d H) Φ (lentIx 0 F13.lent) (defBody (st 23)) F13.body := by
  have hN : (["layer"] : List Str).Nodup := by decide +kernel
  have tk : Takes (cxOf (L2.CX P w) P w K mg base ["layer"] "entries_in" (defScope (st 23)) f cdv A outer s H E) (fun cls d _ H => E cls d H) := takes_of rfl rfl rfl rfl
  have po : PassesOwn (model P w) (cxOf (L2.CX P w) P w K mg base ["layer"] "entries_in" (defScope (st 23)) f cdv A outer s H E).A (cxOf (L2.CX P w) P w K mg base ["layer"] "entries_in" (defScope (st 23)) f cdv A outer s H E).env (cxOf (L2.CX P w) P w K mg base ["layer"] "entries_in" (defScope (st 23)) f cdv A outer s H E).xe := passes_of (X := cxOf (L2.CX P w) P w K mg base ["layer"] "entries_in" (defScope (st 23)) f cdv A outer s H E) rfl
  exact (b_one (s_ret (m_val (k_cB c_len rfl fx.n_len rfl (k_a (k_fn gx.a_places_in hr tk rfl (k_bf (k_var (pe_var (i := 0) rfl (.inl rfl))) (k_bf (k_tup k_v0 (by decide)) k_b0))) k_a0)))))
theorem b_is_right_layer (fx : Fx K mg ea) (gx : Gx P w K mg base ea Φ (k + 8)) {f : Addr} (cdv : Value) (A : Around) (outer : List PySem.Env) (s : Shared) (H : Hp) (E : XK) (hr : Room (k + 8) (A.deeper (PyProof.Rows.envOfC "is_right_layer" (defScope (st 24)) s.heap.objs.size f cdv))) :
    BD (cxOf (L2.CX P w) P w K mg base ["value"] "is_right_layer" (defScope (st 24)) f cdv A outer s H E) (exA ea) (fun cls d _ H => E cls d H) Φ (lentIx 0 F14.lent) (defBody (st 24)) F14.body := by
  have hN : (["value"] : List Str).Nodup := by decide +kernel
  have tk : Takes (cxOf (L2.CX P w) P w K mg base ["value"] "is_right_layer" (defScope (st 24)) f cdv A outer s H E) (fun cls d _ H => E cls d H) := takes_of rfl rfl rfl rfl
  have po : PassesOwn (model P w) (cxOf (L2.CX P w) P w K mg base ["value"] "is_right_layer" (defScope (st 24)) f cdv A outer s H E).A (cxOf (L2.CX P w) P w K mg base ["value"] "is_right_layer" (defScope (st 24)) f cdv A outer s H E).env (cxOf (L2.CX P w) P w K mg base ["value"] "is_right_layer" (defScope (st 24)) f cdv A outer s H E).xe := passes_of (X := cxOf (L2.CX P w) P w K mg base ["value"] "is_right_layer" (defScope (st 24)) f cdv A outer s H E) rfl
  exact (b_one (s_ret (m_val (k_and (k_fn gx.a_is_layer_so hr tk rfl (k_bf (k_var (pe_var (i := 0) rfl (.inl rfl))) (k_bf (k_gint rfl fx.c_MOST_DEEP_layers) k_b0))) (k_one (k_cmp u_le (k_fn gx.a_entries_in hr tk rfl (k_bf (k_var (pe_var (i := 0) rfl (.inl rfl))) k_b0)) (k_gint rfl fx.c_MOST_ENTRIES) (nomark _)))))))
theorem b_need_layer (fx : Fx K mg ea) (gx : Gx P w K mg base ea Φ (k + 8)) {f : Addr} (cdv : Value) (A : Around) (outer : List PySem.Env) (s : Shared) (H : Hp) (E : XK) (hr : Room (k + 8) (A.deeper (PyProof.Rows.envOfC "need_layer" (defScope (st 25)) s.heap.objs.size f cdv))) :
    BD (cxOf (L2.CX P w) P w K mg base ["value"] "need_layer" (defScope (st 25)) f cdv A outer s H E) (exA ea) (fun cls d _ H => E cls d H) Φ (lentIx 0 F15.lent) (defBody (st 25)) F15.body := by
  have hN : (["value"] : List Str).Nodup := by decide +kernel
  have tk : Takes (cxOf (L2.CX P w) P w K mg base ["value"] "need_layer" (defScope (st 25)) f cdv A outer s H E) (fun cls d _ H => E cls d H) := takes_of rfl rfl rfl rfl
  have po : PassesOwn (model P w) (cxOf (L2.CX P w) P w K mg base ["value"] "need_layer" (defScope (st 25)) f cdv A outer s H E).A (cxOf (L2.CX P w) P w K mg base ["value"] "need_layer" (defScope (st 25)) f cdv A outer s H E).env (cxOf (L2.CX P w) P w K mg base ["value"] "need_layer" (defScope (st 25)) f cdv A outer s H E).xe := passes_of (X := cxOf (L2.CX P w) P w K mg base ["value"] "need_layer" (defScope (st 25)) f cdv A outer s H E) rfl
  exact (b_one (s_if (t_not (t_val (k_fn gx.a_is_right_layer hr tk rfl (k_bf (k_var (pe_var (i := 0) rfl (.inl rfl))) k_b0)))) (b_one (s_raise rfl tk ve fx.x_InvalidLayer.1 fx.x_InvalidLayer.2.1 fx.x_InvalidLayer.2.2.1 (raises_own fx.x_InvalidLayer.2.2.2.1 fx.x_InvalidLayer.2.2.2.2) rfl rfl)) b_nil))
theorem b_is_layer (fx : Fx K mg ea) (gx : Gx P w K mg base ea Φ (k + 8)) {f : Addr} (cdv : Value) (A : Around) (outer : List PySem.Env) (s : Shared) (H : Hp) (E : XK) (hr : Room (k + 8) (A.deeper (PyProof.Rows.envOfC "is_layer" (defScope (st 26)) s.heap.objs.size f cdv))) :
    BD (cxOf (L2.CX P w) P w K mg base ["value"] "is_layer" (defScope (st 26)) f cdv A outer s H E) (exA ea) (fun cls d _ H => E cls d H) Φ (lentIx 0 F16.lent) (defBody (st 26)) F16.body := by
  have hN : (["value"] : List Str).Nodup := by decide +kernel
  have tk : Takes (cxOf (L2.CX P w) P w K mg base ["value"] "is_layer" (defScope (st 26)) f cdv A outer s H E) (fun cls d _ H => E cls d H) := takes_of rfl rfl rfl rfl
  have po : PassesOwn (model P w) (cxOf (L2.CX P w) P w K mg base ["value"] "is_layer" (defScope (st 26)) f cdv A outer s H E).A (cxOf (L2.CX P w) P w K mg base ["value"] "is_layer" (defScope (st 26)) f cdv A outer s H E).env (cxOf (L2.CX P w) P w K mg base ["value"] "is_layer" (defScope (st 26)) f cdv A outer s H E).xe := passes_of (X := cxOf (L2.CX P w) P w K mg base ["value"] "is_layer" (defScope (st 26)) f cdv A outer s H E) rfl
  exact (b_one (s_ret (m_val (k_fn gx.a_is_right_layer hr tk rfl (k_bf (k_var (pe_var (i := 0) rfl (.inl rfl))) k_b0)))))
theorem b_count_entries (fx : Fx K mg ea) (gx : Gx P w K mg base ea Φ (k + 8)) {f : Addr} (cdv : Value) (A : Around) (outer : List PySem.Env) (s : Shared) (H : Hp) (E : XK) (hr : Room (k + 8) (A.deeper (PyProof.Rows.envOfC "count_entries" (defScope (st 27)) s.heap.objs.size f cdv))) :
    BD (cxOf (L2.CX P w) P w K mg base ["layer"] "count_entries" (defScope (st 27)) f cdv A outer s H E) (exA ea) (fun cls d _ H => E cls d H) Φ (lentIx 0 F17.lent) (defBody (st 27)) F17.body := by
  have hN : (["layer"] : List Str).Nodup := by decide +kernel
  have tk : Takes (cxOf (L2.CX P w) P w K mg base ["layer"] "count_entries" (defScope (st 27)) f cdv A outer s H E) (fun cls d _ H => E cls d H) := takes_of rfl rfl rfl rfl
  have po : PassesOwn (model P w) (cxOf (L2.CX P w) P w K mg base ["layer"] "count_entries" (defScope (st 27)) f cdv A outer s H E).A (cxOf (L2.CX P w) P w K mg base ["layer"] "count_entries" (defScope (st 27)) f cdv A outer s H E).env (cxOf (L2.CX P w) P w K mg base ["layer"] "count_entries" (defScope (st 27)) f cdv A outer s H E).xe := passes_of (X := cxOf (L2.CX P w) P w K mg base ["layer"] "count_entries" (defScope (st 27)) f cdv A outer s H E) rfl
  exact (b_cons (s_ex (k_fn gx.a_need_layer hr tk rfl (k_bf (k_var (pe_var (i := 0) rfl (.inl rfl))) k_b0)))
    (b_one (s_ret (m_val (k_fn gx.a_entries_in hr tk rfl (k_bf (k_var (pe_var (i := 0) rfl (.inl rfl))) k_b0))))))
theorem b_is_right_claim (fx : Fx K mg ea) (gx : Gx P w K mg base ea Φ (k + 8)) {f : Addr} (cdv : Value) (A : Around) (outer : List PySem.Env) (s : Shared) (H : Hp) (E : XK) (hr : Room (k + 8) (A.deeper (PyProof.Rows.envOfC "is_right_claim" (defScope (st 31)) s.heap.objs.size f cdv))) :
    BD (cxOf (L2.CX P w) P w K mg base ["value", "what", "word"] "is_right_claim" (defScope (st 31)) f cdv A outer s H E) (exA ea) (fun cls d _ H => E cls d H) Φ (lentIx 0 F18.lent) (defBody (st 31)) F18.body := by
  have hN : (["value", "what", "word"] : List Str).Nodup := by decide +kernel
  have tk : Takes (cxOf (L2.CX P w) P w K mg base ["value", "what", "word"] "is_right_claim" (defScope (st 31)) f cdv A outer s H E) (fun cls d _ H => E cls d H) := takes_of rfl rfl rfl rfl
  have po : PassesOwn (model P w) (cxOf (L2.CX P w) P w K mg base ["value", "what", "word"] "is_right_claim" (defScope (st 31)) f cdv A outer s H E).A (cxOf (L2.CX P w) P w K mg base ["value", "what", "word"] "is_right_claim" (defScope (st 31)) f cdv A outer s H E).env (cxOf (L2.CX P w) P w K mg base ["value", "what", "word"] "is_right_claim" (defScope (st 31)) f cdv A outer s H E).xe := passes_of (X := cxOf (L2.CX P w) P w K mg base ["value", "what", "word"] "is_right_claim" (defScope (st 31)) f cdv A outer s H E) rfl
  exact (b_cons (s_if (t_pw (w_or (t_not (t_val (k_is c_isTup rfl fx.n_isinstance rfl fx.n_tuple rfl (pe_var (i := 0) rfl (.inl rfl))))) (w_or (t_cmp (u_ne (r200 hr)) (k_cB c_len rfl fx.n_len rfl (k_a (pe_var (i := 0) rfl (.inl rfl)) k_a0)) k_int (nomark _)) (w_or1 (t_not (t_val (k_fn gx.a_is_names hr tk rfl (k_bf (k_idx (r1 hr) (pe_var (i := 0) rfl (.inl rfl)) k_int (fun _ _ => rfl)) (k_bf (k_gint rfl fx.c_MOST_NAMES) k_b0))))))))) (b_one (s_ret (m_val k_bl))) b_nil)
    (b_cons (s_set (i := 1) hN rfl (.inl rfl) (k_idx (r1 hr) (pe_var (i := 0) rfl (.inl rfl)) k_int (fun _ _ => rfl)))
    (b_cons (s_if (t_pw (w_or (t_not (t_val (k_is c_isTup rfl fx.n_isinstance rfl fx.n_tuple rfl (pe_var (i := 1) rfl (.inl rfl))))) (w_or (t_not (t_chain u_le u_le nc_le k_int (k_cB c_len rfl fx.n_len rfl (k_a (pe_var (i := 1) rfl (.inl rfl)) k_a0)) k_int)) (w_or1 (t_not (t_val (k_cB (c_all rfl) rfl fx.n_all rfl (k_a (k_comp (own := [("word", 2)]) (b := false) rfl rfl hN (fun h => nomatch h) (by decide) (i_seq (k_var (pe_var (i := 1) rfl (.inl rfl)))) (blkOk_by (by kernel_rfl)) (fun _ _ _ _ _ => (g_one hN rfl (.inl rfl))) (fun _ _ _ _ _ => k_yes) (fun _ _ _ _ _ => (k_is c_isStr rfl fx.n_isinstance rfl fx.n_str rfl (pe_var (i := 2) rfl (.inl rfl))))) k_a0)))))))) (b_one (s_ret (m_val k_bl))) b_nil)
    (b_cons (s_if (t_cmp (u_eq (r200 hr)) (k_idx (r1 hr) (pe_var (i := 1) rfl (.inl rfl)) k_int (fun _ _ => rfl)) (k_str (by kernel_rfl) (by decide)) (nomark _)) (b_one (s_ret (m_val (k_and (k_cmp (u_eq (r200 hr)) (k_cB c_len rfl fx.n_len rfl (k_a (pe_var (i := 1) rfl (.inl rfl)) k_a0)) k_int (nomark _)) (k_one (k_fn gx.a_is_content hr tk rfl (k_bf (k_idx (r1 hr) (pe_var (i := 1) rfl (.inl rfl)) k_int (fun _ _ => rfl)) k_b0))))))) b_nil)
    (b_one (s_ret (m_val (k_and (k_cB (c_all rfl) rfl fx.n_all rfl (k_a (k_comp (own := [("word", 2)]) (b := false) rfl rfl hN (fun h => nomatch h) (by decide) (i_seq (k_var (pe_var (i := 1) rfl (.inl rfl)))) (blkOk_by (by kernel_rfl)) (fun _ _ _ _ _ => (g_one hN rfl (.inl rfl))) (fun _ _ _ _ _ => k_yes) (fun _ _ _ _ _ => (k_cmp (u_isin (r300 hr)) (pe_var (i := 2) rfl (.inl rfl)) (k_gref rfl fx.c_WORDS) (by rfl)))) k_a0)) (k_one (k_cmp (u_eq (r200 hr)) (k_cT c_list rfl fx.n_list rfl (k_a (pe_var (i := 1) rfl (.inl rfl)) k_a0)) (k_sortSet (r300 hr) rfl rfl fx.n_sorted rfl fx.n_set (pe_var (i := 1) rfl (.inl rfl))) (nomark _)))))))))))
theorem b_is_claim (fx : Fx K mg ea) (gx : Gx P w K mg base ea Φ (k + 8)) {f : Addr} (cdv : Value) (A : Around) (outer : List PySem.Env) (s : Shared) (H : Hp) (E : XK) (hr : Room (k + 8) (A.deeper (PyProof.Rows.envOfC "is_claim" (defScope (st 32)) s.heap.objs.size f cdv))) :
    BD (cxOf (L2.CX P w) P w K mg base ["value"] "is_claim" (defScope (st 32)) f cdv A outer s H E) (exA ea) (fun cls d _ H => E cls d H) Φ (lentIx 0 F19.lent) (defBody (st 32)) F19.body := by
  have hN : (["value"] : List Str).Nodup := by decide +kernel
  have tk : Takes (cxOf (L2.CX P w) P w K mg base ["value"] "is_claim" (defScope (st 32)) f cdv A outer s H E) (fun cls d _ H => E cls d H) := takes_of rfl rfl rfl rfl
  have po : PassesOwn (model P w) (cxOf (L2.CX P w) P w K mg base ["value"] "is_claim" (defScope (st 32)) f cdv A outer s H E).A (cxOf (L2.CX P w) P w K mg base ["value"] "is_claim" (defScope (st 32)) f cdv A outer s H E).env (cxOf (L2.CX P w) P w K mg base ["value"] "is_claim" (defScope (st 32)) f cdv A outer s H E).xe := passes_of (X := cxOf (L2.CX P w) P w K mg base ["value"] "is_claim" (defScope (st 32)) f cdv A outer s H E) rfl
  exact (b_one (s_ret (m_val (k_fn gx.a_is_right_claim hr tk rfl (k_bf (k_var (pe_var (i := 0) rfl (.inl rfl))) k_b0)))))
theorem b__law_source (fx : Fx K mg ea) (gx : Gx P w K mg base ea Φ (k + 8)) {f : Addr} (cdv : Value) (A : Around) (outer : List PySem.Env) (s : Shared) (H : Hp) (E : XK) (hr : Room (k + 8) (A.deeper (PyProof.Rows.envOfC "_law_source" (defScope (st 34)) s.heap.objs.size f cdv))) :
    BD (cxOf (L2.CX P w) P w K mg base ["script", "k", "number", "start"] "_law_source" (defScope (st 34)) f cdv A outer s H E) (exA ea) (fun cls d _ H => E cls d H) Φ (lentIx 0 F20.lent) (defBody (st 34)) F20.body := by
  have hN : (["script", "k", "number", "start"] : List Str).Nodup := by decide +kernel
  have tk : Takes (cxOf (L2.CX P w) P w K mg base ["script", "k", "number", "start"] "_law_source" (defScope (st 34)) f cdv A outer s H E) (fun cls d _ H => E cls d H) := takes_of rfl rfl rfl rfl
  have po : PassesOwn (model P w) (cxOf (L2.CX P w) P w K mg base ["script", "k", "number", "start"] "_law_source" (defScope (st 34)) f cdv A outer s H E).A (cxOf (L2.CX P w) P w K mg base ["script", "k", "number", "start"] "_law_source" (defScope (st 34)) f cdv A outer s H E).env (cxOf (L2.CX P w) P w K mg base ["script", "k", "number", "start"] "_law_source" (defScope (st 34)) f cdv A outer s H E).xe := passes_of (X := cxOf (L2.CX P w) P w K mg base ["script", "k", "number", "start"] "_law_source" (defScope (st 34)) f cdv A outer s H E) rfl
  exact (b_cons (s_set (i := 2) hN rfl (.inl rfl) k_int)
    (b_cons (s_if (t_cmp u_gt (k_cB c_len rfl fx.n_len rfl (k_a (pe_var (i := 0) rfl (.inl rfl)) k_a0)) (pe_var (i := 1) rfl (.inl rfl)) (nomark _)) (b_one (s_set (i := 2) hN rfl (.inl rfl) (k_cT c_int rfl fx.n_int rfl (k_a (k_idx (r1 hr) (pe_var (i := 0) rfl (.inl rfl)) (pe_var (i := 1) rfl (.inl rfl)) (fun _ _ => rfl)) k_a0)))) b_nil)
    (b_cons (s_set (i := 3) hN rfl (.inl rfl) (k_bin u_mod (k_bin u_add (k_bin u_add (k_bin u_mul (pe_var (i := 2) rfl (.inl rfl)) k_int) (k_bin u_mul k_int (pe_var (i := 1) rfl (.inl rfl)))) k_int) k_int))
    (b_cons (s_set (i := 3) hN rfl (.inl rfl) (k_bin u_add (k_bin u_add (k_bin u_mod (k_bin u_mul (pe_var (i := 3) rfl (.inl rfl)) (pe_var (i := 3) rfl (.inl rfl))) k_int) (k_bin u_mul k_int (pe_var (i := 1) rfl (.inl rfl)))) k_int))
    (b_one (s_ret (m_val (k_lst (k_v (k_ite (t_cmp u_ge (pe_var (i := 2) rfl (.inl rfl)) (k_pow (by unfold CPow; decide) (by decide +kernel)) (nomark _)) (k_var (pe_var (i := 2) rfl (.inl rfl))) k_int) (k_v (k_var (pe_var (i := 3) rfl (.inl rfl))) k_v0)) (by decide)))))))))
theorem b__law_pick (fx : Fx K mg ea) (gx : Gx P w K mg base ea Φ (k + 8)) {f : Addr} (cdv : Value) (A : Around) (outer : List PySem.Env) (s : Shared) (H : Hp) (E : XK) (hr : Room (k + 8) (A.deeper (PyProof.Rows.envOfC "_law_pick" (defScope (st 35)) s.heap.objs.size f cdv))) :
    BD (cxOf (L2.CX P w) P w K mg base ["source", "many", "found"] "_law_pick" (defScope (st 35)) f cdv A outer s H E) (exA ea) (fun cls d _ H => E cls d H) Φ (lentIx 0 F21.lent) (defBody (st 35)) F21.body := by
  have hN : (["source", "many", "found"] : List Str).Nodup := by decide +kernel
  have tk : Takes (cxOf (L2.CX P w) P w K mg base ["source", "many", "found"] "_law_pick" (defScope (st 35)) f cdv A outer s H E) (fun cls d _ H => E cls d H) := takes_of rfl rfl rfl rfl
  have po : PassesOwn (model P w) (cxOf (L2.CX P w) P w K mg base ["source", "many", "found"] "_law_pick" (defScope (st 35)) f cdv A outer s H E).A (cxOf (L2.CX P w) P w K mg base ["source", "many", "found"] "_law_pick" (defScope (st 35)) f cdv A outer s H E).env (cxOf (L2.CX P w) P w K mg base ["source", "many", "found"] "_law_pick" (defScope (st 35)) f cdv A outer s H E).xe := passes_of (X := cxOf (L2.CX P w) P w K mg base ["source", "many", "found"] "_law_pick" (defScope (st 35)) f cdv A outer s H E) rfl
  exact (b_cons (s_if (t_cmp u_gt (k_idx (r1 hr) (pe_var (i := 0) rfl (.inl rfl)) k_int (fun _ _ => rfl)) k_int (nomark _)) (b_cons (s_set (i := 2) hN rfl (.inl rfl) (k_bin u_mod (k_cT c_int rfl fx.n_int rfl (k_a (k_idx (r1 hr) (pe_var (i := 0) rfl (.inl rfl)) k_int (fun _ _ => rfl)) k_a0)) (pe_var (i := 1) rfl (.inl rfl))))
    (b_cons (s_ixset (r1 hr) (pe_var (i := 0) rfl (.inl rfl)) k_int (k_bin u_fdiv (k_cT c_int rfl fx.n_int rfl (k_a (k_idx (r1 hr) (pe_var (i := 0) rfl (.inl rfl)) k_int (fun _ _ => rfl)) k_a0)) (pe_var (i := 1) rfl (.inl rfl))))
    (b_one (s_ret (m_var (pe_var (i := 2) rfl (.inl rfl))))))) b_nil)
    (b_cons (s_ixset (r1 hr) (pe_var (i := 0) rfl (.inl rfl)) k_int (k_bin u_mod (k_cT c_int rfl fx.n_int rfl (k_a (k_bin u_add (k_bin u_mul (k_idx (r1 hr) (pe_var (i := 0) rfl (.inl rfl)) k_int (fun _ _ => rfl)) k_int) k_int) k_a0)) k_int))
    (b_one (s_ret (m_val (k_bin u_mod (k_bin u_fdiv (k_bin u_mod (k_cT c_int rfl fx.n_int rfl (k_a (k_bin u_mul (k_idx (r1 hr) (pe_var (i := 0) rfl (.inl rfl)) k_int (fun _ _ => rfl)) (k_idx (r1 hr) (pe_var (i := 0) rfl (.inl rfl)) k_int (fun _ _ => rfl))) k_a0)) k_int) k_int) (pe_var (i := 1) rfl (.inl rfl))))))))
theorem b__law_chosen (fx : Fx K mg ea) (gx : Gx P w K mg base ea Φ (k + 8)) {f : Addr} (cdv : Value) (A : Around) (outer : List PySem.Env) (s : Shared) (H : Hp) (E : XK) (hr : Room (k + 8) (A.deeper (PyProof.Rows.envOfC "_law_chosen" (defScope (st 36)) s.heap.objs.size f cdv))) :
    BD (cxOf (L2.CX P w) P w K mg base ["source", "things"] "_law_chosen" (defScope (st 36)) f cdv A outer s H E) (exA ea) (fun cls d _ H => E cls d H) Φ (lentIx 0 F22.lent) (defBody (st 36)) F22.body := by
  have hN : (["source", "things"] : List Str).Nodup := by decide +kernel
  have tk : Takes (cxOf (L2.CX P w) P w K mg base ["source", "things"] "_law_chosen" (defScope (st 36)) f cdv A outer s H E) (fun cls d _ H => E cls d H) := takes_of rfl rfl rfl rfl
  have po : PassesOwn (model P w) (cxOf (L2.CX P w) P w K mg base ["source", "things"] "_law_chosen" (defScope (st 36)) f cdv A outer s H E).A (cxOf (L2.CX P w) P w K mg base ["source", "things"] "_law_chosen" (defScope (st 36)) f cdv A outer s H E).env (cxOf (L2.CX P w) P w K mg base ["source", "things"] "_law_chosen" (defScope (st 36)) f cdv A outer s H E).xe := passes_of (X := cxOf (L2.CX P w) P w K mg base ["source", "things"] "_law_chosen" (defScope (st 36)) f cdv A outer s H E) rfl
  exact (b_one (s_ret (m_val (k_idx (r1 hr) (pe_var (i := 1) rfl (.inl rfl)) (k_fn gx.a__law_pick hr tk rfl (k_bt (pe_var (i := 0) rfl (.inl rfl)) (k_bf (k_cB c_len rfl fx.n_len rfl (k_a (pe_var (i := 1) rfl (.inl rfl)) k_a0)) k_b0))) (fun _ _ => rfl)))))
theorem b__law_is_bool (fx : Fx K mg ea) (gx : Gx P w K mg base ea Φ (k + 8)) {f : Addr} (cdv : Value) (A : Around) (outer : List PySem.Env) (s : Shared) (H : Hp) (E : XK) (hr : Room (k + 8) (A.deeper (PyProof.Rows.envOfC "_law_is_bool" (defScope (st 37)) s.heap.objs.size f cdv))) :
    BD (cxOf (L2.CX P w) P w K mg base ["told", "due"] "_law_is_bool" (defScope (st 37)) f cdv A outer s H E) (exA ea) (fun cls d _ H => E cls d H) Φ (lentIx 0 F23.lent) (defBody (st 37)) F23.body := by
  have hN : (["told", "due"] : List Str).Nodup := by decide +kernel
  have tk : Takes (cxOf (L2.CX P w) P w K mg base ["told", "due"] "_law_is_bool" (defScope (st 37)) f cdv A outer s H E) (fun cls d _ H => E cls d H) := takes_of rfl rfl rfl rfl
  have po : PassesOwn (model P w) (cxOf (L2.CX P w) P w K mg base ["told", "due"] "_law_is_bool" (defScope (st 37)) f cdv A outer s H E).A (cxOf (L2.CX P w) P w K mg base ["told", "due"] "_law_is_bool" (defScope (st 37)) f cdv A outer s H E).env (cxOf (L2.CX P w) P w K mg base ["told", "due"] "_law_is_bool" (defScope (st 37)) f cdv A outer s H E).xe := passes_of (X := cxOf (L2.CX P w) P w K mg base ["told", "due"] "_law_is_bool" (defScope (st 37)) f cdv A outer s H E) rfl
  exact (b_one (s_ret (m_val (k_and (k_is c_isBool rfl fx.n_isinstance rfl fx.n_bool rfl (pe_var (i := 0) rfl (.inl rfl))) (k_one (k_cmp (u_eq (r200 hr)) (pe_var (i := 0) rfl (.inl rfl)) (pe_var (i := 1) rfl (.inl rfl)) (nomark _)))))))
theorem b__law_wide (fx : Fx K mg ea) (gx : Gx P w K mg base ea Φ (k + 8)) {f : Addr} (cdv : Value) (A : Around) (outer : List PySem.Env) (s : Shared) (H : Hp) (E : XK) (hr : Room (k + 8) (A.deeper (PyProof.Rows.envOfC "_law_wide" (defScope (st 38)) s.heap.objs.size f cdv))) :
    BD (cxOf (L2.CX P w) P w K mg base ["value", "low", "high"] "_law_wide" (defScope (st 38)) f cdv A outer s H E) (exA ea) (fun cls d _ H => E cls d H) Φ (lentIx 0 F24.lent) (defBody (st 38)) F24.body := by
  have hN : (["value", "low", "high"] : List Str).Nodup := by decide +kernel
  have tk : Takes (cxOf (L2.CX P w) P w K mg base ["value", "low", "high"] "_law_wide" (defScope (st 38)) f cdv A outer s H E) (fun cls d _ H => E cls d H) := takes_of rfl rfl rfl rfl
  have po : PassesOwn (model P w) (cxOf (L2.CX P w) P w K mg base ["value", "low", "high"] "_law_wide" (defScope (st 38)) f cdv A outer s H E).A (cxOf (L2.CX P w) P w K mg base ["value", "low", "high"] "_law_wide" (defScope (st 38)) f cdv A outer s H E).env (cxOf (L2.CX P w) P w K mg base ["value", "low", "high"] "_law_wide" (defScope (st 38)) f cdv A outer s H E).xe := passes_of (X := cxOf (L2.CX P w) P w K mg base ["value", "low", "high"] "_law_wide" (defScope (st 38)) f cdv A outer s H E) rfl
  exact (b_one (s_ret (m_val (k_and (k_is c_isTup rfl fx.n_isinstance rfl fx.n_tuple rfl (pe_var (i := 0) rfl (.inl rfl))) (k_one (k_chain u_le u_le nc_le (pe_var (i := 1) rfl (.inl rfl)) (k_cB c_len rfl fx.n_len rfl (k_a (pe_var (i := 0) rfl (.inl rfl)) k_a0)) (pe_var (i := 2) rfl (.inl rfl))))))))
theorem b__law_any_value (fx : Fx K mg ea) (gx : Gx P w K mg base ea Φ (k + 8)) {f : Addr} (cdv : Value) (A : Around) (outer : List PySem.Env) (s : Shared) (H : Hp) (E : XK) (hr : Room (k + 8) (A.deeper (PyProof.Rows.envOfC "_law_any_value" (defScope (st 39)) s.heap.objs.size f cdv))) :
    BD (cxOf (L2.CX P w) P w K mg base ["source", "deep", "simple_so", "way", "parts", "turn"] "_law_any_value" (defScope (st 39)) f cdv A outer s H E) (exA ea) (fun cls d _ H => E cls d H) Φ (lentIx 0 F25.lent) (defBody (st 39)) F25.body := by
  have hN : (["source", "deep", "simple_so", "way", "parts", "turn"] : List Str).Nodup := by decide +kernel
  have tk : Takes (cxOf (L2.CX P w) P w K mg base ["source", "deep", "simple_so", "way", "parts", "turn"] "_law_any_value" (defScope (st 39)) f cdv A outer s H E) (fun cls d _ H => E cls d H) := takes_of rfl rfl rfl rfl
  have po : PassesOwn (model P w) (cxOf (L2.CX P w) P w K mg base ["source", "deep", "simple_so", "way", "parts", "turn"] "_law_any_value" (defScope (st 39)) f cdv A outer s H E).A (cxOf (L2.CX P w) P w K mg base ["source", "deep", "simple_so", "way", "parts", "turn"] "_law_any_value" (defScope (st 39)) f cdv A outer s H E).env (cxOf (L2.CX P w) P w K mg base ["source", "deep", "simple_so", "way", "parts", "turn"] "_law_any_value" (defScope (st 39)) f cdv A outer s H E).xe := passes_of (X := cxOf (L2.CX P w) P w K mg base ["source", "deep", "simple_so", "way", "parts", "turn"] "_law_any_value" (defScope (st 39)) f cdv A outer s H E) rfl
  exact (b_cons (s_set (i := 2) hN rfl (.inl rfl) (k_lst (k_v k_non (k_v k_bl (k_v k_bl (k_v k_int (k_v k_int (k_v (k_un u_neg k_int) (k_v (k_str (by kernel_rfl) (by decide)) (k_v (k_str (by kernel_rfl) (by decide)) (k_v (k_str (by kernel_rfl) (by decide)) (k_v (k_str (by kernel_rfl) (by decide)) (k_v (k_str (by kernel_rfl) (by decide)) (k_v (k_str (by kernel_rfl) (by decide)) (k_v (k_str (by kernel_rfl) (by decide)) (k_v (k_str (by kernel_rfl) (by decide)) (k_v (k_tup k_v0 (by decide)) (k_v (k_lst k_v0 (by decide)) (k_v (k_tup (k_v (k_str (by kernel_rfl) (by decide)) k_v0) (by decide)) (k_v (k_tup (k_v k_bl (k_v (k_tup k_v0 (by decide)) k_v0)) (by decide)) k_v0)))))))))))))))))) (by decide)))
    (b_cons (s_set (i := 3) hN rfl (.inl rfl) (k_fn gx.a__law_pick hr tk rfl (k_bt (pe_var (i := 0) rfl (.inr (.inl rfl))) (k_bf k_int k_b0))))
    (b_cons (s_if (t_pw (w_or (t_cmp u_lt (pe_var (i := 1) rfl (.inr (.inl rfl))) k_int (nomark _)) (w_or1 (t_cmp u_lt (pe_var (i := 3) rfl (.inl rfl)) k_int (nomark _))))) (b_one (s_ret (m_val (k_fn gx.a__law_chosen hr tk rfl (k_bt (pe_var (i := 0) rfl (.inr (.inl rfl))) (k_bf (k_var (pe_var (i := 2) rfl (.inl rfl))) k_b0)))))) b_nil)
    (b_cons (s_setC (own := [("turn", 5)]) (b := false) rfl rfl hN rfl rfl (sw_true rfl rfl rfl (by kernel_rfl)) (fun h => nomatch h) (by decide) (i_rng1 rfl fx.n_range (k_fn gx.a__law_pick hr tk rfl (k_bt (pe_var (i := 0) rfl (.inr (.inl rfl))) (k_bf k_int k_b0)))) (blkOk_by (by kernel_rfl)) (fun _ _ _ _ _ => (g_one hN rfl (.inl rfl))) (fun _ _ _ _ _ => k_yes) (fun _ _ _ _ _ => (k_fn gx.a__law_any_value hr Tl.takes0 rfl (k_bt (pe_var (i := 0) rfl (.inr (.inl rfl))) (k_bf (k_bin u_sub (pe_var (i := 1) rfl (.inr (.inl rfl))) k_int) k_b0)))))
    (b_one (s_ret (m_ite (t_cmp (u_eq (r200 hr)) (pe_var (i := 3) rfl (.inl rfl)) k_int (nomark _)) (m_var (pe_var (i := 4) rfl (.inl rfl))) (m_val (k_cT c_tuple rfl fx.n_tuple rfl (k_a (pe_var (i := 4) rfl (.inl rfl)) k_a0))))))))))
theorem b__law_variant (fx : Fx K mg ea) (gx : Gx P w K mg base ea Φ (k + 8)) {f : Addr} (cdv : Value) (A : Around) (outer : List PySem.Env) (s : Shared) (H : Hp) (E : XK) (hr : Room (k + 8) (A.deeper (PyProof.Rows.envOfC "_law_variant" (defScope (st 40)) s.heap.objs.size f cdv))) :
    BD (cxOf (L2.CX P w) P w K mg base ["source", "value", "deep", "parts", "spot", "way", "inner", "near"] "_law_variant" (defScope (st 40)) f cdv A outer s H E) (exA ea) (fun cls d _ H => E cls d H) Φ (lentIx 0 F26.lent) (defBody (st 40)) F26.body := by
  have hN : (["source", "value", "deep", "parts", "spot", "way", "inner", "near"] : List Str).Nodup := by decide +kernel
  have tk : Takes (cxOf (L2.CX P w) P w K mg base ["source", "value", "deep", "parts", "spot", "way", "inner", "near"] "_law_variant" (defScope (st 40)) f cdv A outer s H E) (fun cls d _ H => E cls d H) := takes_of rfl rfl rfl rfl
  have po : PassesOwn (model P w) (cxOf (L2.CX P w) P w K mg base ["source", "value", "deep", "parts", "spot", "way", "inner", "near"] "_law_variant" (defScope (st 40)) f cdv A outer s H E).A (cxOf (L2.CX P w) P w K mg base ["source", "value", "deep", "parts", "spot", "way", "inner", "near"] "_law_variant" (defScope (st 40)) f cdv A outer s H E).env (cxOf (L2.CX P w) P w K mg base ["source", "value", "deep", "parts", "spot", "way", "inner", "near"] "_law_variant" (defScope (st 40)) f cdv A outer s H E).xe := passes_of (X := cxOf (L2.CX P w) P w K mg base ["source", "value", "deep", "parts", "spot", "way", "inner", "near"] "_law_variant" (defScope (st 40)) f cdv A outer s H E) rfl
  exact (b_cons (s_set (i := 3) hN rfl (.inl rfl) (k_cT c_list rfl fx.n_list rfl (k_a (pe_var (i := 1) rfl (.inl rfl)) k_a0)))
    (b_cons (s_if (t_cmp (u_eq (r200 hr)) (pe_var (i := 3) rfl (.inl rfl)) (k_lst k_v0 (by decide)) (nomark _)) (b_one (s_ret (m_val (k_tup (k_v (k_fn gx.a__law_any_value hr tk rfl (k_bt (pe_var (i := 0) rfl (.inl rfl)) (k_bf k_int k_b0))) k_v0) (by decide))))) b_nil)
    (b_cons (s_par2 rfl hN rfl rfl (by decide) rfl rfl (k_v (k_fn gx.a__law_pick hr tk rfl (k_bt (pe_var (i := 0) rfl (.inl rfl)) (k_bf (k_cB c_len rfl fx.n_len rfl (k_a (pe_var (i := 3) rfl (.inl rfl)) k_a0)) k_b0))) (k_v (k_fn gx.a__law_pick hr tk rfl (k_bt (pe_var (i := 0) rfl (.inl rfl)) (k_bf k_int k_b0))) k_v0)) rfl rfl)
    (b_cons (s_set (i := 6) hN rfl (.inl rfl) (k_idx (r1 hr) (pe_var (i := 3) rfl (.inl rfl)) (pe_var (i := 4) rfl (.inl rfl)) (fun _ _ => rfl)))
    (b_cons (s_if (t_pw (w_and (t_val (k_is c_isTup rfl fx.n_isinstance rfl fx.n_tuple rfl (pe_var (i := 6) rfl (.inl rfl)))) (w_and (t_cmp u_gt (pe_var (i := 2) rfl (.inl rfl)) k_int (nomark _)) (w_and1 (t_cmp u_gt (pe_var (i := 5) rfl (.inl rfl)) k_int (nomark _)))))) (b_one (s_ret (m_val (k_bin u_add (k_bin u_add (k_cT c_tuple rfl fx.n_tuple rfl (k_a (k_slH (pe_var (i := 3) rfl (.inl rfl)) (pe_var (i := 4) rfl (.inl rfl))) k_a0)) (k_tup (k_v (k_fn gx.a__law_variant hr tk rfl (k_bt (pe_var (i := 0) rfl (.inl rfl)) (k_bf (k_var (pe_var (i := 6) rfl (.inl rfl))) (k_bf (k_bin u_sub (pe_var (i := 2) rfl (.inl rfl)) k_int) k_b0)))) k_v0) (by decide))) (k_cT c_tuple rfl fx.n_tuple rfl (k_a (k_slL (pe_var (i := 3) rfl (.inl rfl)) (k_bin u_add (pe_var (i := 4) rfl (.inl rfl)) k_int)) k_a0)))))) b_nil)
    (b_cons (s_if (t_cmp (u_eq (r200 hr)) (pe_var (i := 5) rfl (.inl rfl)) k_int (nomark _)) (b_one (s_ret (m_val (k_cT c_tuple rfl fx.n_tuple rfl (k_a (k_bin u_add (k_slH (pe_var (i := 3) rfl (.inl rfl)) (pe_var (i := 4) rfl (.inl rfl))) (k_slL (pe_var (i := 3) rfl (.inl rfl)) (k_bin u_add (pe_var (i := 4) rfl (.inl rfl)) k_int))) k_a0))))) b_nil)
    (b_cons (s_if (t_cmp (u_eq (r200 hr)) (pe_var (i := 5) rfl (.inl rfl)) k_int (nomark _)) (b_one (s_ret (m_val (k_cT c_tuple rfl fx.n_tuple rfl (k_a (k_bin u_add (k_slH (pe_var (i := 3) rfl (.inl rfl)) (k_bin u_add (pe_var (i := 4) rfl (.inl rfl)) k_int)) (k_slL (pe_var (i := 3) rfl (.inl rfl)) (pe_var (i := 4) rfl (.inl rfl)))) k_a0))))) b_nil)
    (b_cons (s_if (t_cmp (u_eq (r200 hr)) (pe_var (i := 5) rfl (.inl rfl)) k_int (nomark _)) (b_one (s_ret (m_val (k_cT c_tuple rfl fx.n_tuple rfl (k_a (k_bin u_add (k_bin u_add (k_slH (pe_var (i := 3) rfl (.inl rfl)) (pe_var (i := 4) rfl (.inl rfl))) (k_back (k_slB (pe_var (i := 3) rfl (.inl rfl)) (pe_var (i := 4) rfl (.inl rfl)) (k_bin u_add (pe_var (i := 4) rfl (.inl rfl)) k_int)))) (k_slL (pe_var (i := 3) rfl (.inl rfl)) (k_bin u_add (pe_var (i := 4) rfl (.inl rfl)) k_int))) k_a0))))) b_nil)
    (b_cons (s_if (t_cmp (u_eq (r200 hr)) (pe_var (i := 5) rfl (.inl rfl)) k_int (nomark _)) (b_one (s_ret (m_var (pe_var (i := 3) rfl (.inl rfl))))) b_nil)
    (b_cons (s_if (t_cmp u_lt (pe_var (i := 5) rfl (.inl rfl)) k_int (nomark _)) (b_one (s_ixset (r1 hr) (pe_var (i := 3) rfl (.inl rfl)) (k_var (pe_var (i := 4) rfl (.inl rfl))) (k_fn gx.a__law_any_value hr tk rfl (k_bt (pe_var (i := 0) rfl (.inl rfl)) (k_bf k_int k_b0))))) (b_cons (s_set (i := 7) hN rfl (.inl rfl) (k_lst (k_v k_non (k_v k_bl (k_v k_bl (k_v k_int (k_v (k_str (by kernel_rfl) (by decide)) (k_v (k_str (by kernel_rfl) (by decide)) (k_v (k_str (by kernel_rfl) (by decide)) (k_v (k_str (by kernel_rfl) (by decide)) (k_v (k_str (by kernel_rfl) (by decide)) (k_v (k_str (by kernel_rfl) (by decide)) (k_v (k_str (by kernel_rfl) (by decide)) (k_v (k_str (by kernel_rfl) (by decide)) (k_v (k_str (by kernel_rfl) (by decide)) (k_v (k_str (by kernel_rfl) (by decide)) (k_v (k_tup k_v0 (by decide)) (k_v (k_tup (k_v (k_str (by kernel_rfl) (by decide)) (k_v (k_str (by kernel_rfl) (by decide)) k_v0)) (by decide)) k_v0)))))))))))))))) (by decide)))
    (b_one (s_ixset (r1 hr) (pe_var (i := 3) rfl (.inl rfl)) (k_var (pe_var (i := 4) rfl (.inl rfl))) (k_fn gx.a__law_chosen hr tk rfl (k_bt (pe_var (i := 0) rfl (.inl rfl)) (k_bf (k_var (pe_var (i := 7) rfl (.inl rfl))) k_b0)))))))
    (b_one (s_ret (m_val (k_cT c_tuple rfl fx.n_tuple rfl (k_a (pe_var (i := 3) rfl (.inl rfl)) k_a0)))))))))))))))
theorem b__law_is_text (fx : Fx K mg ea) (gx : Gx P w K mg base ea Φ (k + 8)) {f : Addr} (cdv : Value) (A : Around) (outer : List PySem.Env) (s : Shared) (H : Hp) (E : XK) (hr : Room (k + 8) (A.deeper (PyProof.Rows.envOfC "_law_is_text" (defScope (st 41)) s.heap.objs.size f cdv))) :
    BD (cxOf (L2.CX P w) P w K mg base ["value", "most", "sign"] "_law_is_text" (defScope (st 41)) f cdv A outer s H E) (exA ea) (fun cls d _ H => E cls d H) Φ (lentIx 0 F27.lent) (defBody (st 41)) F27.body := by
  have hN : (["value", "most", "sign"] : List Str).Nodup := by decide +kernel
  have tk : Takes (cxOf (L2.CX P w) P w K mg base ["value", "most", "sign"] "_law_is_text" (defScope (st 41)) f cdv A outer s H E) (fun cls d _ H => E cls d H) := takes_of rfl rfl rfl rfl
  have po : PassesOwn (model P w) (cxOf (L2.CX P w) P w K mg base ["value", "most", "sign"] "_law_is_text" (defScope (st 41)) f cdv A outer s H E).A (cxOf (L2.CX P w) P w K mg base ["value", "most", "sign"] "_law_is_text" (defScope (st 41)) f cdv A outer s H E).env (cxOf (L2.CX P w) P w K mg base ["value", "most", "sign"] "_law_is_text" (defScope (st 41)) f cdv A outer s H E).xe := passes_of (X := cxOf (L2.CX P w) P w K mg base ["value", "most", "sign"] "_law_is_text" (defScope (st 41)) f cdv A outer s H E) rfl
  exact (b_cons (s_if (t_pw (w_or (t_not (t_val (k_is c_isStr rfl fx.n_isinstance rfl fx.n_str rfl (pe_var (i := 0) rfl (.inl rfl))))) (w_or1 (t_not (t_chain u_lt u_le nc_le k_int (k_cB c_len rfl fx.n_len rfl (k_a (pe_var (i := 0) rfl (.inl rfl)) k_a0)) (pe_var (i := 1) rfl (.inl rfl))))))) (b_one (s_ret (m_val k_bl))) b_nil)
    (b_one (s_ret (m_val (k_cmp (u_eq (r200 hr)) (k_comp (own := [("sign", 2)]) (b := false) rfl rfl hN (fun h => nomatch h) (by decide) (i_seq (k_var (pe_var (i := 0) rfl (.inl rfl)))) (blkOk_by (by kernel_rfl)) (fun _ _ _ _ _ => (g_one hN rfl (.inl rfl))) (fun _ _ _ _ _ => pts_one (t_not (t_chain u_le u_le nc_le (k_str (by kernel_rfl) (by decide)) (pe_var (i := 2) rfl (.inl rfl)) (k_str (by kernel_rfl) (by decide))))) (fun _ _ _ _ _ => (k_var (pe_var (i := 2) rfl (.inl rfl))))) (k_lst k_v0 (by decide)) (nomark _))))))
theorem b__law_is_pairs (fx : Fx K mg ea) (gx : Gx P w K mg base ea Φ (k + 8)) {f : Addr} (cdv : Value) (A : Around) (outer : List PySem.Env) (s : Shared) (H : Hp) (E : XK) (hr : Room (k + 8) (A.deeper (PyProof.Rows.envOfC "_law_is_pairs" (defScope (st 42)) s.heap.objs.size f cdv))) :
    BD (cxOf (L2.CX P w) P w K mg base ["value", "last", "pair"] "_law_is_pairs" (defScope (st 42)) f cdv A outer s H E) (exA ea) (fun cls d _ H => E cls d H) Φ (lentIx 0 F28.lent) (defBody (st 42)) F28.body := by
  have hN : (["value", "last", "pair"] : List Str).Nodup := by decide +kernel
  have tk : Takes (cxOf (L2.CX P w) P w K mg base ["value", "last", "pair"] "_law_is_pairs" (defScope (st 42)) f cdv A outer s H E) (fun cls d _ H => E cls d H) := takes_of rfl rfl rfl rfl
  have po : PassesOwn (model P w) (cxOf (L2.CX P w) P w K mg base ["value", "last", "pair"] "_law_is_pairs" (defScope (st 42)) f cdv A outer s H E).A (cxOf (L2.CX P w) P w K mg base ["value", "last", "pair"] "_law_is_pairs" (defScope (st 42)) f cdv A outer s H E).env (cxOf (L2.CX P w) P w K mg base ["value", "last", "pair"] "_law_is_pairs" (defScope (st 42)) f cdv A outer s H E).xe := passes_of (X := cxOf (L2.CX P w) P w K mg base ["value", "last", "pair"] "_law_is_pairs" (defScope (st 42)) f cdv A outer s H E) rfl
  exact (b_cons (s_if (t_not (t_val (k_is c_isTup rfl fx.n_isinstance rfl fx.n_tuple rfl (pe_var (i := 0) rfl (.inl rfl))))) (b_one (s_ret (m_val k_bl))) b_nil)
    (b_cons (s_set (i := 1) hN rfl (.inl rfl) (k_str (by kernel_rfl) (by decide)))
    (b_cons (s_for (b := false) po rfl (fun h => nomatch h) (i_seq (k_var (pe_var (i := 0) rfl (.inl rfl)))) (g_one hN rfl (.inl rfl)) (b_cons (s_if (t_pw (w_or (t_not (t_val (k_fn gx.a__law_wide hr tk rfl (k_bf (k_var (pe_var (i := 2) rfl (.inl rfl))) (k_bf k_int (k_bf k_int k_b0)))))) (w_or (t_not (t_val (k_fn gx.a__law_is_text hr tk rfl (k_bf (k_idx (r1 hr) (pe_var (i := 2) rfl (.inl rfl)) k_int (fun _ _ => rfl)) (k_bf k_int k_b0))))) (w_or1 (t_not (t_cmp u_lt (pe_var (i := 1) rfl (.inl rfl)) (k_idx (r1 hr) (pe_var (i := 2) rfl (.inl rfl)) k_int (fun _ _ => rfl)) (nomark _))))))) (b_one (s_ret (m_val k_bl))) b_nil)
    (b_one (s_set (i := 1) hN rfl (.inl rfl) (k_idx (r1 hr) (pe_var (i := 2) rfl (.inl rfl)) k_int (fun _ _ => rfl))))))
    (b_one (s_ret (m_val k_bl))))))
theorem b__law_tree_size (fx : Fx K mg ea) (gx : Gx P w K mg base ea Φ (k + 8)) {f : Addr} (cdv : Value) (A : Around) (outer : List PySem.Env) (s : Shared) (H : Hp) (E : XK) (hr : Room (k + 8) (A.deeper (PyProof.Rows.envOfC "_law_tree_size" (defScope (st 43)) s.heap.objs.size f cdv))) :
    BD (cxOf (L2.CX P w) P w K mg base ["value", "deep", "many", "name", "node"] "_law_tree_size" (defScope (st 43)) f cdv A outer s H E) (exA ea) (fun cls d _ H => E cls d H) Φ (lentIx 0 F29.lent) (defBody (st 43)) F29.body := by
  have hN : (["value", "deep", "many", "name", "node"] : List Str).Nodup := by decide +kernel
  have tk : Takes (cxOf (L2.CX P w) P w K mg base ["value", "deep", "many", "name", "node"] "_law_tree_size" (defScope (st 43)) f cdv A outer s H E) (fun cls d _ H => E cls d H) := takes_of rfl rfl rfl rfl
  have po : PassesOwn (model P w) (cxOf (L2.CX P w) P w K mg base ["value", "deep", "many", "name", "node"] "_law_tree_size" (defScope (st 43)) f cdv A outer s H E).A (cxOf (L2.CX P w) P w K mg base ["value", "deep", "many", "name", "node"] "_law_tree_size" (defScope (st 43)) f cdv A outer s H E).env (cxOf (L2.CX P w) P w K mg base ["value", "deep", "many", "name", "node"] "_law_tree_size" (defScope (st 43)) f cdv A outer s H E).xe := passes_of (X := cxOf (L2.CX P w) P w K mg base ["value", "deep", "many", "name", "node"] "_law_tree_size" (defScope (st 43)) f cdv A outer s H E) rfl
  exact (b_cons (s_if (t_pw (w_or (t_cmp (u_eq (r200 hr)) (pe_var (i := 1) rfl (.inl rfl)) k_int (nomark _)) (w_or1 (t_not (t_val (k_fn gx.a__law_is_pairs hr tk rfl (k_bf (k_var (pe_var (i := 0) rfl (.inl rfl))) k_b0))))))) (b_one (s_ret (m_val k_int))) b_nil)
    (b_cons (s_set (i := 2) hN rfl (.inl rfl) (k_cB c_len rfl fx.n_len rfl (k_a (pe_var (i := 0) rfl (.inl rfl)) k_a0)))
    (b_cons (s_for (b := false) po rfl (fun h => nomatch h) (i_seq (k_var (pe_var (i := 0) rfl (.inl rfl)))) (g_many rfl (by decide) (g_cons hN rfl (.inl rfl) (g_cons hN rfl (.inl rfl) g_nil))) (b_one (s_set (i := 2) hN rfl (.inl rfl) (k_bin u_add (pe_var (i := 2) rfl (.inl rfl)) (k_ite (t_val (k_fn gx.a__law_is_text hr tk rfl (k_bf (k_var (pe_var (i := 4) rfl (.inl rfl))) (k_bf k_int k_b0)))) k_int (k_fn gx.a__law_tree_size hr tk rfl (k_bf (k_var (pe_var (i := 4) rfl (.inl rfl))) (k_bf (k_bin u_sub (pe_var (i := 1) rfl (.inl rfl)) k_int) k_b0))))))))
    (b_one (s_ret (m_var (pe_var (i := 2) rfl (.inl rfl))))))))
theorem b__law_layer_size (fx : Fx K mg ea) (gx : Gx P w K mg base ea Φ (k + 8)) {f : Addr} (cdv : Value) (A : Around) (outer : List PySem.Env) (s : Shared) (H : Hp) (E : XK) (hr : Room (k + 8) (A.deeper (PyProof.Rows.envOfC "_law_layer_size" (defScope (st 44)) s.heap.objs.size f cdv))) :
    BD (cxOf (L2.CX P w) P w K mg base ["value", "deep", "many", "name", "entry"] "_law_layer_size" (defScope (st 44)) f cdv A outer s H E) (exA ea) (fun cls d _ H => E cls d H) Φ (lentIx 0 F30.lent) (defBody (st 44)) F30.body := by
  have hN : (["value", "deep", "many", "name", "entry"] : List Str).Nodup := by decide +kernel
  have tk : Takes (cxOf (L2.CX P w) P w K mg base ["value", "deep", "many", "name", "entry"] "_law_layer_size" (defScope (st 44)) f cdv A outer s H E) (fun cls d _ H => E cls d H) := takes_of rfl rfl rfl rfl
  have po : PassesOwn (model P w) (cxOf (L2.CX P w) P w K mg base ["value", "deep", "many", "name", "entry"] "_law_layer_size" (defScope (st 44)) f cdv A outer s H E).A (cxOf (L2.CX P w) P w K mg base ["value", "deep", "many", "name", "entry"] "_law_layer_size" (defScope (st 44)) f cdv A outer s H E).env (cxOf (L2.CX P w) P w K mg base ["value", "deep", "many", "name", "entry"] "_law_layer_size" (defScope (st 44)) f cdv A outer s H E).xe := passes_of (X := cxOf (L2.CX P w) P w K mg base ["value", "deep", "many", "name", "entry"] "_law_layer_size" (defScope (st 44)) f cdv A outer s H E) rfl
  exact (b_cons (s_if (t_pw (w_or (t_cmp (u_eq (r200 hr)) (pe_var (i := 1) rfl (.inl rfl)) k_int (nomark _)) (w_or (t_not (t_val (k_fn gx.a__law_wide hr tk rfl (k_bf (k_var (pe_var (i := 0) rfl (.inl rfl))) (k_bf k_int (k_bf k_int k_b0)))))) (w_or (t_not (t_val (k_is c_isBool rfl fx.n_isinstance rfl fx.n_bool rfl (k_idx (r1 hr) (pe_var (i := 0) rfl (.inl rfl)) k_int (fun _ _ => rfl))))) (w_or1 (t_not (t_val (k_fn gx.a__law_is_pairs hr tk rfl (k_bf (k_idx (r1 hr) (pe_var (i := 0) rfl (.inl rfl)) k_int (fun _ _ => rfl)) k_b0))))))))) (b_one (s_ret (m_val k_int))) b_nil)
    (b_cons (s_set (i := 2) hN rfl (.inl rfl) (k_cB c_len rfl fx.n_len rfl (k_a (k_idx (r1 hr) (pe_var (i := 0) rfl (.inl rfl)) k_int (fun _ _ => rfl)) k_a0)))
    (b_cons (s_for (b := false) po rfl (fun h => nomatch h) (i_seq (k_idx (r1 hr) (pe_var (i := 0) rfl (.inl rfl)) k_int (fun _ _ => rfl))) (g_many rfl (by decide) (g_cons hN rfl (.inl rfl) (g_cons hN rfl (.inl rfl) g_nil))) (b_one (s_if (t_pw (w_and (t_isN u_notN (pe_var (i := 4) rfl (.inl rfl))) (w_and1 (t_not (t_val (k_fn gx.a__law_is_text hr tk rfl (k_bf (k_var (pe_var (i := 4) rfl (.inl rfl))) (k_bf k_int k_b0)))))))) (b_one (s_set (i := 2) hN rfl (.inl rfl) (k_bin u_add (pe_var (i := 2) rfl (.inl rfl)) (k_fn gx.a__law_layer_size hr tk rfl (k_bf (k_var (pe_var (i := 4) rfl (.inl rfl))) (k_bf (k_bin u_sub (pe_var (i := 1) rfl (.inl rfl)) k_int) k_b0)))))) b_nil)))
    (b_one (s_ret (m_var (pe_var (i := 2) rfl (.inl rfl))))))))
theorem b__law_sheet (fx : Fx K mg ea) (gx : Gx P w K mg base ea Φ (k + 8)) {f : Addr} (cdv : Value) (A : Around) (outer : List PySem.Env) (s : Shared) (H : Hp) (E : XK) (hr : Room (k + 8) (A.deeper (PyProof.Rows.envOfC "_law_sheet" (defScope (st 45)) s.heap.objs.size f cdv))) :
    BD (cxOf (L2.CX P w) P w K mg base ["source", "deep", "rows", "name", "way"] "_law_sheet" (defScope (st 45)) f cdv A outer s H E) (exA ea) (fun cls d _ H => E cls d H) Φ (lentIx 0 F31.lent) (defBody (st 45)) F31.body := by
  have hN : (["source", "deep", "rows", "name", "way"] : List Str).Nodup := by decide +kernel
  have tk : Takes (cxOf (L2.CX P w) P w K mg base ["source", "deep", "rows", "name", "way"] "_law_sheet" (defScope (st 45)) f cdv A outer s H E) (fun cls d _ H => E cls d H) := takes_of rfl rfl rfl rfl
  have po : PassesOwn (model P w) (cxOf (L2.CX P w) P w K mg base ["source", "deep", "rows", "name", "way"] "_law_sheet" (defScope (st 45)) f cdv A outer s H E).A (cxOf (L2.CX P w) P w K mg base ["source", "deep", "rows", "name", "way"] "_law_sheet" (defScope (st 45)) f cdv A outer s H E).env (cxOf (L2.CX P w) P w K mg base ["source", "deep", "rows", "name", "way"] "_law_sheet" (defScope (st 45)) f cdv A outer s H E).xe := passes_of (X := cxOf (L2.CX P w) P w K mg base ["source", "deep", "rows", "name", "way"] "_law_sheet" (defScope (st 45)) f cdv A outer s H E) rfl
  exact (b_cons (s_set (i := 2) hN rfl (.inl rfl) (k_lst k_v0 (by decide)))
    (b_cons (s_for (b := false) po rfl (fun h => nomatch h) (i_seq (k_lst (k_v (k_str (by kernel_rfl) (by decide)) (k_v (k_str (by kernel_rfl) (by decide)) (k_v (k_str (by kernel_rfl) (by decide)) k_v0))) (by decide))) (g_one hN rfl (.inl rfl)) (b_cons (s_set (i := 4) hN rfl (.inl rfl) (k_fn gx.a__law_pick hr tk rfl (k_bt (pe_var (i := 0) rfl (.inl rfl)) (k_bf k_int k_b0))))
    (b_one (s_if (t_cmp (u_eq (r200 hr)) (pe_var (i := 4) rfl (.inl rfl)) k_int (nomark _)) (b_one (s_app (pe_var (i := 2) rfl (.inl rfl)) (k_tup (k_v (k_var (pe_var (i := 3) rfl (.inl rfl))) (k_v k_non k_v0)) (by decide)))) (b_one (s_if (t_cmp (u_eq (r200 hr)) (pe_var (i := 4) rfl (.inl rfl)) k_int (nomark _)) (b_one (s_app (pe_var (i := 2) rfl (.inl rfl)) (k_tup (k_v (k_var (pe_var (i := 3) rfl (.inl rfl))) (k_v (k_fn gx.a__law_chosen hr tk rfl (k_bt (pe_var (i := 0) rfl (.inl rfl)) (k_bf (k_lst (k_v (k_str (by kernel_rfl) (by decide)) (k_v (k_str (by kernel_rfl) (by decide)) k_v0)) (by decide)) k_b0))) k_v0)) (by decide)))) (b_one (s_if (t_pw (w_and (t_cmp u_lt (pe_var (i := 4) rfl (.inl rfl)) k_int (nomark _)) (w_and1 (t_cmp u_gt (pe_var (i := 1) rfl (.inl rfl)) k_int (nomark _))))) (b_one (s_app (pe_var (i := 2) rfl (.inl rfl)) (k_tup (k_v (k_var (pe_var (i := 3) rfl (.inl rfl))) (k_v (k_fn gx.a__law_sheet hr tk rfl (k_bt (pe_var (i := 0) rfl (.inl rfl)) (k_bf (k_bin u_sub (pe_var (i := 1) rfl (.inl rfl)) k_int) k_b0))) k_v0)) (by decide)))) b_nil))))))))
    (b_one (s_ret (m_val (k_tup (k_v (k_cmp (u_eq (r200 hr)) (k_fn gx.a__law_pick hr tk rfl (k_bt (pe_var (i := 0) rfl (.inl rfl)) (k_bf k_int k_b0))) k_int (nomark _)) (k_v (k_cT c_tuple rfl fx.n_tuple rfl (k_a (pe_var (i := 2) rfl (.inl rfl)) k_a0)) k_v0)) (by decide)))))))
theorem b__law_layer (fx : Fx K mg ea) (gx : Gx P w K mg base ea Φ (k + 8)) {f : Addr} (cdv : Value) (A : Around) (outer : List PySem.Env) (s : Shared) (H : Hp) (E : XK) (hr : Room (k + 8) (A.deeper (PyProof.Rows.envOfC "_law_layer" (defScope (st 46)) s.heap.objs.size f cdv))) :
    BD (cxOf (L2.CX P w) P w K mg base ["source", "found"] "_law_layer" (defScope (st 46)) f cdv A outer s H E) (exA ea) (fun cls d _ H => E cls d H) Φ (lentIx 0 F32.lent) (defBody (st 46)) F32.body := by
  have hN : (["source", "found"] : List Str).Nodup := by decide +kernel
  have tk : Takes (cxOf (L2.CX P w) P w K mg base ["source", "found"] "_law_layer" (defScope (st 46)) f cdv A outer s H E) (fun cls d _ H => E cls d H) := takes_of rfl rfl rfl rfl
  have po : PassesOwn (model P w) (cxOf (L2.CX P w) P w K mg base ["source", "found"] "_law_layer" (defScope (st 46)) f cdv A outer s H E).A (cxOf (L2.CX P w) P w K mg base ["source", "found"] "_law_layer" (defScope (st 46)) f cdv A outer s H E).env (cxOf (L2.CX P w) P w K mg base ["source", "found"] "_law_layer" (defScope (st 46)) f cdv A outer s H E).xe := passes_of (X := cxOf (L2.CX P w) P w K mg base ["source", "found"] "_law_layer" (defScope (st 46)) f cdv A outer s H E) rfl
  exact (b_cons (s_set (i := 1) hN rfl (.inl rfl) (k_fn gx.a__law_sheet hr tk rfl (k_bt (pe_var (i := 0) rfl (.inl rfl)) (k_bf k_int k_b0))))
    (b_cons (s_while po (t_cmp u_gt (k_fn gx.a__law_layer_size hr tk rfl (k_bf (k_var (pe_var (i := 1) rfl (.inl rfl))) (k_bf k_int k_b0))) k_int (nomark _)) (b_one (s_set (i := 1) hN rfl (.inl rfl) (k_tup (k_v (k_idx (r1 hr) (pe_var (i := 1) rfl (.inl rfl)) k_int (fun _ _ => rfl)) (k_v (k_slL (k_idx (r1 hr) (pe_var (i := 1) rfl (.inl rfl)) k_int (fun _ _ => rfl)) k_int) k_v0)) (by decide)))))
    (b_one (s_ret (m_var (pe_var (i := 1) rfl (.inl rfl)))))))
theorem b__law_node (fx : Fx K mg ea) (gx : Gx P w K mg base ea Φ (k + 8)) {f : Addr} (cdv : Value) (A : Around) (outer : List PySem.Env) (s : Shared) (H : Hp) (E : XK) (hr : Room (k + 8) (A.deeper (PyProof.Rows.envOfC "_law_node" (defScope (st 47)) s.heap.objs.size f cdv))) :
    BD (cxOf (L2.CX P w) P w K mg base ["source", "deep", "rows", "name", "way"] "_law_node" (defScope (st 47)) f cdv A outer s H E) (exA ea) (fun cls d _ H => E cls d H) Φ (lentIx 0 F33.lent) (defBody (st 47)) F33.body := by
  have hN : (["source", "deep", "rows", "name", "way"] : List Str).Nodup := by decide +kernel
  have tk : Takes (cxOf (L2.CX P w) P w K mg base ["source", "deep", "rows", "name", "way"] "_law_node" (defScope (st 47)) f cdv A outer s H E) (fun cls d _ H => E cls d H) := takes_of rfl rfl rfl rfl
  have po : PassesOwn (model P w) (cxOf (L2.CX P w) P w K mg base ["source", "deep", "rows", "name", "way"] "_law_node" (defScope (st 47)) f cdv A outer s H E).A (cxOf (L2.CX P w) P w K mg base ["source", "deep", "rows", "name", "way"] "_law_node" (defScope (st 47)) f cdv A outer s H E).env (cxOf (L2.CX P w) P w K mg base ["source", "deep", "rows", "name", "way"] "_law_node" (defScope (st 47)) f cdv A outer s H E).xe := passes_of (X := cxOf (L2.CX P w) P w K mg base ["source", "deep", "rows", "name", "way"] "_law_node" (defScope (st 47)) f cdv A outer s H E) rfl
  exact (b_cons (s_set (i := 2) hN rfl (.inl rfl) (k_lst k_v0 (by decide)))
    (b_cons (s_for (b := false) po rfl (fun h => nomatch h) (i_seq (k_lst (k_v (k_str (by kernel_rfl) (by decide)) (k_v (k_str (by kernel_rfl) (by decide)) (k_v (k_str (by kernel_rfl) (by decide)) (k_v (k_str (by kernel_rfl) (by decide)) k_v0)))) (by decide))) (g_one hN rfl (.inl rfl)) (b_cons (s_set (i := 4) hN rfl (.inl rfl) (k_fn gx.a__law_pick hr tk rfl (k_bt (pe_var (i := 0) rfl (.inl rfl)) (k_bf k_int k_b0))))
    (b_one (s_if (t_cmp (u_eq (r200 hr)) (pe_var (i := 4) rfl (.inl rfl)) k_int (nomark _)) (b_one (s_app (pe_var (i := 2) rfl (.inl rfl)) (k_tup (k_v (k_var (pe_var (i := 3) rfl (.inl rfl))) (k_v (k_fn gx.a__law_chosen hr tk rfl (k_bt (pe_var (i := 0) rfl (.inl rfl)) (k_bf (k_lst (k_v (k_str (by kernel_rfl) (by decide)) (k_v (k_str (by kernel_rfl) (by decide)) (k_v (k_str (by kernel_rfl) (by decide)) k_v0))) (by decide)) k_b0))) k_v0)) (by decide)))) (b_one (s_if (t_pw (w_and (t_cmp u_lt (pe_var (i := 4) rfl (.inl rfl)) k_int (nomark _)) (w_and1 (t_cmp u_gt (pe_var (i := 1) rfl (.inl rfl)) k_int (nomark _))))) (b_one (s_app (pe_var (i := 2) rfl (.inl rfl)) (k_tup (k_v (k_var (pe_var (i := 3) rfl (.inl rfl))) (k_v (k_fn gx.a__law_node hr tk rfl (k_bt (pe_var (i := 0) rfl (.inl rfl)) (k_bf (k_bin u_sub (pe_var (i := 1) rfl (.inl rfl)) k_int) k_b0))) k_v0)) (by decide)))) b_nil))))))
    (b_one (s_ret (m_val (k_cT c_tuple rfl fx.n_tuple rfl (k_a (pe_var (i := 2) rfl (.inl rfl)) k_a0)))))))
theorem b__law_tree (fx : Fx K mg ea) (gx : Gx P w K mg base ea Φ (k + 8)) {f : Addr} (cdv : Value) (A : Around) (outer : List PySem.Env) (s : Shared) (H : Hp) (E : XK) (hr : Room (k + 8) (A.deeper (PyProof.Rows.envOfC "_law_tree" (defScope (st 48)) s.heap.objs.size f cdv))) :
    BD (cxOf (L2.CX P w) P w K mg base ["source", "found"] "_law_tree" (defScope (st 48)) f cdv A outer s H E) (exA ea) (fun cls d _ H => E cls d H) Φ (lentIx 0 F34.lent) (defBody (st 48)) F34.body := by
  have hN : (["source", "found"] : List Str).Nodup := by decide +kernel
  have tk : Takes (cxOf (L2.CX P w) P w K mg base ["source", "found"] "_law_tree" (defScope (st 48)) f cdv A outer s H E) (fun cls d _ H => E cls d H) := takes_of rfl rfl rfl rfl
  have po : PassesOwn (model P w) (cxOf (L2.CX P w) P w K mg base ["source", "found"] "_law_tree" (defScope (st 48)) f cdv A outer s H E).A (cxOf (L2.CX P w) P w K mg base ["source", "found"] "_law_tree" (defScope (st 48)) f cdv A outer s H E).env (cxOf (L2.CX P w) P w K mg base ["source", "found"] "_law_tree" (defScope (st 48)) f cdv A outer s H E).xe := passes_of (X := cxOf (L2.CX P w) P w K mg base ["source", "found"] "_law_tree" (defScope (st 48)) f cdv A outer s H E) rfl
  exact (b_cons (s_set (i := 1) hN rfl (.inl rfl) (k_fn gx.a__law_node hr tk rfl (k_bt (pe_var (i := 0) rfl (.inl rfl)) (k_bf k_int k_b0))))
    (b_cons (s_while po (t_cmp u_gt (k_fn gx.a__law_tree_size hr tk rfl (k_bf (k_var (pe_var (i := 1) rfl (.inl rfl))) (k_bf k_int k_b0))) k_int (nomark _)) (b_one (s_set (i := 1) hN rfl (.inl rfl) (k_slL (pe_var (i := 1) rfl (.inl rfl)) k_int))))
    (b_one (s_ret (m_var (pe_var (i := 1) rfl (.inl rfl)))))))
theorem b__law_chain (fx : Fx K mg ea) (gx : Gx P w K mg base ea Φ (k + 8)) {f : Addr} (cdv : Value) (A : Around) (outer : List PySem.Env) (s : Shared) (H : Hp) (E : XK) (hr : Room (k + 8) (A.deeper (PyProof.Rows.envOfC "_law_chain" (defScope (st 49)) s.heap.objs.size f cdv))) :
    BD (cxOf (L2.CX P w) P w K mg base ["path", "node", "name"] "_law_chain" (defScope (st 49)) f cdv A outer s H E) (exA ea) (fun cls d _ H => E cls d H) Φ (lentIx 0 F35.lent) (defBody (st 49)) F35.body := by
  have hN : (["path", "node", "name"] : List Str).Nodup := by decide +kernel
  have tk : Takes (cxOf (L2.CX P w) P w K mg base ["path", "node", "name"] "_law_chain" (defScope (st 49)) f cdv A outer s H E) (fun cls d _ H => E cls d H) := takes_of rfl rfl rfl rfl
  have po : PassesOwn (model P w) (cxOf (L2.CX P w) P w K mg base ["path", "node", "name"] "_law_chain" (defScope (st 49)) f cdv A outer s H E).A (cxOf (L2.CX P w) P w K mg base ["path", "node", "name"] "_law_chain" (defScope (st 49)) f cdv A outer s H E).env (cxOf (L2.CX P w) P w K mg base ["path", "node", "name"] "_law_chain" (defScope (st 49)) f cdv A outer s H E).xe := passes_of (X := cxOf (L2.CX P w) P w K mg base ["path", "node", "name"] "_law_chain" (defScope (st 49)) f cdv A outer s H E) rfl
  exact (b_cons (s_for (b := false) po rfl (fun h => nomatch h) (i_seq (k_back (pe_var (i := 0) rfl (.inl rfl)))) (g_one hN rfl (.inl rfl)) (b_one (s_set (i := 1) hN rfl (.inl rfl) (k_tup (k_v (k_tup (k_v (k_var (pe_var (i := 2) rfl (.inl rfl))) (k_v (k_var (pe_var (i := 1) rfl (.inl rfl))) k_v0)) (by decide)) k_v0) (by decide)))))
    (b_one (s_ret (m_var (pe_var (i := 1) rfl (.inl rfl))))))
theorem b__law_good_claim (fx : Fx K mg ea) (gx : Gx P w K mg base ea Φ (k + 8)) {f : Addr} (cdv : Value) (A : Around) (outer : List PySem.Env) (s : Shared) (H : Hp) (E : XK) (hr : Room (k + 8) (A.deeper (PyProof.Rows.envOfC "_law_good_claim" (defScope (st 50)) s.heap.objs.size f cdv))) :
    BD (cxOf (L2.CX P w) P w K mg base ["value", "name", "first", "last", "words_so"] "_law_good_claim" (defScope (st 50)) f cdv A outer s H E) (exA ea) (fun cls d _ H => E cls d H) Φ (lentIx 0 F36.lent) (defBody (st 50)) F36.body := by
  have hN : (["value", "name", "first", "last", "words_so"] : List Str).Nodup := by decide +kernel
  have tk : Takes (cxOf (L2.CX P w) P w K mg base ["value", "name", "first", "last", "words_so"] "_law_good_claim" (defScope (st 50)) f cdv A outer s H E) (fun cls d _ H => E cls d H) := takes_of rfl rfl rfl rfl
  have po : PassesOwn (model P w) (cxOf (L2.CX P w) P w K mg base ["value", "name", "first", "last", "words_so"] "_law_good_claim" (defScope (st 50)) f cdv A outer s H E).A (cxOf (L2.CX P w) P w K mg base ["value", "name", "first", "last", "words_so"] "_law_good_claim" (defScope (st 50)) f cdv A outer s H E).env (cxOf (L2.CX P w) P w K mg base ["value", "name", "first", "last", "words_so"] "_law_good_claim" (defScope (st 50)) f cdv A outer s H E).xe := passes_of (X := cxOf (L2.CX P w) P w K mg base ["value", "name", "first", "last", "words_so"] "_law_good_claim" (defScope (st 50)) f cdv A outer s H E) rfl
  exact (b_cons (s_if (t_pw (w_or (t_not (t_val (k_fn gx.a__law_wide hr tk rfl (k_bf (k_var (pe_var (i := 0) rfl (.inl rfl))) (k_bf k_int (k_bf k_int k_b0)))))) (w_or (t_not (t_val (k_fn gx.a__law_wide hr tk rfl (k_bf (k_idx (r1 hr) (pe_var (i := 0) rfl (.inl rfl)) k_int (fun _ _ => rfl)) (k_bf k_int (k_bf k_int k_b0)))))) (w_or1 (t_not (t_val (k_fn gx.a__law_wide hr tk rfl (k_bf (k_idx (r1 hr) (pe_var (i := 0) rfl (.inl rfl)) k_int (fun _ _ => rfl)) (k_bf k_int (k_bf k_int k_b0)))))))))) (b_one (s_ret (m_val k_bl))) b_nil)
    (b_cons (s_if (t_cmp (u_ne (r200 hr)) (k_comp (own := [("name", 1)]) (b := false) rfl rfl hN (fun h => nomatch h) (by decide) (i_seq (k_idx (r1 hr) (pe_var (i := 0) rfl (.inl rfl)) k_int (fun _ _ => rfl))) (blkOk_by (by kernel_rfl)) (fun _ _ _ _ _ => (g_one hN rfl (.inl rfl))) (fun _ _ _ _ _ => pts_one (t_not (t_val (k_fn gx.a__law_is_text hr Tl.takes0 rfl (k_bf (k_var (pe_var (i := 1) rfl (.inl rfl))) (k_bf k_int k_b0)))))) (fun _ _ _ _ _ => (k_var (pe_var (i := 1) rfl (.inl rfl))))) (k_lst k_v0 (by decide)) (nomark _)) (b_one (s_ret (m_val k_bl))) b_nil)
    (b_cons (s_par2 rfl hN rfl rfl (by decide) rfl rfl (k_v (k_idx (r1 hr) (k_idx (r1 hr) (pe_var (i := 0) rfl (.inl rfl)) k_int (fun _ _ => rfl)) k_int (fun _ _ => rfl)) (k_v (k_idx (r1 hr) (k_idx (r1 hr) (pe_var (i := 0) rfl (.inl rfl)) k_int (fun _ _ => rfl)) (k_un u_neg k_int) (fun _ _ => rfl)) k_v0)) rfl rfl)
    (b_cons (s_if (t_pw (w_and (t_val (k_is c_isStr rfl fx.n_isinstance rfl fx.n_str rfl (pe_var (i := 2) rfl (.inl rfl)))) (w_and1 (t_cmp (u_eq (r200 hr)) (pe_var (i := 2) rfl (.inl rfl)) (k_str (by kernel_rfl) (by decide)) (nomark _))))) (b_one (s_ret (m_val (k_and (k_cmp (u_eq (r200 hr)) (k_cB c_len rfl fx.n_len rfl (k_a (k_idx (r1 hr) (pe_var (i := 0) rfl (.inl rfl)) k_int (fun _ _ => rfl)) k_a0)) k_int (nomark _)) (k_one (k_fn gx.a__law_is_text hr tk rfl (k_bf (k_var (pe_var (i := 3) rfl (.inl rfl))) (k_bf k_int k_b0)))))))) b_nil)
    (b_cons (s_set (i := 4) hN rfl (.inl rfl) (k_lst (k_v (k_tup (k_v (k_str (by kernel_rfl) (by decide)) k_v0) (by decide)) (k_v (k_tup (k_v (k_str (by kernel_rfl) (by decide)) k_v0) (by decide)) (k_v (k_tup (k_v (k_str (by kernel_rfl) (by decide)) k_v0) (by decide)) (k_v (k_tup (k_v (k_str (by kernel_rfl) (by decide)) (k_v (k_str (by kernel_rfl) (by decide)) k_v0)) (by decide)) (k_v (k_tup (k_v (k_str (by kernel_rfl) (by decide)) (k_v (k_str (by kernel_rfl) (by decide)) k_v0)) (by decide)) (k_v (k_tup (k_v (k_str (by kernel_rfl) (by decide)) (k_v (k_str (by kernel_rfl) (by decide)) k_v0)) (by decide)) k_v0)))))) (by decide)))
    (b_one (s_ret (m_val (k_cmp (u_isin (r300 hr)) (k_idx (r1 hr) (pe_var (i := 0) rfl (.inl rfl)) k_int (fun _ _ => rfl)) (pe_var (i := 4) rfl (.inl rfl)) (by rfl))))))))))
theorem b__law_counted (fx : Fx K mg ea) (gx : Gx P w K mg base ea Φ (k + 8)) {f : Addr} (cdv : Value) (A : Around) (outer : List PySem.Env) (s : Shared) (H : Hp) (E : XK) (hr : Room (k + 8) (A.deeper (PyProof.Rows.envOfC "_law_counted" (defScope (st 51)) s.heap.objs.size f cdv))) :
    BD (cxOf (L2.CX P w) P w K mg base ["value"] "_law_counted" (defScope (st 51)) f cdv A outer s H E) (exA ea) (fun cls d _ H => E cls d H) Φ (lentIx 0 F37.lent) (defBody (st 51)) F37.body := by
  have hN : (["value"] : List Str).Nodup := by decide +kernel
  have tk : Takes (cxOf (L2.CX P w) P w K mg base ["value"] "_law_counted" (defScope (st 51)) f cdv A outer s H E) (fun cls d _ H => E cls d H) := takes_of rfl rfl rfl rfl
  have po : PassesOwn (model P w) (cxOf (L2.CX P w) P w K mg base ["value"] "_law_counted" (defScope (st 51)) f cdv A outer s H E).A (cxOf (L2.CX P w) P w K mg base ["value"] "_law_counted" (defScope (st 51)) f cdv A outer s H E).env (cxOf (L2.CX P w) P w K mg base ["value"] "_law_counted" (defScope (st 51)) f cdv A outer s H E).xe := passes_of (X := cxOf (L2.CX P w) P w K mg base ["value"] "_law_counted" (defScope (st 51)) f cdv A outer s H E) rfl
  exact (b_one (s_try rfl rfl tk (fun _ _ _ tk po => (b_one (s_ret (m_val (k_fn gx.a_count_entries hr tk rfl (k_bf (k_var (pe_var (i := 0) rfl (.inl rfl))) k_b0)))))) (h_cons ⟨rfl, by decide, .inl fx.x_InvalidLayer.2.1⟩ (fun _ _ => pe_str) h_nil) (xm_of fx.xm (by decide)) (by decide)))
theorem b__law_told_right (fx : Fx K mg ea) (gx : Gx P w K mg base ea Φ (k + 8)) {f : Addr} (cdv : Value) (A : Around) (outer : List PySem.Env) (s : Shared) (H : Hp) (E : XK) (hr : Room (k + 8) (A.deeper (PyProof.Rows.envOfC "_law_told_right" (defScope (st 52)) s.heap.objs.size f cdv))) :
    BD (cxOf (L2.CX P w) P w K mg base ["value", "size", "paths", "name"] "_law_told_right" (defScope (st 52)) f cdv A outer s H E) (exA ea) (fun cls d _ H => E cls d H) Φ (lentIx 0 F38.lent) (defBody (st 52)) F38.body := by
  have hN : (["value", "size", "paths", "name"] : List Str).Nodup := by decide +kernel
  have tk : Takes (cxOf (L2.CX P w) P w K mg base ["value", "size", "paths", "name"] "_law_told_right" (defScope (st 52)) f cdv A outer s H E) (fun cls d _ H => E cls d H) := takes_of rfl rfl rfl rfl
  have po : PassesOwn (model P w) (cxOf (L2.CX P w) P w K mg base ["value", "size", "paths", "name"] "_law_told_right" (defScope (st 52)) f cdv A outer s H E).A (cxOf (L2.CX P w) P w K mg base ["value", "size", "paths", "name"] "_law_told_right" (defScope (st 52)) f cdv A outer s H E).env (cxOf (L2.CX P w) P w K mg base ["value", "size", "paths", "name"] "_law_told_right" (defScope (st 52)) f cdv A outer s H E).xe := passes_of (X := cxOf (L2.CX P w) P w K mg base ["value", "size", "paths", "name"] "_law_told_right" (defScope (st 52)) f cdv A outer s H E) rfl
  exact (b_cons (s_set (i := 1) hN rfl (.inl rfl) (k_fn gx.a__law_layer_size hr tk rfl (k_bf (k_var (pe_var (i := 0) rfl (.inl rfl))) (k_bf k_int k_b0))))
    (b_cons (s_if (t_not (t_val (k_fn gx.a__law_is_bool hr tk rfl (k_bf (k_fn gx.a_is_tree hr tk rfl (k_bf (k_var (pe_var (i := 0) rfl (.inl rfl))) k_b0)) (k_bf (k_cmp u_le (k_fn gx.a__law_tree_size hr tk rfl (k_bf (k_var (pe_var (i := 0) rfl (.inl rfl))) (k_bf k_int k_b0))) k_int (nomark _)) k_b0))))) (b_one (s_ret (m_val k_bl))) b_nil)
    (b_cons (s_if (t_not (t_val (k_fn gx.a__law_is_bool hr tk rfl (k_bf (k_fn gx.a_is_layer hr tk rfl (k_bf (k_var (pe_var (i := 0) rfl (.inl rfl))) k_b0)) (k_bf (k_cmp u_le (pe_var (i := 1) rfl (.inl rfl)) k_int (nomark _)) k_b0))))) (b_one (s_ret (m_val k_bl))) b_nil)
    (b_cons (s_set (i := 2) hN rfl (.inl rfl) (k_and (k_fn gx.a__law_wide hr tk rfl (k_bf (k_var (pe_var (i := 0) rfl (.inl rfl))) (k_bf k_int (k_bf k_int k_b0)))) (k_one (k_cmp (u_eq (r200 hr)) (k_comp (own := [("name", 3)]) (b := false) rfl rfl hN (fun h => nomatch h) (by decide) (i_seq (k_var (pe_var (i := 0) rfl (.inl rfl)))) (blkOk_by (by kernel_rfl)) (fun _ _ _ _ _ => (g_one hN rfl (.inl rfl))) (fun _ _ _ _ _ => pts_one (t_not (t_val (k_fn gx.a__law_is_text hr Tl.takes0 rfl (k_bf (k_var (pe_var (i := 3) rfl (.inl rfl))) (k_bf k_int k_b0)))))) (fun _ _ _ _ _ => (k_var (pe_var (i := 3) rfl (.inl rfl))))) (k_lst k_v0 (by decide)) (nomark _)))))
    (b_cons (s_if (t_pw (w_or (t_not (t_val (k_fn gx.a__law_is_bool hr tk rfl (k_bf (k_fn gx.a_is_path hr tk rfl (k_bf (k_var (pe_var (i := 0) rfl (.inl rfl))) k_b0)) (k_bf (k_var (pe_var (i := 2) rfl (.inl rfl))) k_b0))))) (w_or1 (t_not (t_val (k_fn gx.a__law_is_bool hr tk rfl (k_bf (k_fn gx.a_is_claim hr tk rfl (k_bf (k_var (pe_var (i := 0) rfl (.inl rfl))) k_b0)) (k_bf (k_fn gx.a__law_good_claim hr tk rfl (k_bf (k_var (pe_var (i := 0) rfl (.inl rfl))) k_b0)) k_b0)))))))) (b_one (s_ret (m_val k_bl))) b_nil)
    (b_one (s_ret (m_val (k_cmp (u_eq (r200 hr)) (k_fn gx.a__law_counted hr tk rfl (k_bf (k_var (pe_var (i := 0) rfl (.inl rfl))) k_b0)) (k_ite (t_cmp u_le (pe_var (i := 1) rfl (.inl rfl)) k_int (nomark _)) (k_var (pe_var (i := 1) rfl (.inl rfl))) (k_str (by kernel_rfl) (by decide))) (nomark _))))))))))
theorem b_law (fx : Fx K mg ea) (gx : Gx P w K mg base ea Φ (k + 8)) {f : Addr} (cdv : Value) (A : Around) (outer : List PySem.Env) (s : Shared) (H : Hp) (E : XK) (hr : Room (k + 8) (A.deeper (PyProof.Rows.envOfC "law" (defScope (st 53)) s.heap.objs.size f cdv))) :
    BD (cxOf (L2.CX P w) P w K mg base ["script", "k", "source", "tree", "layer", "claim", "other", "values", "turn", "some", "odd", "value", "many", "sign", "deep", "rows"] "law" (defScope (st 53)) f cdv A outer s H E) (exA ea) (fun cls d _ H => E cls d H) Φ (lentIx 0 F39.lent) (defBody (st 53)) F39.body := by
  have hN : (["script", "k", "source", "tree", "layer", "claim", "other", "values", "turn", "some", "odd", "value", "many", "sign", "deep", "rows"] : List Str).Nodup := by decide +kernel
  have tk : Takes (cxOf (L2.CX P w) P w K mg base ["script", "k", "source", "tree", "layer", "claim", "other", "values", "turn", "some", "odd", "value", "many", "sign", "deep", "rows"] "law" (defScope (st 53)) f cdv A outer s H E) (fun cls d _ H => E cls d H) := takes_of rfl rfl rfl rfl
  have po : PassesOwn (model P w) (cxOf (L2.CX P w) P w K mg base ["script", "k", "source", "tree", "layer", "claim", "other", "values", "turn", "some", "odd", "value", "many", "sign", "deep", "rows"] "law" (defScope (st 53)) f cdv A outer s H E).A (cxOf (L2.CX P w) P w K mg base ["script", "k", "source", "tree", "layer", "claim", "other", "values", "turn", "some", "odd", "value", "many", "sign", "deep", "rows"] "law" (defScope (st 53)) f cdv A outer s H E).env (cxOf (L2.CX P w) P w K mg base ["script", "k", "source", "tree", "layer", "claim", "other", "values", "turn", "some", "odd", "value", "many", "sign", "deep", "rows"] "law" (defScope (st 53)) f cdv A outer s H E).xe := passes_of (X := cxOf (L2.CX P w) P w K mg base ["script", "k", "source", "tree", "layer", "claim", "other", "values", "turn", "some", "odd", "value", "many", "sign", "deep", "rows"] "law" (defScope (st 53)) f cdv A outer s H E) rfl
  exact (b_cons (s_for (b := false) po rfl (fun h => nomatch h) (i_rng1 rfl fx.n_range (k_cB (c_max2 rfl) rfl fx.n_max rfl (k_a k_int (k_a (k_cB (c_min2 rfl) rfl fx.n_min rfl (k_a k_int (k_a (k_cB c_len rfl fx.n_len rfl (k_a (pe_var (i := 0) rfl (.inl rfl)) k_a0)) k_a0))) k_a0)))) (g_one hN rfl (.inl rfl)) (b_cons (s_set (i := 2) hN rfl (.inl rfl) (k_fn gx.a__law_source hr tk rfl (k_bf (k_var (pe_var (i := 0) rfl (.inl rfl))) (k_bf (k_var (pe_var (i := 1) rfl (.inl rfl))) k_b0))))
    (b_cons (s_par2 rfl hN rfl rfl (by decide) rfl rfl (k_v (k_fn gx.a__law_tree hr tk rfl (k_bt (pe_var (i := 2) rfl (.inl rfl)) k_b0)) (k_v (k_fn gx.a__law_layer hr tk rfl (k_bt (pe_var (i := 2) rfl (.inl rfl)) k_b0)) k_v0)) rfl rfl)
    (b_cons (s_setT rfl (by decide) (g_cons hN rfl (.inl rfl) (g_cons hN rfl (.inl rfl) g_nil)) (k_tup (k_v (k_tup (k_v (k_tup (k_v (k_str (by kernel_rfl) (by decide)) (k_v (k_str (by kernel_rfl) (by decide)) k_v0)) (by decide)) (k_v (k_tup (k_v (k_str (by kernel_rfl) (by decide)) (k_v (k_str (by kernel_rfl) (by decide)) k_v0)) (by decide)) k_v0)) (by decide)) (k_v (k_tup (k_v (k_tup (k_v (k_str (by kernel_rfl) (by decide)) k_v0) (by decide)) (k_v (k_tup (k_v (k_str (by kernel_rfl) (by decide)) (k_v (k_str (by kernel_rfl) (by decide)) k_v0)) (by decide)) k_v0)) (by decide)) k_v0)) (by decide)))
    (b_cons (s_set (i := 7) hN rfl (.inl rfl) (k_lst (k_v (k_var (pe_var (i := 3) rfl (.inl rfl))) (k_v (k_var (pe_var (i := 4) rfl (.inl rfl))) (k_v (k_var (pe_var (i := 5) rfl (.inl rfl))) (k_v (k_cT c_list rfl fx.n_list rfl (k_a (pe_var (i := 3) rfl (.inl rfl)) k_a0)) (k_v (k_cT c_list rfl fx.n_list rfl (k_a (pe_var (i := 4) rfl (.inl rfl)) k_a0)) (k_v (k_bin u_mul (k_tup (k_v (k_str (by kernel_rfl) (by decide)) k_v0) (by decide)) k_int) (k_v (k_bin u_mul (k_tup (k_v (k_str (by kernel_rfl) (by decide)) k_v0) (by decide)) k_int) (k_v (k_tup k_v0 (by decide)) (k_v k_non k_v0))))))))) (by decide)))
    (b_cons (s_set (i := 7) hN rfl (.inl rfl) (k_bin u_add (pe_var (i := 7) rfl (.inl rfl)) (k_lst (k_v (k_str (by kernel_rfl) (by decide)) (k_v (k_idx (r1 hr) (pe_var (i := 5) rfl (.inl rfl)) k_int (fun _ _ => rfl)) (k_v (k_idx (r1 hr) (pe_var (i := 4) rfl (.inl rfl)) k_int (fun _ _ => rfl)) k_v0))) (by decide))))
    (b_cons (s_for (b := false) po rfl (fun h => nomatch h) (i_rng1 rfl fx.n_range k_int) (g_one hN rfl (.inl rfl)) (b_cons (s_set (i := 9) hN rfl (.inl rfl) (k_fn gx.a__law_chosen hr tk rfl (k_bt (pe_var (i := 2) rfl (.inl rfl)) (k_bf (k_lst (k_v (k_var (pe_var (i := 3) rfl (.inl rfl))) (k_v (k_var (pe_var (i := 4) rfl (.inl rfl))) (k_v (k_var (pe_var (i := 5) rfl (.inl rfl))) (k_v (k_var (pe_var (i := 6) rfl (.inl rfl))) k_v0)))) (by decide)) k_b0))))
    (b_cons (s_set (i := 10) hN rfl (.inl rfl) (k_fn gx.a__law_variant hr tk rfl (k_bt (pe_var (i := 2) rfl (.inl rfl)) (k_bf (k_var (pe_var (i := 9) rfl (.inl rfl))) (k_bf k_int k_b0)))))
    (b_cons (s_app (pe_var (i := 7) rfl (.inl rfl)) (k_var (pe_var (i := 10) rfl (.inl rfl))))
    (b_one (s_if (t_pw (w_and (t_val (k_is c_isTup rfl fx.n_isinstance rfl fx.n_tuple rfl (pe_var (i := 10) rfl (.inl rfl)))) (w_and1 (t_cmp (u_eq (r200 hr)) (k_fn gx.a__law_pick hr tk rfl (k_bt (pe_var (i := 2) rfl (.inl rfl)) (k_bf k_int k_b0))) k_int (nomark _))))) (b_one (s_app (pe_var (i := 7) rfl (.inl rfl)) (k_fn gx.a__law_variant hr tk rfl (k_bt (pe_var (i := 2) rfl (.inl rfl)) (k_bf (k_var (pe_var (i := 10) rfl (.inl rfl))) (k_bf k_int k_b0)))))) b_nil))))))
    (b_one (s_for (b := false) po rfl (fun h => nomatch h) (i_seq (k_bin u_add (pe_var (i := 7) rfl (.inl rfl)) (k_lst (k_v (k_fn gx.a__law_any_value hr tk rfl (k_bt (pe_var (i := 2) rfl (.inl rfl)) (k_bf k_int k_b0))) k_v0) (by decide)))) (g_one hN rfl (.inl rfl)) (b_one (s_if (t_not (t_val (k_fn gx.a__law_told_right hr tk rfl (k_bf (k_var (pe_var (i := 11) rfl (.inl rfl))) k_b0)))) (b_one (s_ret (m_val k_bl))) b_nil)))))))))))
    (b_cons (s_set (i := 12) hN rfl (.inl rfl) (k_cT c_tuple rfl fx.n_tuple rfl (k_a (k_comp (own := [("sign", 13)]) (b := false) rfl rfl hN (fun h => nomatch h) (by decide) (i_seq (k_str (by kernel_rfl) (by decide))) (blkOk_by (by kernel_rfl)) (fun _ _ _ _ _ => (g_one hN rfl (.inl rfl))) (fun _ _ _ _ _ => k_yes) (fun _ _ _ _ _ => (k_tup (k_v (k_bin u_add (k_str (by kernel_rfl) (by decide)) (pe_var (i := 13) rfl (.inl rfl))) (k_v (k_str (by kernel_rfl) (by decide)) k_v0)) (by decide)))) k_a0)))
    (b_cons (s_set (i := 14) hN rfl (.inl rfl) (k_lst (k_v (k_tup (k_v k_bl (k_v (k_tup k_v0 (by decide)) k_v0)) (by decide)) k_v0) (by decide)))
    (b_cons (s_for (b := false) po rfl (fun h => nomatch h) (i_rng1 rfl fx.n_range k_int) (g_one hN rfl (.inl rfl)) (b_one (s_app (pe_var (i := 14) rfl (.inl rfl)) (k_tup (k_v k_bl (k_v (k_tup (k_v (k_tup (k_v (k_str (by kernel_rfl) (by decide)) (k_v (k_idx (r1 hr) (pe_var (i := 14) rfl (.inl rfl)) (k_un u_neg k_int) (fun _ _ => rfl)) k_v0)) (by decide)) k_v0) (by decide)) k_v0)) (by decide)))))
    (b_cons (s_set (i := 15) hN rfl (.inl rfl) (k_bin u_add (pe_var (i := 14) rfl (.inl rfl)) (k_lst (k_v (k_tup (k_v k_bl (k_v (k_var (pe_var (i := 12) rfl (.inl rfl))) k_v0)) (by decide)) (k_v (k_tup (k_v k_bl (k_v (k_slL (pe_var (i := 12) rfl (.inl rfl)) k_int) k_v0)) (by decide)) (k_v (k_tup (k_v k_bl (k_v (k_tup (k_v (k_tup (k_v (k_str (by kernel_rfl) (by decide)) (k_v k_non k_v0)) (by decide)) (k_v (k_tup (k_v (k_str (by kernel_rfl) (by decide)) (k_v k_non k_v0)) (by decide)) k_v0)) (by decide)) k_v0)) (by decide)) k_v0))) (by decide))))
    (b_cons (s_set (i := 15) hN rfl (.inl rfl) (k_bin u_add (pe_var (i := 15) rfl (.inl rfl)) (k_lst (k_v (k_tup (k_v k_int (k_v (k_tup k_v0 (by decide)) k_v0)) (by decide)) (k_v (k_tup (k_v k_bl (k_v (k_tup (k_v (k_tup (k_v (k_str (by kernel_rfl) (by decide)) (k_v k_non k_v0)) (by decide)) k_v0) (by decide)) k_v0)) (by decide)) (k_v (k_tup (k_v (k_tup (k_v (k_str (by kernel_rfl) (by decide)) (k_v (k_bin u_mul (k_str (by kernel_rfl) (by decide)) k_int) k_v0)) (by decide)) k_v0) (by decide)) (k_v (k_tup (k_v (k_tup (k_v (k_str (by kernel_rfl) (by decide)) (k_v (k_bin u_mul (k_str (by kernel_rfl) (by decide)) k_int) k_v0)) (by decide)) k_v0) (by decide)) k_v0)))) (by decide))))
    (b_cons (s_set (i := 15) hN rfl (.inl rfl) (k_bin u_add (pe_var (i := 15) rfl (.inl rfl)) (k_lst (k_v (k_tup (k_v (k_tup (k_v (k_str (by kernel_rfl) (by decide)) (k_v (k_tup k_v0 (by decide)) k_v0)) (by decide)) (k_v (k_tup (k_v (k_str (by kernel_rfl) (by decide)) (k_v (k_tup k_v0 (by decide)) k_v0)) (by decide)) k_v0)) (by decide)) (k_v (k_tup (k_v (k_tup (k_v (k_str (by kernel_rfl) (by decide)) (k_v (k_tup (k_v (k_tup (k_v (k_str (by kernel_rfl) (by decide)) (k_v (k_var (pe_var (i := 12) rfl (.inl rfl))) k_v0)) (by decide)) (k_v (k_tup (k_v (k_str (by kernel_rfl) (by decide)) (k_v (k_var (pe_var (i := 12) rfl (.inl rfl))) k_v0)) (by decide)) k_v0)) (by decide)) k_v0)) (by decide)) k_v0) (by decide)) k_v0)) (by decide))))
    (b_cons (s_app (pe_var (i := 15) rfl (.inl rfl)) (k_tup (k_v k_bl (k_v (k_tup (k_v (k_tup (k_v (k_str (by kernel_rfl) (by decide)) (k_v (k_tup (k_v k_bl (k_v (k_slH (pe_var (i := 12) rfl (.inl rfl)) k_int) k_v0)) (by decide)) k_v0)) (by decide)) (k_v (k_tup (k_v (k_str (by kernel_rfl) (by decide)) (k_v (k_tup (k_v k_bl (k_v (k_slH (pe_var (i := 12) rfl (.inl rfl)) k_int) k_v0)) (by decide)) k_v0)) (by decide)) k_v0)) (by decide)) k_v0)) (by decide)))
    (b_cons (s_set (i := 15) hN rfl (.inl rfl) (k_bin u_add (pe_var (i := 15) rfl (.inl rfl)) (k_lst (k_v (k_tup (k_v (k_tup (k_v (k_str (by kernel_rfl) (by decide)) (k_v (k_tup (k_v (k_tup (k_v (k_str (by kernel_rfl) (by decide)) (k_v (k_var (pe_var (i := 12) rfl (.inl rfl))) k_v0)) (by decide)) (k_v (k_tup (k_v (k_str (by kernel_rfl) (by decide)) (k_v (k_var (pe_var (i := 12) rfl (.inl rfl))) k_v0)) (by decide)) (k_v (k_tup (k_v (k_str (by kernel_rfl) (by decide)) (k_v (k_slH (pe_var (i := 12) rfl (.inl rfl)) k_int) k_v0)) (by decide)) k_v0))) (by decide)) k_v0)) (by decide)) k_v0) (by decide)) (k_v (k_fn gx.a__law_chain hr tk rfl (k_bf (k_bin u_mul (k_tup (k_v (k_str (by kernel_rfl) (by decide)) k_v0) (by decide)) k_int) (k_bf (k_tup k_v0 (by decide)) k_b0))) k_v0)) (by decide))))
    (b_cons (s_set (i := 15) hN rfl (.inl rfl) (k_bin u_add (pe_var (i := 15) rfl (.inl rfl)) (k_lst (k_v (k_fn gx.a__law_chain hr tk rfl (k_bf (k_bin u_mul (k_tup (k_v (k_str (by kernel_rfl) (by decide)) k_v0) (by decide)) k_int) (k_bf (k_tup k_v0 (by decide)) k_b0))) (k_v (k_fn gx.a__law_chain hr tk rfl (k_bf (k_bin u_mul (k_tup (k_v (k_str (by kernel_rfl) (by decide)) k_v0) (by decide)) k_int) (k_bf (k_str (by kernel_rfl) (by decide)) k_b0))) (k_v (k_tup (k_v (k_bin u_mul (k_tup (k_v (k_str (by kernel_rfl) (by decide)) k_v0) (by decide)) k_int) (k_v (k_tup (k_v (k_str (by kernel_rfl) (by decide)) k_v0) (by decide)) k_v0)) (by decide)) k_v0))) (by decide))))
    (b_cons (s_set (i := 15) hN rfl (.inl rfl) (k_bin u_add (pe_var (i := 15) rfl (.inl rfl)) (k_lst (k_v (k_tup (k_v (k_tup (k_v (k_str (by kernel_rfl) (by decide)) k_v0) (by decide)) (k_v (k_tup (k_v (k_str (by kernel_rfl) (by decide)) (k_v (k_str (by kernel_rfl) (by decide)) k_v0)) (by decide)) k_v0)) (by decide)) (k_v (k_tup (k_v (k_tup (k_v (k_str (by kernel_rfl) (by decide)) k_v0) (by decide)) (k_v (k_tup (k_v (k_str (by kernel_rfl) (by decide)) k_v0) (by decide)) k_v0)) (by decide)) (k_v (k_tup (k_v (k_tup (k_v (k_str (by kernel_rfl) (by decide)) k_v0) (by decide)) (k_v (k_tup (k_v (k_str (by kernel_rfl) (by decide)) (k_v (k_str (by kernel_rfl) (by decide)) k_v0)) (by decide)) k_v0)) (by decide)) k_v0))) (by decide))))
    (b_one (s_ret (m_val (k_cmp (u_eq (r200 hr)) (k_comp (own := [("value", 11)]) (b := false) rfl rfl hN (fun h => nomatch h) (by decide) (i_seq (k_var (pe_var (i := 15) rfl (.inl rfl)))) (blkOk_by (by kernel_rfl)) (fun _ _ _ _ _ => (g_one hN rfl (.inl rfl))) (fun _ _ _ _ _ => pts_one (t_not (t_val (k_fn gx.a__law_told_right hr Tl.takes0 rfl (k_bf (k_var (pe_var (i := 11) rfl (.inl rfl))) k_b0))))) (fun _ _ _ _ _ => (k_var (pe_var (i := 11) rfl (.inl rfl))))) (k_lst k_v0 (by decide)) (nomark _))))))))))))))))
end
end K01
end
section
set_option Elab.async false
set_option linter.all false
set_option maxRecDepth 100000
set_option maxHeartbeats 0
namespace K01
open PySem PySem.Spec L2 Tl
def d_is_word : He.DefD := ⟨("is_word", none), "is_word", "is_word", defArgs (st 7), defBody (st 7), defScope (st 7), [], []⟩
def d_is_name : He.DefD := ⟨("is_name", none), "is_name", "is_name", defArgs (st 8), defBody (st 8), defScope (st 8), [], []⟩
def d_is_content : He.DefD := ⟨("is_content", none), "is_content", "is_content", defArgs (st 9), defBody (st 9), defScope (st 9), [], []⟩
def d_are_pairs : He.DefD := ⟨("are_pairs", none), "are_pairs", "are_pairs", defArgs (st 10), defBody (st 10), defScope (st 10), [], []⟩
def d_is_folder : He.DefD := ⟨("is_folder", none), "is_folder", "is_folder", defArgs (st 11), defBody (st 11), defScope (st 11), [], []⟩
def d_count_pairs : He.DefD := ⟨("count_pairs", none), "count_pairs", "count_pairs", defArgs (st 12), defBody (st 12), defScope (st 12), [], []⟩
def d_is_right_tree : He.DefD := ⟨("is_right_tree", none), "is_right_tree", "is_right_tree", defArgs (st 13), defBody (st 13), defScope (st 13), [], []⟩
def d_is_names : He.DefD := ⟨("is_names", none), "is_names", "is_names", defArgs (st 14), defBody (st 14), defScope (st 14), [], []⟩
def d_is_tree : He.DefD := ⟨("is_tree", none), "is_tree", "is_tree", defArgs (st 15), defBody (st 15), defScope (st 15), [], []⟩
def d_is_path : He.DefD := ⟨("is_path", none), "is_path", "is_path", defArgs (st 16), defBody (st 16), defScope (st 16), [], []⟩
def d_is_entry : He.DefD := ⟨("is_entry", none), "is_entry", "is_entry", defArgs (st 20), defBody (st 20), defScope (st 20), [], []⟩
def d_is_layer_so : He.DefD := ⟨("is_layer_so", none), "is_layer_so", "is_layer_so", defArgs (st 21), defBody (st 21), defScope (st 21), [], []⟩
def d_places_in : He.DefD := ⟨("places_in", none), "places_in", "places_in", defArgs (st 22), defBody (st 22), defScope (st 22), [], []⟩
def d_entries_in : He.DefD := ⟨("entries_in", none), "entries_in", "entries_in", defArgs (st 23), defBody (st 23), defScope (st 23), [], []⟩
def d_is_right_layer : He.DefD := ⟨("is_right_layer", none), "is_right_layer", "is_right_layer", defArgs (st 24), defBody (st 24), defScope (st 24), [], []⟩
def d_need_layer : He.DefD := ⟨("need_layer", none), "need_layer", "need_layer", defArgs (st 25), defBody (st 25), defScope (st 25), [], []⟩
def d_is_layer : He.DefD := ⟨("is_layer", none), "is_layer", "is_layer", defArgs (st 26), defBody (st 26), defScope (st 26), [], []⟩
def d_count_entries : He.DefD := ⟨("count_entries", none), "count_entries", "count_entries", defArgs (st 27), defBody (st 27), defScope (st 27), [], []⟩
def d_is_right_claim : He.DefD := ⟨("is_right_claim", none), "is_right_claim", "is_right_claim", defArgs (st 31), defBody (st 31), defScope (st 31), [], []⟩
def d_is_claim : He.DefD := ⟨("is_claim", none), "is_claim", "is_claim", defArgs (st 32), defBody (st 32), defScope (st 32), [], []⟩
def d__law_source : He.DefD := ⟨("_law_source", none), "_law_source", "_law_source", defArgs (st 34), defBody (st 34), defScope (st 34), [], []⟩
def d__law_pick : He.DefD := ⟨("_law_pick", none), "_law_pick", "_law_pick", defArgs (st 35), defBody (st 35), defScope (st 35), [], []⟩
def d__law_chosen : He.DefD := ⟨("_law_chosen", none), "_law_chosen", "_law_chosen", defArgs (st 36), defBody (st 36), defScope (st 36), [], []⟩
def d__law_is_bool : He.DefD := ⟨("_law_is_bool", none), "_law_is_bool", "_law_is_bool", defArgs (st 37), defBody (st 37), defScope (st 37), [], []⟩
def d__law_wide : He.DefD := ⟨("_law_wide", none), "_law_wide", "_law_wide", defArgs (st 38), defBody (st 38), defScope (st 38), [], []⟩
def d__law_any_value : He.DefD := ⟨("_law_any_value", none), "_law_any_value", "_law_any_value", defArgs (st 39), defBody (st 39), defScope (st 39), [], []⟩
def d__law_variant : He.DefD := ⟨("_law_variant", none), "_law_variant", "_law_variant", defArgs (st 40), defBody (st 40), defScope (st 40), [], []⟩
def d__law_is_text : He.DefD := ⟨("_law_is_text", none), "_law_is_text", "_law_is_text", defArgs (st 41), defBody (st 41), defScope (st 41), [], []⟩
def d__law_is_pairs : He.DefD := ⟨("_law_is_pairs", none), "_law_is_pairs", "_law_is_pairs", defArgs (st 42), defBody (st 42), defScope (st 42), [], []⟩
def d__law_tree_size : He.DefD := ⟨("_law_tree_size", none), "_law_tree_size", "_law_tree_size", defArgs (st 43), defBody (st 43), defScope (st 43), [], []⟩
def d__law_layer_size : He.DefD := ⟨("_law_layer_size", none), "_law_layer_size", "_law_layer_size", defArgs (st 44), defBody (st 44), defScope (st 44), [], []⟩
def d__law_sheet : He.DefD := ⟨("_law_sheet", none), "_law_sheet", "_law_sheet", defArgs (st 45), defBody (st 45), defScope (st 45), [], []⟩
def d__law_layer : He.DefD := ⟨("_law_layer", none), "_law_layer", "_law_layer", defArgs (st 46), defBody (st 46), defScope (st 46), [], []⟩
def d__law_node : He.DefD := ⟨("_law_node", none), "_law_node", "_law_node", defArgs (st 47), defBody (st 47), defScope (st 47), [], []⟩
def d__law_tree : He.DefD := ⟨("_law_tree", none), "_law_tree", "_law_tree", defArgs (st 48), defBody (st 48), defScope (st 48), [], []⟩
def d__law_chain : He.DefD := ⟨("_law_chain", none), "_law_chain", "_law_chain", defArgs (st 49), defBody (st 49), defScope (st 49), [], []⟩
def d__law_good_claim : He.DefD := ⟨("_law_good_claim", none), "_law_good_claim", "_law_good_claim", defArgs (st 50), defBody (st 50), defScope (st 50), [], []⟩
def d__law_counted : He.DefD := ⟨("_law_counted", none), "_law_counted", "_law_counted", defArgs (st 51), defBody (st 51), defScope (st 51), [], []⟩
def d__law_told_right : He.DefD := ⟨("_law_told_right", none), "_law_told_right", "_law_told_right", defArgs (st 52), defBody (st 52), defScope (st 52), [], []⟩
def d_law : He.DefD := ⟨("law", none), "law", "law", defArgs (st 53), defBody (st 53), defScope (st 53), [], []⟩
def fn : List He.DefD := ([d_is_word, d_is_name, d_is_content, d_are_pairs, d_is_folder, d_count_pairs, d_is_right_tree, d_is_names, d_is_tree, d_is_path, d_is_entry, d_is_layer_so, d_places_in, d_entries_in, d_is_right_layer, d_need_layer, d_is_layer, d_count_entries, d_is_right_claim, d_is_claim, d__law_source, d__law_pick, d__law_chosen, d__law_is_bool, d__law_wide, d__law_any_value, d__law_variant, d__law_is_text, d__law_is_pairs, d__law_tree_size] : List He.DefD) ++ ([d__law_layer_size, d__law_sheet, d__law_layer, d__law_node, d__law_tree, d__law_chain, d__law_good_claim, d__law_counted, d__law_told_right, d_law] : List He.DefD)
def fa : List He.Fa := ([.glo "is_word", .glo "is_name", .glo "is_content", .glo "are_pairs", .glo "is_folder", .glo "count_pairs", .glo "is_right_tree", .glo "is_names", .glo "is_tree", .glo "is_path", .glo "is_entry", .glo "is_layer_so", .glo "places_in", .glo "entries_in", .glo "is_right_layer", .glo "need_layer", .glo "is_layer", .glo "count_entries", .glo "is_right_claim", .glo "is_claim", .glo "_law_source", .glo "_law_pick", .glo "_law_chosen", .glo "_law_is_bool", .glo "_law_wide", .glo "_law_any_value", .glo "_law_variant", .glo "_law_is_text", .glo "_law_is_pairs", .glo "_law_tree_size"] : List He.Fa) ++ ([.glo "_law_layer_size", .glo "_law_sheet", .glo "_law_layer", .glo "_law_node", .glo "_law_tree", .glo "_law_chain", .glo "_law_good_claim", .glo "_law_counted", .glo "_law_told_right", .glo "law", .free "all", .free "bool", .free "int", .free "isinstance", .free "len", .free "list", .free "max", .free "min", .free "range", .free "set", .free "sorted", .free "str", .free "tuple", .str "LETTERS" "abcdefghijklmnopqrstuvwxyz", .int "MOST_DEEP_layers" 4, .int "MOST_DEEP_trees" 6, .int "MOST_ENTRIES" 16, .int "MOST_NAMES" 4, .int "MOST_PAIRS" 40, .glo "WORDS"] : List He.Fa) ++ ([.glo "LayerError", .glo "InvalidLayer", .exc "InvalidLayer", .exm "LayerError" "InvalidLayer" false, .exm "InvalidLayer" "InvalidLayer" true] : List He.Fa)
def tups : List (Str × List He.Dv) := [("WORDS", [.str "file", .str "folder", .str "nothing"])]
def more (K : PySem.W.Frag) : Bool := tups.all fun q => tupN K q.1 q.2
def eaN (K : PySem.W.Frag) : Nat → Addr
  | 0 => He.ga K "LayerError"
  | 1 => He.ga K "InvalidLayer"
  | _ => 0
abbrev R : PySem.W.OpenRow := PySem.W.OpenLaw.row PySem.Challenge.rw_treelayers_k01_trees_layers_and_claims_r
abbrev hk : PySem.W.Hook := He.hookX 4 fa fn [] [] more
def ob (s : PySem.W.SharedT) : He.AlX := He.obsX 4 fa fn [] [] more (HandSHeadRun.getT s)
theorem ob_eq (s : PySem.W.SharedT) : ob s = hk.obs s.abs := He.obsX_eq (HandSHeadRun.getT_eq s)
def names : List Str := (["LayerError", "InvalidLayer", "LETTERS", "MOST_PAIRS", "MOST_DEEP_trees", "is_word", "is_name", "is_content", "are_pairs", "is_folder", "count_pairs", "is_right_tree", "is_names", "is_tree", "is_path", "MOST_ENTRIES", "MOST_DEEP_layers", "is_entry", "is_layer_so", "places_in", "entries_in", "is_right_layer", "need_layer", "is_layer", "count_entries", "MOST_NAMES", "WORDS", "is_right_claim", "is_claim", "_law_source"] : List Str) ++ (["_law_pick", "_law_chosen", "_law_is_bool", "_law_wide", "_law_any_value", "_law_variant", "_law_is_text", "_law_is_pairs", "_law_tree_size", "_law_layer_size", "_law_sheet", "_law_layer", "_law_node", "_law_tree", "_law_chain", "_law_good_claim", "_law_counted", "_law_told_right"] : List Str)
theorem run (w : World) : HandSHeadRun.RunEq R (PySem.W.view R.prog [53]) hk ob 4000 names w := by
  intro os
  kernel_rfl
section
variable {P : Program} {w : World} {K : PySem.W.Frag} {mg : Str → Option Value} {base h : Heap}
theorem fx_of (X : K.In h) (G : h.Ns mainGlobals mg) (c : He.SaysX fa fn [] [] more w h K) : Fx K mg (eaN K) := by
  have d := c.t.d
  exact ⟨He.free_ok X G (d.fact 40 (f := .free "all") rfl),
    He.free_ok X G (d.fact 41 (f := .free "bool") rfl),
    He.free_ok X G (d.fact 42 (f := .free "int") rfl),
    He.free_ok X G (d.fact 43 (f := .free "isinstance") rfl),
    He.free_ok X G (d.fact 44 (f := .free "len") rfl),
    He.free_ok X G (d.fact 45 (f := .free "list") rfl),
    He.free_ok X G (d.fact 46 (f := .free "max") rfl),
    He.free_ok X G (d.fact 47 (f := .free "min") rfl),
    He.free_ok X G (d.fact 48 (f := .free "range") rfl),
    He.free_ok X G (d.fact 49 (f := .free "set") rfl),
    He.free_ok X G (d.fact 50 (f := .free "sorted") rfl),
    He.free_ok X G (d.fact 51 (f := .free "str") rfl),
    He.free_ok X G (d.fact 52 (f := .free "tuple") rfl),
    (by have := He.str_ok X G (d.fact 53 (f := .str "LETTERS" "abcdefghijklmnopqrstuvwxyz") rfl); exact this),
    He.int_ok X G (d.fact 54 (f := .int "MOST_DEEP_layers" 4) rfl),
    He.int_ok X G (d.fact 55 (f := .int "MOST_DEEP_trees" 6) rfl),
    He.int_ok X G (d.fact 56 (f := .int "MOST_ENTRIES" 16) rfl),
    He.int_ok X G (d.fact 57 (f := .int "MOST_NAMES" 4) rfl),
    He.int_ok X G (d.fact 58 (f := .int "MOST_PAIRS" 40) rfl),
    ⟨He.ga K "WORDS", He.glo_ok X G (d.fact 59 (f := .glo "WORDS") rfl), fun Z => .tup (tupN_ok (List.all_eq_true.mp c.more _ (List.mem_of_getElem? (show tups[0]? = some _ from rfl)))) (.cons (.str [102, 105, 108, 101] (asc_of (by decide))) (.cons (.str [102, 111, 108, 100, 101, 114] (asc_of (by decide))) (.cons (.str [110, 111, 116, 104, 105, 110, 103] (asc_of (by decide))) (.nil))))⟩,
    (by obtain ⟨h1, h2, h3, h4⟩ := He.exc_ok (d.fact 62 (f := .exc "InvalidLayer") rfl); exact ⟨h1, He.glo_ok X G (d.fact 61 (f := .glo "InvalidLayer") rfl), h2, h3, h4⟩),
    (fun x hx y hy0 hy => match x, hx, y, hy0, hy with
    | 0, _, 1, _, _ => He.exm_ok (d.fact 63 (f := .exm "LayerError" "InvalidLayer" false) rfl)
    | 1, _, 1, _, _ => He.exm_ok (d.fact 64 (f := .exm "InvalidLayer" "InvalidLayer" true) rfl)
    | _, _, 0, h, _ => absurd rfl h
    | 0, _, y + 2, _, h => absurd h (by omega)
    | 1, _, y + 2, _, h => absurd h (by omega)
    | x + 2, h, _, _, _ => absurd h (by omega))⟩
structure Dx (K : PySem.W.Frag) (mg : Str → Option Value) : Prop where
  d_is_word : mg "is_word" = some (.ref (He.ga K "is_word")) ∧ ∃ fd, FunD K "is_word" "is_word" (defArgs (st 7)) (defBody (st 7)) (defScope (st 7)) [] [] (He.ga K "is_word") fd
  d_is_name : mg "is_name" = some (.ref (He.ga K "is_name")) ∧ ∃ fd, FunD K "is_name" "is_name" (defArgs (st 8)) (defBody (st 8)) (defScope (st 8)) [] [] (He.ga K "is_name") fd
  d_is_content : mg "is_content" = some (.ref (He.ga K "is_content")) ∧ ∃ fd, FunD K "is_content" "is_content" (defArgs (st 9)) (defBody (st 9)) (defScope (st 9)) [] [] (He.ga K "is_content") fd
  d_are_pairs : mg "are_pairs" = some (.ref (He.ga K "are_pairs")) ∧ ∃ fd, FunD K "are_pairs" "are_pairs" (defArgs (st 10)) (defBody (st 10)) (defScope (st 10)) [] [] (He.ga K "are_pairs") fd
  d_is_folder : mg "is_folder" = some (.ref (He.ga K "is_folder")) ∧ ∃ fd, FunD K "is_folder" "is_folder" (defArgs (st 11)) (defBody (st 11)) (defScope (st 11)) [] [] (He.ga K "is_folder") fd
  d_count_pairs : mg "count_pairs" = some (.ref (He.ga K "count_pairs")) ∧ ∃ fd, FunD K "count_pairs" "count_pairs" (defArgs (st 12)) (defBody (st 12)) (defScope (st 12)) [] [] (He.ga K "count_pairs") fd
  d_is_right_tree : mg "is_right_tree" = some (.ref (He.ga K "is_right_tree")) ∧ ∃ fd, FunD K "is_right_tree" "is_right_tree" (defArgs (st 13)) (defBody (st 13)) (defScope (st 13)) [] [] (He.ga K "is_right_tree") fd
  d_is_names : mg "is_names" = some (.ref (He.ga K "is_names")) ∧ ∃ fd, FunD K "is_names" "is_names" (defArgs (st 14)) (defBody (st 14)) (defScope (st 14)) [] [] (He.ga K "is_names") fd
  d_is_tree : mg "is_tree" = some (.ref (He.ga K "is_tree")) ∧ ∃ fd, FunD K "is_tree" "is_tree" (defArgs (st 15)) (defBody (st 15)) (defScope (st 15)) [] [] (He.ga K "is_tree") fd
  d_is_path : mg "is_path" = some (.ref (He.ga K "is_path")) ∧ ∃ fd, FunD K "is_path" "is_path" (defArgs (st 16)) (defBody (st 16)) (defScope (st 16)) [] [] (He.ga K "is_path") fd
  d_is_entry : mg "is_entry" = some (.ref (He.ga K "is_entry")) ∧ ∃ fd, FunD K "is_entry" "is_entry" (defArgs (st 20)) (defBody (st 20)) (defScope (st 20)) [] [] (He.ga K "is_entry") fd
  d_is_layer_so : mg "is_layer_so" = some (.ref (He.ga K "is_layer_so")) ∧ ∃ fd, FunD K "is_layer_so" "is_layer_so" (defArgs (st 21)) (defBody (st 21)) (defScope (st 21)) [] [] (He.ga K "is_layer_so") fd
  d_places_in : mg "places_in" = some (.ref (He.ga K "places_in")) ∧ ∃ fd, FunD K "places_in" "places_in" (defArgs (st 22)) (defBody (st 22)) (defScope (st 22)) [] [] (He.ga K "places_in") fd
  d_entries_in : mg "entries_in" = some (.ref (He.ga K "entries_in")) ∧ ∃ fd, FunD K "entries_in" "entries_in" (defArgs (st 23)) (defBody (st 23)) (defScope (st 23)) [] [] (He.ga K "entries_in") fd
  d_is_right_layer : mg "is_right_layer" = some (.ref (He.ga K "is_right_layer")) ∧ ∃ fd, FunD K "is_right_layer" "is_right_layer" (defArgs (st 24)) (defBody (st 24)) (defScope (st 24)) [] [] (He.ga K "is_right_layer") fd
  d_need_layer : mg "need_layer" = some (.ref (He.ga K "need_layer")) ∧ ∃ fd, FunD K "need_layer" "need_layer" (defArgs (st 25)) (defBody (st 25)) (defScope (st 25)) [] [] (He.ga K "need_layer") fd
  d_is_layer : mg "is_layer" = some (.ref (He.ga K "is_layer")) ∧ ∃ fd, FunD K "is_layer" "is_layer" (defArgs (st 26)) (defBody (st 26)) (defScope (st 26)) [] [] (He.ga K "is_layer") fd
  d_count_entries : mg "count_entries" = some (.ref (He.ga K "count_entries")) ∧ ∃ fd, FunD K "count_entries" "count_entries" (defArgs (st 27)) (defBody (st 27)) (defScope (st 27)) [] [] (He.ga K "count_entries") fd
  d_is_right_claim : mg "is_right_claim" = some (.ref (He.ga K "is_right_claim")) ∧ ∃ fd, FunD K "is_right_claim" "is_right_claim" (defArgs (st 31)) (defBody (st 31)) (defScope (st 31)) [] [] (He.ga K "is_right_claim") fd
  d_is_claim : mg "is_claim" = some (.ref (He.ga K "is_claim")) ∧ ∃ fd, FunD K "is_claim" "is_claim" (defArgs (st 32)) (defBody (st 32)) (defScope (st 32)) [] [] (He.ga K "is_claim") fd
  d__law_source : mg "_law_source" = some (.ref (He.ga K "_law_source")) ∧ ∃ fd, FunD K "_law_source" "_law_source" (defArgs (st 34)) (defBody (st 34)) (defScope (st 34)) [] [] (He.ga K "_law_source") fd
  d__law_pick : mg "_law_pick" = some (.ref (He.ga K "_law_pick")) ∧ ∃ fd, FunD K "_law_pick" "_law_pick" (defArgs (st 35)) (defBody (st 35)) (defScope (st 35)) [] [] (He.ga K "_law_pick") fd
  d__law_chosen : mg "_law_chosen" = some (.ref (He.ga K "_law_chosen")) ∧ ∃ fd, FunD K "_law_chosen" "_law_chosen" (defArgs (st 36)) (defBody (st 36)) (defScope (st 36)) [] [] (He.ga K "_law_chosen") fd
  d__law_is_bool : mg "_law_is_bool" = some (.ref (He.ga K "_law_is_bool")) ∧ ∃ fd, FunD K "_law_is_bool" "_law_is_bool" (defArgs (st 37)) (defBody (st 37)) (defScope (st 37)) [] [] (He.ga K "_law_is_bool") fd
  d__law_wide : mg "_law_wide" = some (.ref (He.ga K "_law_wide")) ∧ ∃ fd, FunD K "_law_wide" "_law_wide" (defArgs (st 38)) (defBody (st 38)) (defScope (st 38)) [] [] (He.ga K "_law_wide") fd
  d__law_any_value : mg "_law_any_value" = some (.ref (He.ga K "_law_any_value")) ∧ ∃ fd, FunD K "_law_any_value" "_law_any_value" (defArgs (st 39)) (defBody (st 39)) (defScope (st 39)) [] [] (He.ga K "_law_any_value") fd
  d__law_variant : mg "_law_variant" = some (.ref (He.ga K "_law_variant")) ∧ ∃ fd, FunD K "_law_variant" "_law_variant" (defArgs (st 40)) (defBody (st 40)) (defScope (st 40)) [] [] (He.ga K "_law_variant") fd
  d__law_is_text : mg "_law_is_text" = some (.ref (He.ga K "_law_is_text")) ∧ ∃ fd, FunD K "_law_is_text" "_law_is_text" (defArgs (st 41)) (defBody (st 41)) (defScope (st 41)) [] [] (He.ga K "_law_is_text") fd
  d__law_is_pairs : mg "_law_is_pairs" = some (.ref (He.ga K "_law_is_pairs")) ∧ ∃ fd, FunD K "_law_is_pairs" "_law_is_pairs" (defArgs (st 42)) (defBody (st 42)) (defScope (st 42)) [] [] (He.ga K "_law_is_pairs") fd
  d__law_tree_size : mg "_law_tree_size" = some (.ref (He.ga K "_law_tree_size")) ∧ ∃ fd, FunD K "_law_tree_size" "_law_tree_size" (defArgs (st 43)) (defBody (st 43)) (defScope (st 43)) [] [] (He.ga K "_law_tree_size") fd
  d__law_layer_size : mg "_law_layer_size" = some (.ref (He.ga K "_law_layer_size")) ∧ ∃ fd, FunD K "_law_layer_size" "_law_layer_size" (defArgs (st 44)) (defBody (st 44)) (defScope (st 44)) [] [] (He.ga K "_law_layer_size") fd
  d__law_sheet : mg "_law_sheet" = some (.ref (He.ga K "_law_sheet")) ∧ ∃ fd, FunD K "_law_sheet" "_law_sheet" (defArgs (st 45)) (defBody (st 45)) (defScope (st 45)) [] [] (He.ga K "_law_sheet") fd
  d__law_layer : mg "_law_layer" = some (.ref (He.ga K "_law_layer")) ∧ ∃ fd, FunD K "_law_layer" "_law_layer" (defArgs (st 46)) (defBody (st 46)) (defScope (st 46)) [] [] (He.ga K "_law_layer") fd
  d__law_node : mg "_law_node" = some (.ref (He.ga K "_law_node")) ∧ ∃ fd, FunD K "_law_node" "_law_node" (defArgs (st 47)) (defBody (st 47)) (defScope (st 47)) [] [] (He.ga K "_law_node") fd
  d__law_tree : mg "_law_tree" = some (.ref (He.ga K "_law_tree")) ∧ ∃ fd, FunD K "_law_tree" "_law_tree" (defArgs (st 48)) (defBody (st 48)) (defScope (st 48)) [] [] (He.ga K "_law_tree") fd
  d__law_chain : mg "_law_chain" = some (.ref (He.ga K "_law_chain")) ∧ ∃ fd, FunD K "_law_chain" "_law_chain" (defArgs (st 49)) (defBody (st 49)) (defScope (st 49)) [] [] (He.ga K "_law_chain") fd
  d__law_good_claim : mg "_law_good_claim" = some (.ref (He.ga K "_law_good_claim")) ∧ ∃ fd, FunD K "_law_good_claim" "_law_good_claim" (defArgs (st 50)) (defBody (st 50)) (defScope (st 50)) [] [] (He.ga K "_law_good_claim") fd
  d__law_counted : mg "_law_counted" = some (.ref (He.ga K "_law_counted")) ∧ ∃ fd, FunD K "_law_counted" "_law_counted" (defArgs (st 51)) (defBody (st 51)) (defScope (st 51)) [] [] (He.ga K "_law_counted") fd
  d__law_told_right : mg "_law_told_right" = some (.ref (He.ga K "_law_told_right")) ∧ ∃ fd, FunD K "_law_told_right" "_law_told_right" (defArgs (st 52)) (defBody (st 52)) (defScope (st 52)) [] [] (He.ga K "_law_told_right") fd
  d_law : mg "law" = some (.ref (He.ga K "law")) ∧ ∃ fd, FunD K "law" "law" (defArgs (st 53)) (defBody (st 53)) (defScope (st 53)) [] [] (He.ga K "law") fd
theorem dx_of (X : K.In h) (G : h.Ns mainGlobals mg) (c : He.SaysX fa fn [] [] more w h K) : Dx K mg :=
  ⟨⟨He.glo_ok X G (c.t.d.fact 0 (f := .glo "is_word") rfl), c.t.d.def_ 0 (d := d_is_word) rfl⟩,
    ⟨He.glo_ok X G (c.t.d.fact 1 (f := .glo "is_name") rfl), c.t.d.def_ 1 (d := d_is_name) rfl⟩,
    ⟨He.glo_ok X G (c.t.d.fact 2 (f := .glo "is_content") rfl), c.t.d.def_ 2 (d := d_is_content) rfl⟩,
    ⟨He.glo_ok X G (c.t.d.fact 3 (f := .glo "are_pairs") rfl), c.t.d.def_ 3 (d := d_are_pairs) rfl⟩,
    ⟨He.glo_ok X G (c.t.d.fact 4 (f := .glo "is_folder") rfl), c.t.d.def_ 4 (d := d_is_folder) rfl⟩,
    ⟨He.glo_ok X G (c.t.d.fact 5 (f := .glo "count_pairs") rfl), c.t.d.def_ 5 (d := d_count_pairs) rfl⟩,
    ⟨He.glo_ok X G (c.t.d.fact 6 (f := .glo "is_right_tree") rfl), c.t.d.def_ 6 (d := d_is_right_tree) rfl⟩,
    ⟨He.glo_ok X G (c.t.d.fact 7 (f := .glo "is_names") rfl), c.t.d.def_ 7 (d := d_is_names) rfl⟩,
    ⟨He.glo_ok X G (c.t.d.fact 8 (f := .glo "is_tree") rfl), c.t.d.def_ 8 (d := d_is_tree) rfl⟩,
    ⟨He.glo_ok X G (c.t.d.fact 9 (f := .glo "is_path") rfl), c.t.d.def_ 9 (d := d_is_path) rfl⟩,
    ⟨He.glo_ok X G (c.t.d.fact 10 (f := .glo "is_entry") rfl), c.t.d.def_ 10 (d := d_is_entry) rfl⟩,
    ⟨He.glo_ok X G (c.t.d.fact 11 (f := .glo "is_layer_so") rfl), c.t.d.def_ 11 (d := d_is_layer_so) rfl⟩,
    ⟨He.glo_ok X G (c.t.d.fact 12 (f := .glo "places_in") rfl), c.t.d.def_ 12 (d := d_places_in) rfl⟩,
    ⟨He.glo_ok X G (c.t.d.fact 13 (f := .glo "entries_in") rfl), c.t.d.def_ 13 (d := d_entries_in) rfl⟩,
    ⟨He.glo_ok X G (c.t.d.fact 14 (f := .glo "is_right_layer") rfl), c.t.d.def_ 14 (d := d_is_right_layer) rfl⟩,
    ⟨He.glo_ok X G (c.t.d.fact 15 (f := .glo "need_layer") rfl), c.t.d.def_ 15 (d := d_need_layer) rfl⟩,
    ⟨He.glo_ok X G (c.t.d.fact 16 (f := .glo "is_layer") rfl), c.t.d.def_ 16 (d := d_is_layer) rfl⟩,
    ⟨He.glo_ok X G (c.t.d.fact 17 (f := .glo "count_entries") rfl), c.t.d.def_ 17 (d := d_count_entries) rfl⟩,
    ⟨He.glo_ok X G (c.t.d.fact 18 (f := .glo "is_right_claim") rfl), c.t.d.def_ 18 (d := d_is_right_claim) rfl⟩,
    ⟨He.glo_ok X G (c.t.d.fact 19 (f := .glo "is_claim") rfl), c.t.d.def_ 19 (d := d_is_claim) rfl⟩,
    ⟨He.glo_ok X G (c.t.d.fact 20 (f := .glo "_law_source") rfl), c.t.d.def_ 20 (d := d__law_source) rfl⟩,
    ⟨He.glo_ok X G (c.t.d.fact 21 (f := .glo "_law_pick") rfl), c.t.d.def_ 21 (d := d__law_pick) rfl⟩,
    ⟨He.glo_ok X G (c.t.d.fact 22 (f := .glo "_law_chosen") rfl), c.t.d.def_ 22 (d := d__law_chosen) rfl⟩,
    ⟨He.glo_ok X G (c.t.d.fact 23 (f := .glo "_law_is_bool") rfl), c.t.d.def_ 23 (d := d__law_is_bool) rfl⟩,
    ⟨He.glo_ok X G (c.t.d.fact 24 (f := .glo "_law_wide") rfl), c.t.d.def_ 24 (d := d__law_wide) rfl⟩,
    ⟨He.glo_ok X G (c.t.d.fact 25 (f := .glo "_law_any_value") rfl), c.t.d.def_ 25 (d := d__law_any_value) rfl⟩,
    ⟨He.glo_ok X G (c.t.d.fact 26 (f := .glo "_law_variant") rfl), c.t.d.def_ 26 (d := d__law_variant) rfl⟩,
    ⟨He.glo_ok X G (c.t.d.fact 27 (f := .glo "_law_is_text") rfl), c.t.d.def_ 27 (d := d__law_is_text) rfl⟩,
    ⟨He.glo_ok X G (c.t.d.fact 28 (f := .glo "_law_is_pairs") rfl), c.t.d.def_ 28 (d := d__law_is_pairs) rfl⟩,
    ⟨He.glo_ok X G (c.t.d.fact 29 (f := .glo "_law_tree_size") rfl), c.t.d.def_ 29 (d := d__law_tree_size) rfl⟩,
    ⟨He.glo_ok X G (c.t.d.fact 30 (f := .glo "_law_layer_size") rfl), c.t.d.def_ 30 (d := d__law_layer_size) rfl⟩,
    ⟨He.glo_ok X G (c.t.d.fact 31 (f := .glo "_law_sheet") rfl), c.t.d.def_ 31 (d := d__law_sheet) rfl⟩,
    ⟨He.glo_ok X G (c.t.d.fact 32 (f := .glo "_law_layer") rfl), c.t.d.def_ 32 (d := d__law_layer) rfl⟩,
    ⟨He.glo_ok X G (c.t.d.fact 33 (f := .glo "_law_node") rfl), c.t.d.def_ 33 (d := d__law_node) rfl⟩,
    ⟨He.glo_ok X G (c.t.d.fact 34 (f := .glo "_law_tree") rfl), c.t.d.def_ 34 (d := d__law_tree) rfl⟩,
    ⟨He.glo_ok X G (c.t.d.fact 35 (f := .glo "_law_chain") rfl), c.t.d.def_ 35 (d := d__law_chain) rfl⟩,
    ⟨He.glo_ok X G (c.t.d.fact 36 (f := .glo "_law_good_claim") rfl), c.t.d.def_ 36 (d := d__law_good_claim) rfl⟩,
    ⟨He.glo_ok X G (c.t.d.fact 37 (f := .glo "_law_counted") rfl), c.t.d.def_ 37 (d := d__law_counted) rfl⟩,
    ⟨He.glo_ok X G (c.t.d.fact 38 (f := .glo "_law_told_right") rfl), c.t.d.def_ 38 (d := d__law_told_right) rfl⟩,
    ⟨He.glo_ok X G (c.t.d.fact 39 (f := .glo "law") rfl), c.t.d.def_ 39 (d := d_law) rfl⟩⟩
theorem s_is_word : FnScope ["value", "most", "sign"] ["value", "most"] (defScope (st 7)) := ⟨rfl, rfl, rfl, by decide +kernel, rfl, by decide +kernel, by decide +kernel⟩
theorem n_is_word {fd : FuncData} (F : FunD K "is_word" "is_word" (defArgs (st 7)) (defBody (st 7)) (defScope (st 7)) [] [] (He.ga K "is_word") fd) : Binds K fd ["value", "most"] [] := F.bindsN fun _ _ _ _ _ _ us hl => match us, hl with | [_, _], _ => rfl
theorem s_is_name : FnScope ["value"] ["value"] (defScope (st 8)) := ⟨rfl, rfl, rfl, by decide +kernel, rfl, by decide +kernel, by decide +kernel⟩
theorem n_is_name {fd : FuncData} (F : FunD K "is_name" "is_name" (defArgs (st 8)) (defBody (st 8)) (defScope (st 8)) [] [] (He.ga K "is_name") fd) : Binds K fd ["value"] [] := F.bindsN fun _ _ _ _ _ _ us hl => match us, hl with | [_], _ => rfl
theorem s_is_content : FnScope ["value"] ["value"] (defScope (st 9)) := ⟨rfl, rfl, rfl, by decide +kernel, rfl, by decide +kernel, by decide +kernel⟩
theorem n_is_content {fd : FuncData} (F : FunD K "is_content" "is_content" (defArgs (st 9)) (defBody (st 9)) (defScope (st 9)) [] [] (He.ga K "is_content") fd) : Binds K fd ["value"] [] := F.bindsN fun _ _ _ _ _ _ us hl => match us, hl with | [_], _ => rfl
theorem s_are_pairs : FnScope ["value", "pair", "names"] ["value"] (defScope (st 10)) := ⟨rfl, rfl, rfl, by decide +kernel, rfl, by decide +kernel, by decide +kernel⟩
theorem n_are_pairs {fd : FuncData} (F : FunD K "are_pairs" "are_pairs" (defArgs (st 10)) (defBody (st 10)) (defScope (st 10)) [] [] (He.ga K "are_pairs") fd) : Binds K fd ["value"] [] := F.bindsN fun _ _ _ _ _ _ us hl => match us, hl with | [_], _ => rfl
theorem s_is_folder : FnScope ["value", "deep", "name", "node"] ["value", "deep"] (defScope (st 11)) := ⟨rfl, rfl, rfl, by decide +kernel, rfl, by decide +kernel, by decide +kernel⟩
theorem n_is_folder {fd : FuncData} (F : FunD K "is_folder" "is_folder" (defArgs (st 11)) (defBody (st 11)) (defScope (st 11)) [] [] (He.ga K "is_folder") fd) : Binds K fd ["value", "deep"] [] := F.bindsN fun _ _ _ _ _ _ us hl => match us, hl with | [_, _], _ => rfl
theorem s_count_pairs : FnScope ["folder", "many", "name", "node"] ["folder"] (defScope (st 12)) := ⟨rfl, rfl, rfl, by decide +kernel, rfl, by decide +kernel, by decide +kernel⟩
theorem n_count_pairs {fd : FuncData} (F : FunD K "count_pairs" "count_pairs" (defArgs (st 12)) (defBody (st 12)) (defScope (st 12)) [] [] (He.ga K "count_pairs") fd) : Binds K fd ["folder"] [] := F.bindsN fun _ _ _ _ _ _ us hl => match us, hl with | [_], _ => rfl
theorem s_is_right_tree : FnScope ["value"] ["value"] (defScope (st 13)) := ⟨rfl, rfl, rfl, by decide +kernel, rfl, by decide +kernel, by decide +kernel⟩
theorem n_is_right_tree {fd : FuncData} (F : FunD K "is_right_tree" "is_right_tree" (defArgs (st 13)) (defBody (st 13)) (defScope (st 13)) [] [] (He.ga K "is_right_tree") fd) : Binds K fd ["value"] [] := F.bindsN fun _ _ _ _ _ _ us hl => match us, hl with | [_], _ => rfl
theorem s_is_names : FnScope ["value", "most", "name"] ["value", "most"] (defScope (st 14)) := ⟨rfl, rfl, rfl, by decide +kernel, rfl, by decide +kernel, by decide +kernel⟩
theorem n_is_names {fd : FuncData} (F : FunD K "is_names" "is_names" (defArgs (st 14)) (defBody (st 14)) (defScope (st 14)) [] [] (He.ga K "is_names") fd) : Binds K fd ["value", "most"] [] := F.bindsN fun _ _ _ _ _ _ us hl => match us, hl with | [_, _], _ => rfl
theorem s_is_tree : FnScope ["value"] ["value"] (defScope (st 15)) := ⟨rfl, rfl, rfl, by decide +kernel, rfl, by decide +kernel, by decide +kernel⟩
theorem n_is_tree {fd : FuncData} (F : FunD K "is_tree" "is_tree" (defArgs (st 15)) (defBody (st 15)) (defScope (st 15)) [] [] (He.ga K "is_tree") fd) : Binds K fd ["value"] [] := F.bindsN fun _ _ _ _ _ _ us hl => match us, hl with | [_], _ => rfl
theorem s_is_path : FnScope ["value"] ["value"] (defScope (st 16)) := ⟨rfl, rfl, rfl, by decide +kernel, rfl, by decide +kernel, by decide +kernel⟩
theorem n_is_path {fd : FuncData} (F : FunD K "is_path" "is_path" (defArgs (st 16)) (defBody (st 16)) (defScope (st 16)) [] [] (He.ga K "is_path") fd) : Binds K fd ["value"] [] := F.bindsN fun _ _ _ _ _ _ us hl => match us, hl with | [_], _ => rfl
theorem s_is_entry : FnScope ["value", "deep"] ["value", "deep"] (defScope (st 20)) := ⟨rfl, rfl, rfl, by decide +kernel, rfl, by decide +kernel, by decide +kernel⟩
theorem n_is_entry {fd : FuncData} (F : FunD K "is_entry" "is_entry" (defArgs (st 20)) (defBody (st 20)) (defScope (st 20)) [] [] (He.ga K "is_entry") fd) : Binds K fd ["value", "deep"] [] := F.bindsN fun _ _ _ _ _ _ us hl => match us, hl with | [_, _], _ => rfl
theorem s_is_layer_so : FnScope ["value", "deep", "name", "entry"] ["value", "deep"] (defScope (st 21)) := ⟨rfl, rfl, rfl, by decide +kernel, rfl, by decide +kernel, by decide +kernel⟩
theorem n_is_layer_so {fd : FuncData} (F : FunD K "is_layer_so" "is_layer_so" (defArgs (st 21)) (defBody (st 21)) (defScope (st 21)) [] [] (He.ga K "is_layer_so") fd) : Binds K fd ["value", "deep"] [] := F.bindsN fun _ _ _ _ _ _ us hl => match us, hl with | [_, _], _ => rfl
theorem s_places_in : FnScope ["layer", "names", "found", "name", "entry"] ["layer", "names"] (defScope (st 22)) := ⟨rfl, rfl, rfl, by decide +kernel, rfl, by decide +kernel, by decide +kernel⟩
theorem n_places_in {fd : FuncData} (F : FunD K "places_in" "places_in" (defArgs (st 22)) (defBody (st 22)) (defScope (st 22)) [] [] (He.ga K "places_in") fd) : Binds K fd ["layer", "names"] [] := F.bindsN fun _ _ _ _ _ _ us hl => match us, hl with | [_, _], _ => rfl
theorem s_entries_in : FnScope ["layer"] ["layer"] (defScope (st 23)) := ⟨rfl, rfl, rfl, by decide +kernel, rfl, by decide +kernel, by decide +kernel⟩
theorem n_entries_in {fd : FuncData} (F : FunD K "entries_in" "entries_in" (defArgs (st 23)) (defBody (st 23)) (defScope (st 23)) [] [] (He.ga K "entries_in") fd) : Binds K fd ["layer"] [] := F.bindsN fun _ _ _ _ _ _ us hl => match us, hl with | [_], _ => rfl
theorem s_is_right_layer : FnScope ["value"] ["value"] (defScope (st 24)) := ⟨rfl, rfl, rfl, by decide +kernel, rfl, by decide +kernel, by decide +kernel⟩
theorem n_is_right_layer {fd : FuncData} (F : FunD K "is_right_layer" "is_right_layer" (defArgs (st 24)) (defBody (st 24)) (defScope (st 24)) [] [] (He.ga K "is_right_layer") fd) : Binds K fd ["value"] [] := F.bindsN fun _ _ _ _ _ _ us hl => match us, hl with | [_], _ => rfl
theorem s_need_layer : FnScope ["value"] ["value"] (defScope (st 25)) := ⟨rfl, rfl, rfl, by decide +kernel, rfl, by decide +kernel, by decide +kernel⟩
theorem n_need_layer {fd : FuncData} (F : FunD K "need_layer" "need_layer" (defArgs (st 25)) (defBody (st 25)) (defScope (st 25)) [] [] (He.ga K "need_layer") fd) : Binds K fd ["value"] [] := F.bindsN fun _ _ _ _ _ _ us hl => match us, hl with | [_], _ => rfl
theorem s_is_layer : FnScope ["value"] ["value"] (defScope (st 26)) := ⟨rfl, rfl, rfl, by decide +kernel, rfl, by decide +kernel, by decide +kernel⟩
theorem n_is_layer {fd : FuncData} (F : FunD K "is_layer" "is_layer" (defArgs (st 26)) (defBody (st 26)) (defScope (st 26)) [] [] (He.ga K "is_layer") fd) : Binds K fd ["value"] [] := F.bindsN fun _ _ _ _ _ _ us hl => match us, hl with | [_], _ => rfl
theorem s_count_entries : FnScope ["layer"] ["layer"] (defScope (st 27)) := ⟨rfl, rfl, rfl, by decide +kernel, rfl, by decide +kernel, by decide +kernel⟩
theorem n_count_entries {fd : FuncData} (F : FunD K "count_entries" "count_entries" (defArgs (st 27)) (defBody (st 27)) (defScope (st 27)) [] [] (He.ga K "count_entries") fd) : Binds K fd ["layer"] [] := F.bindsN fun _ _ _ _ _ _ us hl => match us, hl with | [_], _ => rfl
theorem s_is_right_claim : FnScope ["value", "what", "word"] ["value"] (defScope (st 31)) := ⟨rfl, rfl, rfl, by decide +kernel, rfl, by decide +kernel, by decide +kernel⟩
theorem n_is_right_claim {fd : FuncData} (F : FunD K "is_right_claim" "is_right_claim" (defArgs (st 31)) (defBody (st 31)) (defScope (st 31)) [] [] (He.ga K "is_right_claim") fd) : Binds K fd ["value"] [] := F.bindsN fun _ _ _ _ _ _ us hl => match us, hl with | [_], _ => rfl
theorem s_is_claim : FnScope ["value"] ["value"] (defScope (st 32)) := ⟨rfl, rfl, rfl, by decide +kernel, rfl, by decide +kernel, by decide +kernel⟩
theorem n_is_claim {fd : FuncData} (F : FunD K "is_claim" "is_claim" (defArgs (st 32)) (defBody (st 32)) (defScope (st 32)) [] [] (He.ga K "is_claim") fd) : Binds K fd ["value"] [] := F.bindsN fun _ _ _ _ _ _ us hl => match us, hl with | [_], _ => rfl
theorem s__law_source : FnScope ["script", "k", "number", "start"] ["script", "k"] (defScope (st 34)) := ⟨rfl, rfl, rfl, by decide +kernel, rfl, by decide +kernel, by decide +kernel⟩
theorem n__law_source {fd : FuncData} (F : FunD K "_law_source" "_law_source" (defArgs (st 34)) (defBody (st 34)) (defScope (st 34)) [] [] (He.ga K "_law_source") fd) : Binds K fd ["script", "k"] [] := F.bindsN fun _ _ _ _ _ _ us hl => match us, hl with | [_, _], _ => rfl
theorem s__law_pick : FnScope ["source", "many", "found"] ["source", "many"] (defScope (st 35)) := ⟨rfl, rfl, rfl, by decide +kernel, rfl, by decide +kernel, by decide +kernel⟩
theorem n__law_pick {fd : FuncData} (F : FunD K "_law_pick" "_law_pick" (defArgs (st 35)) (defBody (st 35)) (defScope (st 35)) [] [] (He.ga K "_law_pick") fd) : Binds K fd ["source", "many"] [] := F.bindsN fun _ _ _ _ _ _ us hl => match us, hl with | [_, _], _ => rfl
theorem s__law_chosen : FnScope ["source", "things"] ["source", "things"] (defScope (st 36)) := ⟨rfl, rfl, rfl, by decide +kernel, rfl, by decide +kernel, by decide +kernel⟩
theorem n__law_chosen {fd : FuncData} (F : FunD K "_law_chosen" "_law_chosen" (defArgs (st 36)) (defBody (st 36)) (defScope (st 36)) [] [] (He.ga K "_law_chosen") fd) : Binds K fd ["source", "things"] [] := F.bindsN fun _ _ _ _ _ _ us hl => match us, hl with | [_, _], _ => rfl
theorem s__law_is_bool : FnScope ["told", "due"] ["told", "due"] (defScope (st 37)) := ⟨rfl, rfl, rfl, by decide +kernel, rfl, by decide +kernel, by decide +kernel⟩
theorem n__law_is_bool {fd : FuncData} (F : FunD K "_law_is_bool" "_law_is_bool" (defArgs (st 37)) (defBody (st 37)) (defScope (st 37)) [] [] (He.ga K "_law_is_bool") fd) : Binds K fd ["told", "due"] [] := F.bindsN fun _ _ _ _ _ _ us hl => match us, hl with | [_, _], _ => rfl
theorem s__law_wide : FnScope ["value", "low", "high"] ["value", "low", "high"] (defScope (st 38)) := ⟨rfl, rfl, rfl, by decide +kernel, rfl, by decide +kernel, by decide +kernel⟩
theorem n__law_wide {fd : FuncData} (F : FunD K "_law_wide" "_law_wide" (defArgs (st 38)) (defBody (st 38)) (defScope (st 38)) [] [] (He.ga K "_law_wide") fd) : Binds K fd ["value", "low", "high"] [] := F.bindsN fun _ _ _ _ _ _ us hl => match us, hl with | [_, _, _], _ => rfl
theorem s__law_any_value : FnScope ["source", "deep", "simple_so", "way", "parts", "turn"] ["source", "deep"] (defScope (st 39)) := ⟨rfl, rfl, rfl, by decide +kernel, rfl, by decide +kernel, by decide +kernel⟩
theorem n__law_any_value {fd : FuncData} (F : FunD K "_law_any_value" "_law_any_value" (defArgs (st 39)) (defBody (st 39)) (defScope (st 39)) [] [] (He.ga K "_law_any_value") fd) : Binds K fd ["source", "deep"] [] := F.bindsN fun _ _ _ _ _ _ us hl => match us, hl with | [_, _], _ => rfl
theorem s__law_variant : FnScope ["source", "value", "deep", "parts", "spot", "way", "inner", "near"] ["source", "value", "deep"] (defScope (st 40)) := ⟨rfl, rfl, rfl, by decide +kernel, rfl, by decide +kernel, by decide +kernel⟩
theorem n__law_variant {fd : FuncData} (F : FunD K "_law_variant" "_law_variant" (defArgs (st 40)) (defBody (st 40)) (defScope (st 40)) [] [] (He.ga K "_law_variant") fd) : Binds K fd ["source", "value", "deep"] [] := F.bindsN fun _ _ _ _ _ _ us hl => match us, hl with | [_, _, _], _ => rfl
theorem s__law_is_text : FnScope ["value", "most", "sign"] ["value", "most"] (defScope (st 41)) := ⟨rfl, rfl, rfl, by decide +kernel, rfl, by decide +kernel, by decide +kernel⟩
theorem n__law_is_text {fd : FuncData} (F : FunD K "_law_is_text" "_law_is_text" (defArgs (st 41)) (defBody (st 41)) (defScope (st 41)) [] [] (He.ga K "_law_is_text") fd) : Binds K fd ["value", "most"] [] := F.bindsN fun _ _ _ _ _ _ us hl => match us, hl with | [_, _], _ => rfl
theorem s__law_is_pairs : FnScope ["value", "last", "pair"] ["value"] (defScope (st 42)) := ⟨rfl, rfl, rfl, by decide +kernel, rfl, by decide +kernel, by decide +kernel⟩
theorem n__law_is_pairs {fd : FuncData} (F : FunD K "_law_is_pairs" "_law_is_pairs" (defArgs (st 42)) (defBody (st 42)) (defScope (st 42)) [] [] (He.ga K "_law_is_pairs") fd) : Binds K fd ["value"] [] := F.bindsN fun _ _ _ _ _ _ us hl => match us, hl with | [_], _ => rfl
theorem s__law_tree_size : FnScope ["value", "deep", "many", "name", "node"] ["value", "deep"] (defScope (st 43)) := ⟨rfl, rfl, rfl, by decide +kernel, rfl, by decide +kernel, by decide +kernel⟩
theorem n__law_tree_size {fd : FuncData} (F : FunD K "_law_tree_size" "_law_tree_size" (defArgs (st 43)) (defBody (st 43)) (defScope (st 43)) [] [] (He.ga K "_law_tree_size") fd) : Binds K fd ["value", "deep"] [] := F.bindsN fun _ _ _ _ _ _ us hl => match us, hl with | [_, _], _ => rfl
theorem s__law_layer_size : FnScope ["value", "deep", "many", "name", "entry"] ["value", "deep"] (defScope (st 44)) := ⟨rfl, rfl, rfl, by decide +kernel, rfl, by decide +kernel, by decide +kernel⟩
theorem n__law_layer_size {fd : FuncData} (F : FunD K "_law_layer_size" "_law_layer_size" (defArgs (st 44)) (defBody (st 44)) (defScope (st 44)) [] [] (He.ga K "_law_layer_size") fd) : Binds K fd ["value", "deep"] [] := F.bindsN fun _ _ _ _ _ _ us hl => match us, hl with | [_, _], _ => rfl
theorem s__law_sheet : FnScope ["source", "deep", "rows", "name", "way"] ["source", "deep"] (defScope (st 45)) := ⟨rfl, rfl, rfl, by decide +kernel, rfl, by decide +kernel, by decide +kernel⟩
theorem n__law_sheet {fd : FuncData} (F : FunD K "_law_sheet" "_law_sheet" (defArgs (st 45)) (defBody (st 45)) (defScope (st 45)) [] [] (He.ga K "_law_sheet") fd) : Binds K fd ["source", "deep"] [] := F.bindsN fun _ _ _ _ _ _ us hl => match us, hl with | [_, _], _ => rfl
theorem s__law_layer : FnScope ["source", "found"] ["source"] (defScope (st 46)) := ⟨rfl, rfl, rfl, by decide +kernel, rfl, by decide +kernel, by decide +kernel⟩
theorem n__law_layer {fd : FuncData} (F : FunD K "_law_layer" "_law_layer" (defArgs (st 46)) (defBody (st 46)) (defScope (st 46)) [] [] (He.ga K "_law_layer") fd) : Binds K fd ["source"] [] := F.bindsN fun _ _ _ _ _ _ us hl => match us, hl with | [_], _ => rfl
theorem s__law_node : FnScope ["source", "deep", "rows", "name", "way"] ["source", "deep"] (defScope (st 47)) := ⟨rfl, rfl, rfl, by decide +kernel, rfl, by decide +kernel, by decide +kernel⟩
theorem n__law_node {fd : FuncData} (F : FunD K "_law_node" "_law_node" (defArgs (st 47)) (defBody (st 47)) (defScope (st 47)) [] [] (He.ga K "_law_node") fd) : Binds K fd ["source", "deep"] [] := F.bindsN fun _ _ _ _ _ _ us hl => match us, hl with | [_, _], _ => rfl
theorem s__law_tree : FnScope ["source", "found"] ["source"] (defScope (st 48)) := ⟨rfl, rfl, rfl, by decide +kernel, rfl, by decide +kernel, by decide +kernel⟩
theorem n__law_tree {fd : FuncData} (F : FunD K "_law_tree" "_law_tree" (defArgs (st 48)) (defBody (st 48)) (defScope (st 48)) [] [] (He.ga K "_law_tree") fd) : Binds K fd ["source"] [] := F.bindsN fun _ _ _ _ _ _ us hl => match us, hl with | [_], _ => rfl
theorem s__law_chain : FnScope ["path", "node", "name"] ["path", "node"] (defScope (st 49)) := ⟨rfl, rfl, rfl, by decide +kernel, rfl, by decide +kernel, by decide +kernel⟩
theorem n__law_chain {fd : FuncData} (F : FunD K "_law_chain" "_law_chain" (defArgs (st 49)) (defBody (st 49)) (defScope (st 49)) [] [] (He.ga K "_law_chain") fd) : Binds K fd ["path", "node"] [] := F.bindsN fun _ _ _ _ _ _ us hl => match us, hl with | [_, _], _ => rfl
theorem s__law_good_claim : FnScope ["value", "name", "first", "last", "words_so"] ["value"] (defScope (st 50)) := ⟨rfl, rfl, rfl, by decide +kernel, rfl, by decide +kernel, by decide +kernel⟩
theorem n__law_good_claim {fd : FuncData} (F : FunD K "_law_good_claim" "_law_good_claim" (defArgs (st 50)) (defBody (st 50)) (defScope (st 50)) [] [] (He.ga K "_law_good_claim") fd) : Binds K fd ["value"] [] := F.bindsN fun _ _ _ _ _ _ us hl => match us, hl with | [_], _ => rfl
theorem s__law_counted : FnScope ["value"] ["value"] (defScope (st 51)) := ⟨rfl, rfl, rfl, by decide +kernel, rfl, by decide +kernel, by decide +kernel⟩
theorem n__law_counted {fd : FuncData} (F : FunD K "_law_counted" "_law_counted" (defArgs (st 51)) (defBody (st 51)) (defScope (st 51)) [] [] (He.ga K "_law_counted") fd) : Binds K fd ["value"] [] := F.bindsN fun _ _ _ _ _ _ us hl => match us, hl with | [_], _ => rfl
theorem s__law_told_right : FnScope ["value", "size", "paths", "name"] ["value"] (defScope (st 52)) := ⟨rfl, rfl, rfl, by decide +kernel, rfl, by decide +kernel, by decide +kernel⟩
theorem n__law_told_right {fd : FuncData} (F : FunD K "_law_told_right" "_law_told_right" (defArgs (st 52)) (defBody (st 52)) (defScope (st 52)) [] [] (He.ga K "_law_told_right") fd) : Binds K fd ["value"] [] := F.bindsN fun _ _ _ _ _ _ us hl => match us, hl with | [_], _ => rfl
theorem s_law : FnScope ["script", "k", "source", "tree", "layer", "claim", "other", "values", "turn", "some", "odd", "value", "many", "sign", "deep", "rows"] ["script"] (defScope (st 53)) := ⟨rfl, rfl, rfl, by decide +kernel, rfl, by decide +kernel, by decide +kernel⟩
theorem n_law {fd : FuncData} (F : FunD K "law" "law" (defArgs (st 53)) (defBody (st 53)) (defScope (st 53)) [] [] (He.ga K "law") fd) : Binds K fd ["script"] [] := F.bindsN fun _ _ _ _ _ _ us hl => match us, hl with | [_], _ => rfl
theorem gx_of (fx : Fx K mg (eaN K)) (dx : Dx K mg) : ∀ n : Nat, Gx P w K mg base (eaN K) (callN T n) (n + 8)
  | 0 => ⟨(let ⟨g, fd, F⟩ := dx.d_is_word; callee0 g F.kp (n_is_word F)),
    (let ⟨g, fd, F⟩ := dx.d_is_name; callee0 g F.kp (n_is_name F)),
    (let ⟨g, fd, F⟩ := dx.d_is_content; callee0 g F.kp (n_is_content F)),
    (let ⟨g, fd, F⟩ := dx.d_are_pairs; callee0 g F.kp (n_are_pairs F)),
    (let ⟨g, fd, F⟩ := dx.d_is_folder; callee0 g F.kp (n_is_folder F)),
    (let ⟨g, fd, F⟩ := dx.d_count_pairs; callee0 g F.kp (n_count_pairs F)),
    (let ⟨g, fd, F⟩ := dx.d_is_right_tree; callee0 g F.kp (n_is_right_tree F)),
    (let ⟨g, fd, F⟩ := dx.d_is_names; callee0 g F.kp (n_is_names F)),
    (let ⟨g, fd, F⟩ := dx.d_is_tree; callee0 g F.kp (n_is_tree F)),
    (let ⟨g, fd, F⟩ := dx.d_is_path; callee0 g F.kp (n_is_path F)),
    (let ⟨g, fd, F⟩ := dx.d_is_entry; callee0 g F.kp (n_is_entry F)),
    (let ⟨g, fd, F⟩ := dx.d_is_layer_so; callee0 g F.kp (n_is_layer_so F)),
    (let ⟨g, fd, F⟩ := dx.d_places_in; callee0 g F.kp (n_places_in F)),
    (let ⟨g, fd, F⟩ := dx.d_entries_in; callee0 g F.kp (n_entries_in F)),
    (let ⟨g, fd, F⟩ := dx.d_is_right_layer; callee0 g F.kp (n_is_right_layer F)),
    (let ⟨g, fd, F⟩ := dx.d_need_layer; callee0 g F.kp (n_need_layer F)),
    (let ⟨g, fd, F⟩ := dx.d_is_layer; callee0 g F.kp (n_is_layer F)),
    (let ⟨g, fd, F⟩ := dx.d_count_entries; callee0 g F.kp (n_count_entries F)),
    (let ⟨g, fd, F⟩ := dx.d_is_right_claim; callee0 g F.kp (n_is_right_claim F)),
    (let ⟨g, fd, F⟩ := dx.d_is_claim; callee0 g F.kp (n_is_claim F)),
    (let ⟨g, fd, F⟩ := dx.d__law_source; callee0 g F.kp (n__law_source F)),
    (let ⟨g, fd, F⟩ := dx.d__law_pick; callee0 g F.kp (n__law_pick F)),
    (let ⟨g, fd, F⟩ := dx.d__law_chosen; callee0 g F.kp (n__law_chosen F)),
    (let ⟨g, fd, F⟩ := dx.d__law_is_bool; callee0 g F.kp (n__law_is_bool F)),
    (let ⟨g, fd, F⟩ := dx.d__law_wide; callee0 g F.kp (n__law_wide F)),
    (let ⟨g, fd, F⟩ := dx.d__law_any_value; callee0 g F.kp (n__law_any_value F)),
    (let ⟨g, fd, F⟩ := dx.d__law_variant; callee0 g F.kp (n__law_variant F)),
    (let ⟨g, fd, F⟩ := dx.d__law_is_text; callee0 g F.kp (n__law_is_text F)),
    (let ⟨g, fd, F⟩ := dx.d__law_is_pairs; callee0 g F.kp (n__law_is_pairs F)),
    (let ⟨g, fd, F⟩ := dx.d__law_tree_size; callee0 g F.kp (n__law_tree_size F)),
    (let ⟨g, fd, F⟩ := dx.d__law_layer_size; callee0 g F.kp (n__law_layer_size F)),
    (let ⟨g, fd, F⟩ := dx.d__law_sheet; callee0 g F.kp (n__law_sheet F)),
    (let ⟨g, fd, F⟩ := dx.d__law_layer; callee0 g F.kp (n__law_layer F)),
    (let ⟨g, fd, F⟩ := dx.d__law_node; callee0 g F.kp (n__law_node F)),
    (let ⟨g, fd, F⟩ := dx.d__law_tree; callee0 g F.kp (n__law_tree F)),
    (let ⟨g, fd, F⟩ := dx.d__law_chain; callee0 g F.kp (n__law_chain F)),
    (let ⟨g, fd, F⟩ := dx.d__law_good_claim; callee0 g F.kp (n__law_good_claim F)),
    (let ⟨g, fd, F⟩ := dx.d__law_counted; callee0 g F.kp (n__law_counted F)),
    (let ⟨g, fd, F⟩ := dx.d__law_told_right; callee0 g F.kp (n__law_told_right F)),
    (let ⟨g, fd, F⟩ := dx.d_law; callee0 g F.kp (n_law F))⟩
  | n + 1 => by
    have gx := gx_of fx dx n
    exact ⟨(let ⟨g, fd, F⟩ := dx.d_is_word; callee1 (fn := F0) rfl F g (n_is_word F) s_is_word rfl rfl fun cdv A outer s H E hr => b_is_word (k := n) fx gx cdv A outer s H E hr),
      (let ⟨g, fd, F⟩ := dx.d_is_name; callee1 (fn := F1) rfl F g (n_is_name F) s_is_name rfl rfl fun cdv A outer s H E hr => b_is_name (k := n) fx gx cdv A outer s H E hr),
      (let ⟨g, fd, F⟩ := dx.d_is_content; callee1 (fn := F2) rfl F g (n_is_content F) s_is_content rfl rfl fun cdv A outer s H E hr => b_is_content (k := n) fx gx cdv A outer s H E hr),
      (let ⟨g, fd, F⟩ := dx.d_are_pairs; callee1 (fn := F3) rfl F g (n_are_pairs F) s_are_pairs rfl rfl fun cdv A outer s H E hr => b_are_pairs (k := n) fx gx cdv A outer s H E hr),
      (let ⟨g, fd, F⟩ := dx.d_is_folder; callee1 (fn := F4) rfl F g (n_is_folder F) s_is_folder rfl rfl fun cdv A outer s H E hr => b_is_folder (k := n) fx gx cdv A outer s H E hr),
      (let ⟨g, fd, F⟩ := dx.d_count_pairs; callee1 (fn := F5) rfl F g (n_count_pairs F) s_count_pairs rfl rfl fun cdv A outer s H E hr => b_count_pairs (k := n) fx gx cdv A outer s H E hr),
      (let ⟨g, fd, F⟩ := dx.d_is_right_tree; callee1 (fn := F6) rfl F g (n_is_right_tree F) s_is_right_tree rfl rfl fun cdv A outer s H E hr => b_is_right_tree (k := n) fx gx cdv A outer s H E hr),
      (let ⟨g, fd, F⟩ := dx.d_is_names; callee1 (fn := F7) rfl F g (n_is_names F) s_is_names rfl rfl fun cdv A outer s H E hr => b_is_names (k := n) fx gx cdv A outer s H E hr),
      (let ⟨g, fd, F⟩ := dx.d_is_tree; callee1 (fn := F8) rfl F g (n_is_tree F) s_is_tree rfl rfl fun cdv A outer s H E hr => b_is_tree (k := n) fx gx cdv A outer s H E hr),
      (let ⟨g, fd, F⟩ := dx.d_is_path; callee1 (fn := F9) rfl F g (n_is_path F) s_is_path rfl rfl fun cdv A outer s H E hr => b_is_path (k := n) fx gx cdv A outer s H E hr),
      (let ⟨g, fd, F⟩ := dx.d_is_entry; callee1 (fn := F10) rfl F g (n_is_entry F) s_is_entry rfl rfl fun cdv A outer s H E hr => b_is_entry (k := n) fx gx cdv A outer s H E hr),
      (let ⟨g, fd, F⟩ := dx.d_is_layer_so; callee1 (fn := F11) rfl F g (n_is_layer_so F) s_is_layer_so rfl rfl fun cdv A outer s H E hr => b_is_layer_so (k := n) fx gx cdv A outer s H E hr),
      (let ⟨g, fd, F⟩ := dx.d_places_in; callee1 (fn := F12) rfl F g (n_places_in F) s_places_in rfl rfl fun cdv A outer s H E hr => b_places_in (k := n) fx gx cdv A outer s H E hr),
      (let ⟨g, fd, F⟩ := dx.d_entries_in; callee1 (fn := F13) rfl F g (n_entries_in F) s_entries_in rfl rfl fun cdv A outer s H E hr => b_entries_in (k := n) fx gx cdv A outer s H E hr),
      (let ⟨g, fd, F⟩ := dx.d_is_right_layer; callee1 (fn := F14) rfl F g (n_is_right_layer F) s_is_right_layer rfl rfl fun cdv A outer s H E hr => b_is_right_layer (k := n) fx gx cdv A outer s H E hr),
      (let ⟨g, fd, F⟩ := dx.d_need_layer; callee1 (fn := F15) rfl F g (n_need_layer F) s_need_layer rfl rfl fun cdv A outer s H E hr => b_need_layer (k := n) fx gx cdv A outer s H E hr),
      (let ⟨g, fd, F⟩ := dx.d_is_layer; callee1 (fn := F16) rfl F g (n_is_layer F) s_is_layer rfl rfl fun cdv A outer s H E hr => b_is_layer (k := n) fx gx cdv A outer s H E hr),
      (let ⟨g, fd, F⟩ := dx.d_count_entries; callee1 (fn := F17) rfl F g (n_count_entries F) s_count_entries rfl rfl fun cdv A outer s H E hr => b_count_entries (k := n) fx gx cdv A outer s H E hr),
      (let ⟨g, fd, F⟩ := dx.d_is_right_claim; callee1 (fn := F18) rfl F g (n_is_right_claim F) s_is_right_claim rfl rfl fun cdv A outer s H E hr => b_is_right_claim (k := n) fx gx cdv A outer s H E hr),
      (let ⟨g, fd, F⟩ := dx.d_is_claim; callee1 (fn := F19) rfl F g (n_is_claim F) s_is_claim rfl rfl fun cdv A outer s H E hr => b_is_claim (k := n) fx gx cdv A outer s H E hr),
      (let ⟨g, fd, F⟩ := dx.d__law_source; callee1 (fn := F20) rfl F g (n__law_source F) s__law_source rfl rfl fun cdv A outer s H E hr => b__law_source (k := n) fx gx cdv A outer s H E hr),
      (let ⟨g, fd, F⟩ := dx.d__law_pick; callee1 (fn := F21) rfl F g (n__law_pick F) s__law_pick rfl rfl fun cdv A outer s H E hr => b__law_pick (k := n) fx gx cdv A outer s H E hr),
      (let ⟨g, fd, F⟩ := dx.d__law_chosen; callee1 (fn := F22) rfl F g (n__law_chosen F) s__law_chosen rfl rfl fun cdv A outer s H E hr => b__law_chosen (k := n) fx gx cdv A outer s H E hr),
      (let ⟨g, fd, F⟩ := dx.d__law_is_bool; callee1 (fn := F23) rfl F g (n__law_is_bool F) s__law_is_bool rfl rfl fun cdv A outer s H E hr => b__law_is_bool (k := n) fx gx cdv A outer s H E hr),
      (let ⟨g, fd, F⟩ := dx.d__law_wide; callee1 (fn := F24) rfl F g (n__law_wide F) s__law_wide rfl rfl fun cdv A outer s H E hr => b__law_wide (k := n) fx gx cdv A outer s H E hr),
      (let ⟨g, fd, F⟩ := dx.d__law_any_value; callee1 (fn := F25) rfl F g (n__law_any_value F) s__law_any_value rfl rfl fun cdv A outer s H E hr => b__law_any_value (k := n) fx gx cdv A outer s H E hr),
      (let ⟨g, fd, F⟩ := dx.d__law_variant; callee1 (fn := F26) rfl F g (n__law_variant F) s__law_variant rfl rfl fun cdv A outer s H E hr => b__law_variant (k := n) fx gx cdv A outer s H E hr),
      (let ⟨g, fd, F⟩ := dx.d__law_is_text; callee1 (fn := F27) rfl F g (n__law_is_text F) s__law_is_text rfl rfl fun cdv A outer s H E hr => b__law_is_text (k := n) fx gx cdv A outer s H E hr),
      (let ⟨g, fd, F⟩ := dx.d__law_is_pairs; callee1 (fn := F28) rfl F g (n__law_is_pairs F) s__law_is_pairs rfl rfl fun cdv A outer s H E hr => b__law_is_pairs (k := n) fx gx cdv A outer s H E hr),
      (let ⟨g, fd, F⟩ := dx.d__law_tree_size; callee1 (fn := F29) rfl F g (n__law_tree_size F) s__law_tree_size rfl rfl fun cdv A outer s H E hr => b__law_tree_size (k := n) fx gx cdv A outer s H E hr),
      (let ⟨g, fd, F⟩ := dx.d__law_layer_size; callee1 (fn := F30) rfl F g (n__law_layer_size F) s__law_layer_size rfl rfl fun cdv A outer s H E hr => b__law_layer_size (k := n) fx gx cdv A outer s H E hr),
      (let ⟨g, fd, F⟩ := dx.d__law_sheet; callee1 (fn := F31) rfl F g (n__law_sheet F) s__law_sheet rfl rfl fun cdv A outer s H E hr => b__law_sheet (k := n) fx gx cdv A outer s H E hr),
      (let ⟨g, fd, F⟩ := dx.d__law_layer; callee1 (fn := F32) rfl F g (n__law_layer F) s__law_layer rfl rfl fun cdv A outer s H E hr => b__law_layer (k := n) fx gx cdv A outer s H E hr),
      (let ⟨g, fd, F⟩ := dx.d__law_node; callee1 (fn := F33) rfl F g (n__law_node F) s__law_node rfl rfl fun cdv A outer s H E hr => b__law_node (k := n) fx gx cdv A outer s H E hr),
      (let ⟨g, fd, F⟩ := dx.d__law_tree; callee1 (fn := F34) rfl F g (n__law_tree F) s__law_tree rfl rfl fun cdv A outer s H E hr => b__law_tree (k := n) fx gx cdv A outer s H E hr),
      (let ⟨g, fd, F⟩ := dx.d__law_chain; callee1 (fn := F35) rfl F g (n__law_chain F) s__law_chain rfl rfl fun cdv A outer s H E hr => b__law_chain (k := n) fx gx cdv A outer s H E hr),
      (let ⟨g, fd, F⟩ := dx.d__law_good_claim; callee1 (fn := F36) rfl F g (n__law_good_claim F) s__law_good_claim rfl rfl fun cdv A outer s H E hr => b__law_good_claim (k := n) fx gx cdv A outer s H E hr),
      (let ⟨g, fd, F⟩ := dx.d__law_counted; callee1 (fn := F37) rfl F g (n__law_counted F) s__law_counted rfl rfl fun cdv A outer s H E hr => b__law_counted (k := n) fx gx cdv A outer s H E hr),
      (let ⟨g, fd, F⟩ := dx.d__law_told_right; callee1 (fn := F38) rfl F g (n__law_told_right F) s__law_told_right rfl rfl fun cdv A outer s H E hr => b__law_told_right (k := n) fx gx cdv A outer s H E hr),
      (let ⟨g, fd, F⟩ := dx.d_law; callee1 (fn := F39) rfl F g (n_law F) s_law rfl rfl fun cdv A outer s H E hr => b_law (k := n) fx gx cdv A outer s H E hr)⟩
theorem facts (law_true : ∀ ns : List Int, ns.length ≤ 63 → callN T 61 39 [.scr (ns.map .int)] = some (.val (.bl true, false), [])) (X : K.In h) (G : h.Ns mainGlobals mg) {f : Addr} (hfa : mg ("law" : Str) = some (.ref f)) (c : He.SaysX fa fn [] [] more w h K) :
    ∃ (fd : FuncData) (sp : Sp), (∀ (s : Shared) (v : Value), BindsTo s fd ⟨[v], []⟩ [("script", v)]) ∧ (∀ (H : Hp) (a : Addr) (ns : List Int), ns.length ≤ 63 → SqL K H a (ns.map V.int) → sp [.ref a] H (fun v _ => v = .bl true) fun _ _ _ => False) ∧ ∀ base : Heap, FnOk P w K mg base CX0 69 f fd ["script"] sp := by
  obtain ⟨g, fd, F⟩ := (dx_of X G c).d_law
  have e := hfa.symm.trans g
  cases e
  have b := FunD.bindsA (ps := ["script"]) F fun _ _ _ _ _ _ us hl => match us, hl with | [_], _ => rfl
  refine ⟨fd, fun vs H Q _ => spD K (exA (eaN K)) (runFn (callN T 60) F39) F39.lent vs H Q fun _ _ _ => False, fun s v => b s [v] rfl, fun H a ns hl hS => law_sp (f := runFn (callN T 60) F39) (law_true ns hl) hS, fun base => cx0_of (fn_ok (k := 68) F s_law rfl rfl fun cdv A outer s H E hr => b_law (k := 60) (fx_of X G c) (gx_of (fx_of X G c) (dx_of X G c) 60) cdv A outer s H E hr)⟩
end
end K01
open PySem PySem.W PySem.Calls PyProof.Rows
theorem K01.holds (law_true : ∀ ns : List Int, ns.length ≤ 63 → Tl.callN K01.T 61 39 [.scr (ns.map .int)] = some (.val (.bl true, false), [])) : PySem.Challenge.rw_treelayers_k01_trees_layers_and_claims_r.Holds := by
  w_on; o_law
  refine HandSHeadRun.head_any (r := OpenLaw.row PySem.Challenge.rw_treelayers_k01_trees_layers_and_claims_r) (q := view (OpenLaw.row PySem.Challenge.rw_treelayers_k01_trees_layers_and_claims_r).prog [53]) (H := K01.hk) (ob := K01.ob) (M := 4000) (loose := K01.names) (d := HandSHeadRun.topDef (OpenLaw.row PySem.Challenge.rw_treelayers_k01_trees_layers_and_claims_r).prog 53) (kwd := []) K01.ob_eq
    (by kernel_rfl) (fun s => by kernel_rfl) K01.run (by kernel_rfl) (by kernel_rfl) (by kernel_rfl) (by rfl) (by first | assumption | decide +kernel) (by decide +kernel) ⟨rfl, rfl, rfl, rfl, rfl, by decide +kernel⟩ ?hw ?hc
  case hw => w_witness2
  case hc =>
    refine L2.walk_ofE (l := PySem.Challenge.rw_treelayers_k01_trees_layers_and_claims_r) (n := 63) (k := 69) (x := "script") (CX := L2.CX0) rfl (by decide) (by kernel_rfl) ⟨rfl, by decide, by decide⟩ ?F (fun _ _ _ _ z => z)
    intro w mg fa h Y G hmg0
    obtain ⟨K, KX, c⟩ := Y
    have hmg : mg ("law" : PySem.Str) = some (.ref fa) := by
      have e : (HandSHeadRun.topDef (OpenLaw.row PySem.Challenge.rw_treelayers_k01_trees_layers_and_claims_r).prog 53).name = ("law" : PySem.Str) := by kernel_rfl
      rw [← e]
      exact hmg0
    obtain ⟨fd, sp, hb, hsp, hF⟩ := K01.facts (P := (PySem.Challenge.rw_treelayers_k01_trees_layers_and_claims_r).prog) (w := w) law_true KX G hmg c
    exact ⟨K, fd, sp, KX, hb, fun H a ns hl _ hS => hsp H a ns hl hS, fun base _ _ => hF base⟩
end
section
set_option linter.all false
set_option maxRecDepth 100000
namespace Tl
/-! ### to reckon with denotations -/
theorem bind_val {α β : Type} (a : α) (ρ : Env) (f : α → Env → M β) : M.bind (some (.val a, ρ)) f = f a ρ := rfl
theorem bind_exn {α β : Type} (x : Nat) (ρ : Env) (f : α → Env → M β) : M.bind (some (.exn x, ρ)) f = some (.exn x, ρ) := rfl
theorem callN_succ {T : List Fn} {n i : Nat} {fn : Fn} {vs : List PV} (h : T[i]? = some fn) : callN T (n + 1) i vs = runFn (callN T n) fn vs := by
  show (match T[i]? with | some fn => runFn (callN T n) fn vs | none => none) = _
  rw [h]
/-- a comprehension whose block leaves everything as it was -/
theorem compLoop_ok {fc fe : Env → M (PV × Bool)} {tg own : List Nat} {ρ0 : Env} (p : PV → Bool) (g : PV → PV) : ∀ {xs acc : List PV},
    (∀ x ∈ xs, ∃ ρ1 b ρ2, bindT tg x ρ0 = some ρ1 ∧ fc ρ1 = some (.val (.bl (p x), b), ρ2) ∧ (p x = true → ∃ b' ρ3, fe ρ2 = some (.val (g x, b'), ρ3) ∧ wipeP ρ3 own = ρ0) ∧ (p x = false → wipeP ρ2 own = ρ0)) →
    compLoop fc fe tg own xs acc ρ0 = some (.val (acc ++ (xs.filter p).map g), ρ0)
  | [], acc, _ => by unfold compLoop; simp
  | x :: xs, acc, h => by
    obtain ⟨ρ1, b, ρ2, h1, h2, h3, h4⟩ := h x (by simp)
    unfold compLoop
    rw [h1]
    simp only [h2]
    cases e : p x with
    | true =>
      obtain ⟨b', ρ3, h5, h6⟩ := h3 e
      simp only [h5, h6]
      rw [compLoop_ok p g fun y hy => h y (by simp [hy]), List.filter_cons_of_pos e]
      simp
    | false =>
      simp only [h4 e]
      rw [compLoop_ok p g fun y hy => h y (by simp [hy]), List.filter_cons_of_neg (by simp [e])]
theorem den_comp {Φ : Fun} {tg own : List Nat} {it cond elt : C} {ρ ρ1 : Env} {v : PV} {b : Bool} {xs : List PV} (p : PV → Bool) (g : PV → PV) (hit : den Φ it ρ = some (.val (v, b), ρ1)) (hx : itemsOf v = some xs) (hb : xs.length ≤ big)
    (h : ∀ x ∈ xs, ∃ ρ2 b ρ3, bindT tg x (wipeP ρ1 own) = some ρ2 ∧ den Φ cond ρ2 = some (.val (.bl (p x), b), ρ3) ∧ (p x = true → ∃ b' ρ4, den Φ elt ρ3 = some (.val (g x, b'), ρ4) ∧ wipeP ρ4 own = wipeP ρ1 own) ∧ (p x = false → wipeP ρ3 own = wipeP ρ1 own)) :
    den Φ (.comp tg own it cond elt) ρ = some (.val (.lst ((xs.filter p).map g), true), keepP ρ1 (wipeP ρ1 own) own) := by
  unfold den
  rw [hit]
  show (match itemsOf v with | none => none | some xs => _) = _
  rw [hx]
  simp only [hb, if_true]
  rw [compLoop_ok p g h]
  rfl
theorem filter_tt {α : Type} (xs : List α) : xs.filter (fun _ => true) = xs := List.filter_eq_self.mpr fun _ _ => rfl
/-- .. without a test -/
theorem den_map {Φ : Fun} {tg own : List Nat} {it elt : C} {ρ ρ1 : Env} {v : PV} {b : Bool} {xs : List PV} (g : PV → PV) (hit : den Φ it ρ = some (.val (v, b), ρ1)) (hx : itemsOf v = some xs) (hb : xs.length ≤ big)
    (h : ∀ x ∈ xs, ∃ ρ2 b' ρ4, bindT tg x (wipeP ρ1 own) = some ρ2 ∧ den Φ elt ρ2 = some (.val (g x, b'), ρ4) ∧ wipeP ρ4 own = wipeP ρ1 own) :
    den Φ (.comp tg own it (.lit (.bl true)) elt) ρ = some (.val (.lst (xs.map g), true), keepP ρ1 (wipeP ρ1 own) own) := by
  have := den_comp (Φ := Φ) (tg := tg) (own := own) (it := it) (cond := .lit (.bl true)) (elt := elt) (fun _ => true) g hit hx hb fun x hx => by
    obtain ⟨ρ2, b', ρ4, h1, h2, h3⟩ := h x hx
    exact ⟨ρ2, false, ρ2, h1, by unfold den; rfl, fun _ => ⟨b', ρ4, h2, h3⟩, fun e => by cases e⟩
  rw [filter_tt] at this
  exact this
/-- a for loop that keeps an invariant: R: the state behind the first items -/
theorem forLoop_ok {f : Env → M Fl} {tg : List Nat} (R : List PV → Env → Prop) : ∀ {xs done : List PV} {ρ : Env}, R done ρ →
    (∀ x pre ρ, R pre ρ → x ∈ xs → ∃ ρ1 ρ2, bindT tg x ρ = some ρ1 ∧ f ρ1 = some (.val .nx, ρ2) ∧ R (pre ++ [x]) ρ2) → ∃ ρ', forLoop f tg xs ρ = some (.val .nx, ρ') ∧ R (done ++ xs) ρ'
  | [], done, ρ, h, _ => ⟨ρ, by unfold forLoop; rfl, by simpa using h⟩
  | x :: xs, done, ρ, h, hs => by
    obtain ⟨ρ1, ρ2, h1, h2, h3⟩ := hs x done ρ h (by simp)
    obtain ⟨ρ', h4, h5⟩ := forLoop_ok (xs := xs) R h3 fun y pre ρ hr hy => hs y pre ρ hr (by simp [hy])
    refine ⟨ρ', ?_, by simpa using h5⟩
    unfold forLoop
    rw [h1]
    simp only [h2, bind_val, h4]
theorem allB_map (f : PV → Bool) : ∀ xs : List PV, allB (xs.map fun x => .bl (f x)) = some (xs.map f)
  | [] => rfl
  | x :: xs => by simp [allB, allB_map f xs]
theorem getAt_nat {α : Type} (xs : List α) (i : Nat) : getAt xs (i : Int) = xs[i]? := by
  unfold getAt ixOf
  rw [if_pos (by omega)]
  by_cases h : i < xs.length
  · rw [if_pos (by omega)]; simp
  · rw [if_neg (by omega), List.getElem?_eq_none (by omega)]; rfl
end Tl
namespace Tl
section
variable {Φ : Fun} {ρ : Env} {fx : List Nat}
theorem d_var {i : Nat} : den Φ (.var i) ρ = match ρ[i]? with
    | some (some (f, v)) => some (.val (v, false), if f then ρ.set i (some (false, v)) else ρ)
    | _ => none := by unfold den; rfl
theorem d_lit {v : PV} : den Φ (.lit v) ρ = some (.val (v, false), ρ) := by unfold den; rfl
theorem d_op {o : Op} {a : CL} : den Φ (.op o a) ρ = (denL Φ a ρ).bind fun as ρ' => match looked ρ' as with
    | none => none
    | some vs => match opDen o vs with
      | none => none
      | some v => some (.val (v, o.makes && v.isCont), ρ') := by unfold den; rfl
theorem d_seq {l : Bool} {a : CL} : den Φ (.seq l a) ρ = (denV Φ a ρ).bind fun vs ρ' => some (.val (if l then (.lst vs, true) else (.tup vs, false)), ρ') := by unfold den; rfl
theorem d_not {a : C} : den Φ (.not a) ρ = (den Φ a ρ).bind fun v ρ' => match v.1 with
    | .bl b => some (.val (.bl !b, false), ρ')
    | _ => none := by
  conv => lhs; unfold den
  try rfl
theorem d_and {a b : C} : den Φ (.and a b) ρ = (den Φ a ρ).bind fun v ρ' => match v.1 with
    | .bl true => den Φ b ρ'
    | .bl false => some (.val (.bl false, false), ρ')
    | _ => none := by
  conv => lhs; unfold den
  try rfl
theorem d_or {a b : C} : den Φ (.or a b) ρ = (den Φ a ρ).bind fun v ρ' => match v.1 with
    | .bl false => den Φ b ρ'
    | .bl true => some (.val (.bl true, false), ρ')
    | _ => none := by
  conv => lhs; unfold den
  try rfl
theorem d_ite {c a b : C} : den Φ (.ite c a b) ρ = (den Φ c ρ).bind fun v ρ' => match v.1 with
    | .bl true => den Φ a ρ'
    | .bl false => den Φ b ρ'
    | _ => none := by
  conv => lhs; unfold den
  try rfl
theorem d_chain {o p : Op} {a c : CL} : den Φ (.chain o p a c) ρ = (denL Φ a ρ).bind fun as ρ1 => match looked ρ1 as with
    | some [x, y] => if y.isCont then none else (match opDen o [x, y] with
      | some (.bl true) => (denL Φ c ρ1).bind fun as2 ρ2 => match looked ρ2 (.inr y :: as2) with
        | some vs => (match opDen p vs with
          | some v => some (.val (v, false), ρ2)
          | none => none)
        | none => none
      | some (.bl false) => some (.val (.bl false, false), ρ1)
      | _ => none)
    | _ => none := by unfold den; rfl
theorem d_call {f : Nat} {bs : List Bool} {a : CL} : den Φ (.call f bs a) ρ = (denB Φ bs a ρ).bind fun as ρ' => match lent ρ' as with
    | none => none
    | some vs => if nodupB (places as) then (match Φ f vs with
      | none => none
      | some (r, ws) => match back ρ' (places as) ws with
        | none => none
        | some ρ2 => some (r, ρ2)) else none := by unfold den; rfl
theorem x_seq {a b : S} : exe Φ fx (.seq a b) ρ = (exe Φ fx a ρ).bind fun f ρ' => match f with
    | .nx => exe Φ fx b ρ'
    | f => some (.val f, ρ') := by
  conv => lhs; unfold exe
  try rfl
theorem x_set {i : Nat} {c : C} : exe Φ fx (.set i c) ρ = (den Φ c ρ).bind fun v ρ' => if noneIn fx [i] && decide (i < ρ'.length) then some (.val .nx, ρ'.set i (some (v.2, v.1))) else none := by unfold exe; rfl
theorem x_ite {c : C} {a b : S} : exe Φ fx (.ite c a b) ρ = (den Φ c ρ).bind fun v ρ' => match v.1 with
    | .bl true => exe Φ fx a ρ'
    | .bl false => exe Φ fx b ρ'
    | _ => none := by
  conv => lhs; unfold exe
  try rfl
theorem x_ret {c : C} : exe Φ fx (.ret c) ρ = (mv Φ c ρ).bind fun v ρ' => some (.val (.rt v.1 v.2), ρ') := by unfold exe; rfl
theorem x_skip : exe Φ fx .skip ρ = some (.val .nx, ρ) := by unfold exe; rfl
theorem x_raise {x : Nat} : exe Φ fx (.raise x) ρ = some (.exn x, ρ) := by unfold exe; rfl
theorem x_ex {c : C} : exe Φ fx (.ex c) ρ = (den Φ c ρ).bind fun _ ρ' => some (.val .nx, ρ') := by unfold exe; rfl
theorem x_for {tg : List Nat} {it : C} {b : S} : exe Φ fx (.for tg it b) ρ = (den Φ it ρ).bind fun v ρ1 => match itemsOf v.1 with
    | some xs => if noneIn fx tg then forLoop (fun ρ => exe Φ fx b ρ) tg xs ρ1 else none
    | none => none := by
  conv => lhs; unfold exe
  try rfl
theorem x_app {i : Nat} {c : C} : exe Φ fx (.app i c) ρ = if lstAt ρ i then (den Φ c ρ).bind fun v ρ1 => match ρ1[i]? with
    | some (some (true, .lst xs)) => if xs.length < big then some (.val .nx, ρ1.set i (some (true, .lst (xs ++ [v.1])))) else none
    | _ => none else none := by unfold exe; rfl
theorem x_ixset {i : Nat} {k c : C} : exe Φ fx (.ixset i k c) ρ = (den Φ c ρ).bind fun v ρ1 => if setAt ρ1 i then (den Φ k ρ1).bind fun j ρ2 => match ρ2[i]? with
    | some (some (true, o)) => (match putIx o j.1 v.1 with
      | some o' => some (.val .nx, ρ2.set i (some (true, o')))
      | none => none)
    | _ => none else none := by unfold exe; rfl
theorem x_par {is : List Nat} {a : CL} : exe Φ fx (.par is a) ρ = (denF Φ a ρ).bind fun vs ρ' => if noneIn fx is && nodupB is then (match setAll is vs ρ' with
    | some ρ2 => some (.val .nx, ρ2)
    | none => none) else none := by unfold exe; rfl
theorem x_setT {is : List Nat} {c : C} : exe Φ fx (.setT is c) ρ = (den Φ c ρ).bind fun v ρ' => if noneIn fx is then (match bindT is v.1 ρ' with
    | some ρ2 => some (.val .nx, ρ2)
    | none => none) else none := by unfold exe; rfl
theorem x_while {c : C} {b : S} : exe Φ fx (.while c b) ρ = whileLoop (fun ρ => den Φ c ρ) (fun ρ => exe Φ fx b ρ) 64 ρ := by
  conv => lhs; unfold exe
theorem x_try {n : Nat} {b : S} {hs : List (Nat × PV)} : exe Φ fx (.try n b hs) ρ = match exe Φ fx b ρ with
    | some (.exn x, ρ') => if x < n then (match hs.find? fun h => h.1 == x with
      | some h => some (.val (.rt h.2 false), ρ')
      | none => some (.exn x, ρ')) else none
    | r => r := by
  conv => lhs; unfold exe
  try rfl
end
end Tl
namespace Tl
section
variable {Φ : Fun} {ρ ρ1 : Env}
/-- a comprehension whose parts leave the frame as it is -/
theorem den_mapP {tg own : List Nat} {it elt : C} {v : PV} {b : Bool} {xs : List PV} (g : PV → PV) (hit : den Φ it ρ = some (.val (v, b), ρ1)) (hx : itemsOf v = some xs) (hb : xs.length ≤ big)
    (h : ∀ x ∈ xs, ∃ ρ2, bindT tg x (wipeP ρ1 own) = some ρ2 ∧ wipeP ρ2 own = wipeP ρ1 own ∧ ∃ b', den Φ elt ρ2 = some (.val (g x, b'), ρ2)) :
    den Φ (.comp tg own it (.lit (.bl true)) elt) ρ = some (.val (.lst (xs.map g), true), keepP ρ1 (wipeP ρ1 own) own) :=
  den_map g hit hx hb fun x hx => by
    obtain ⟨ρ2, h1, h2, b', h3⟩ := h x hx
    exact ⟨ρ2, b', ρ2, h1, h3, h2⟩
theorem den_compP {tg own : List Nat} {it cond elt : C} {v : PV} {b : Bool} {xs : List PV} (p : PV → Bool) (g : PV → PV) (hit : den Φ it ρ = some (.val (v, b), ρ1)) (hx : itemsOf v = some xs) (hb : xs.length ≤ big)
    (h : ∀ x ∈ xs, ∃ ρ2, bindT tg x (wipeP ρ1 own) = some ρ2 ∧ wipeP ρ2 own = wipeP ρ1 own ∧ (∃ b', den Φ cond ρ2 = some (.val (.bl (p x), b'), ρ2)) ∧ ∃ b', den Φ elt ρ2 = some (.val (g x, b'), ρ2)) :
    den Φ (.comp tg own it cond elt) ρ = some (.val (.lst ((xs.filter p).map g), true), keepP ρ1 (wipeP ρ1 own) own) :=
  den_comp p g hit hx hb fun x hx => by
    obtain ⟨ρ2, h1, h2, ⟨b', h3⟩, b2, h4⟩ := h x hx
    exact ⟨ρ2, b', ρ2, h1, h3, fun _ => ⟨b2, ρ2, h4, h2⟩, fun _ => h2⟩
end
end Tl
namespace Tl
/-- a comprehension by its loop -/
theorem den_compG {Φ : Fun} {tg own : List Nat} {it cond elt : C} {ρ ρ1 ρ2 : Env} {v : PV} {b : Bool} {xs ys : List PV} (hit : den Φ it ρ = some (.val (v, b), ρ1)) (hx : itemsOf v = some xs) (hb : xs.length ≤ big)
    (hl : compLoop (fun ρ => den Φ cond ρ) (fun ρ => den Φ elt ρ) tg own xs [] (wipeP ρ1 own) = some (.val ys, ρ2)) :
    den Φ (.comp tg own it cond elt) ρ = some (.val (.lst ys, true), keepP ρ1 ρ2 own) := by
  unfold den
  rw [hit]
  show (match itemsOf v with | none => none | some xs => _) = _
  rw [hx]
  simp only [hb, if_true]
  rw [hl]
  rfl
theorem rangeP_len : ∀ (n : Nat) (a : Int), (rangeP a n).length = n
  | 0, _ => rfl
  | n + 1, a => by simp [rangeP, rangeP_len n]
end Tl
end
section
set_option linter.all false
set_option maxRecDepth 100000
namespace K01
open Tl
def letter (c : Nat) : Bool := decide (97 ≤ c) && decide (c ≤ 122)
/-- a word of at most m letters -/
def isW (v : PV) (m : Int) : Bool := match v with
  | .str x => decide (1 ≤ (x.length : Int)) && (decide ((x.length : Int) ≤ m) && x.all letter)
  | _ => false
theorem letters_any (c : Nat) : ([97, 98, 99, 100, 101, 102, 103, 104, 105, 106, 107, 108, 109, 110, 111, 112, 113, 114, 115, 116, 117, 118, 119, 120, 121, 122] : List Nat).any (· == c) = letter c := by
  unfold letter
  by_cases h : 97 ≤ c ∧ c ≤ 122
  · obtain ⟨k, rfl⟩ : ∃ k, c = 97 + k := ⟨c - 97, by omega⟩
    have : k < 26 := by omega
    have key : ∀ k, k < 26 → ([97, 98, 99, 100, 101, 102, 103, 104, 105, 106, 107, 108, 109, 110, 111, 112, 113, 114, 115, 116, 117, 118, 119, 120, 121, 122] : List Nat).any (· == 97 + k) = (decide (97 ≤ 97 + k) && decide (97 + k ≤ 122)) := by decide
    exact key k this
  · have e : (decide (97 ≤ c) && decide (c ≤ 122)) = false := by
      rw [Bool.and_eq_false_iff]; rcases Nat.lt_or_ge c 97 with z | z
      · exact .inl (by simpa using z)
      · exact .inr (by simp; omega)
    rw [e]
    simp
    omega
/-- what is reckoned with: short texts, lists of at most 60 -/
def okS (v : PV) : Prop := ∀ x, v = .str x → x.length ≤ 60
theorem e_is_word (n : Nat) (v : PV) (m : Int) (hv : okS v) : callN T (n + 1) 0 [v, .int m] = some (.val (.bl (isW v m), false), []) := by
  rw [callN_succ (fn := F0) rfl]
  unfold F0
  cases v with
  | str x =>
    have hx : x.length ≤ big := by have := hv x rfl; unfold big; omega
    have hc : den (callN T n) F0c0 [some (false, .str x), some (false, .int m), none] = some (.val (.lst (x.map fun c => .bl (letter c)), true), [some (false, .str x), some (false, .int m), none]) := by
      refine (den_mapP (v := .str x) (b := false) (ρ1 := [some (false, .str x), some (false, .int m), none]) (fun v => match v with | .str [c] => .bl (letter c) | _ => .non) (by simp [d_var]) rfl (by simpa using hx) fun y hy => ?_).trans ?_
      · obtain ⟨c, _, rfl⟩ := List.mem_map.mp hy
        have hl := letters_any c
        simp only [List.any_cons, List.any_nil, Bool.or_false] at hl
        exact ⟨_, rfl, rfl, by simp [F0e0, runFn, entry, lentIx, x_seq, x_ite, x_ret, x_skip, x_set, x_raise, x_ex, d_var, d_lit, d_or, d_not, d_and, d_ite, d_chain, d_op, d_seq, d_call, denL, denV, denB, looked, lent, places, nodupB, back, bind_val, mv, opDen, noneIn, wipeP, keepP, backs, PV.isCont, Op.makes, dIsin, opIn, hl]⟩
      · rw [List.map_map]; rfl
    have ha : allB (x.map fun c => .bl (letter c)) = some (x.map letter) := by
      clear hv hx hc
      induction x with
      | nil => rfl
      | cons c x ih => simp [allB, ih]
    by_cases h1 : (1 : Int) ≤ x.length <;> by_cases h2 : (x.length : Int) ≤ m <;>
      simp [runFn, entry, lentIx, x_seq, x_ite, x_ret, x_skip, x_set, x_raise, x_ex, d_var, d_lit, d_or, d_not, d_and, d_ite, d_chain, d_op, d_seq, d_call, denL, denV, denB, looked, lent, places, nodupB, back, bind_val, mv, opDen, noneIn, wipeP, keepP, backs, PV.isCont, Op.makes, dIsStr, dLen, dLe, dAll, hx, h1, h2, hc, ha, isW]
  | _ => simp [runFn, entry, lentIx, exe, den, denL, looked, bind_val, mv, opDen, dIsStr, isW, backs]
end K01
end
section
set_option linter.all false
set_option maxRecDepth 100000
namespace K01
open Tl
mutual
def ok : PV → Bool
  | .str x => decide (x.length ≤ 60)
  | .tup xs => decide (xs.length ≤ 60) && okL xs
  | .lst xs => decide (xs.length ≤ 60) && okL xs
  | .dic _ _ => false
  | .scr _ => false
  | _ => true
def okL : List PV → Bool
  | [] => true
  | x :: xs => ok x && okL xs
end
theorem okL_mem : ∀ {xs : List PV}, okL xs = true → ∀ x ∈ xs, ok x = true
  | [], _, x, h => by cases h
  | y :: xs, e, x, h => by
    unfold okL at e
    rw [Bool.and_eq_true] at e
    rcases List.mem_cons.mp h with rfl | h
    · exact e.1
    · exact okL_mem e.2 x h
theorem ok_S {v : PV} (h : ok v = true) : okS v := fun x e => by subst e; unfold ok at h; simpa using h
theorem ok_tup {xs : List PV} (h : ok (.tup xs) = true) : xs.length ≤ 60 ∧ ∀ x ∈ xs, ok x = true := by
  unfold ok at h
  rw [Bool.and_eq_true, decide_eq_true_eq] at h
  exact ⟨h.1, okL_mem h.2⟩
theorem ok_lst {xs : List PV} (h : ok (.lst xs) = true) : xs.length ≤ 60 ∧ ∀ x ∈ xs, ok x = true := by
  unfold ok at h
  rw [Bool.and_eq_true, decide_eq_true_eq] at h
  exact ⟨h.1, okL_mem h.2⟩
theorem big60 {n : Nat} (h : n ≤ 60) : n ≤ big := by unfold big; omega
theorem e_is_name (n : Nat) (v : PV) (hv : okS v) : callN T (n + 2) 1 [v] = some (.val (.bl (isW v 4), false), []) := by
  rw [callN_succ (fn := F1) rfl]
  unfold F1
  simp [runFn, entry, lentIx, x_seq, x_ite, x_ret, x_skip, x_set, x_raise, x_ex, d_var, d_lit, d_or, d_not, d_and, d_ite, d_chain, d_op, d_seq, d_call, denL, denV, denB, looked, lent, places, nodupB, back, bind_val, mv, opDen, noneIn, wipeP, keepP, backs, PV.isCont, Op.makes, e_is_word n v 4 hv]
theorem e_is_content (n : Nat) (v : PV) (hv : okS v) : callN T (n + 2) 2 [v] = some (.val (.bl (isW v 8), false), []) := by
  rw [callN_succ (fn := F2) rfl]
  unfold F2
  simp [runFn, entry, lentIx, x_seq, x_ite, x_ret, x_skip, x_set, x_raise, x_ex, d_var, d_lit, d_or, d_not, d_and, d_ite, d_chain, d_op, d_seq, d_call, denL, denV, denB, looked, lent, places, nodupB, back, bind_val, mv, opDen, noneIn, wipeP, keepP, backs, PV.isCont, Op.makes, e_is_word n v 8 hv]
/-! ### pairs -/
def pairOk (v : PV) : Bool := match v with
  | .tup [a, _] => isW a 4
  | _ => false
def fstT (v : PV) : List Nat := match v with
  | .tup (.str x :: _) => x
  | _ => []
def ascB : List (List Nat) → Bool
  | x :: y :: r => tlt x y && ascB (y :: r)
  | _ => true
def prs (v : PV) : Bool := match v with
  | .tup xs => xs.all pairOk && ascB (xs.map fstT)
  | _ => false
theorem pairOk_shape {v : PV} (h : pairOk v = true) : ∃ x b, v = .tup [.str x, b] ∧ isW (.str x) 4 = true := by
  unfold pairOk at h
  split at h
  · rename_i a b
    cases a with
    | str x => exact ⟨x, b, rfl, h⟩
    | _ => cases h
  · cases h
theorem ascB_asd : ∀ {l : List (List Nat)}, ascB l = true ↔ Asd l
  | [] => by simp [ascB, Asd]
  | [x] => by simp [ascB, Asd]
  | x :: y :: r => by
    have ih := ascB_asd (l := y :: r)
    unfold ascB
    rw [Bool.and_eq_true, ih]
    constructor
    · rintro ⟨h1, h2⟩
      refine List.pairwise_cons.mpr ⟨fun z hz => ?_, h2⟩
      rcases List.mem_cons.mp hz with rfl | hz
      · exact h1
      · exact tlt_trans h1 ((List.pairwise_cons.mp h2).1 z hz)
    · intro h
      obtain ⟨h1, h2⟩ := List.pairwise_cons.mp h
      exact ⟨h1 y (by simp), h2⟩
theorem eqL_strs : ∀ (a b : List (List Nat)), PV.eqL (a.map .str) (b.map .str) = decide (a = b)
  | [], [] => rfl
  | [], _ :: _ => by simp [PV.eqL]
  | _ :: _, [] => by simp [PV.eqL]
  | x :: a, y :: b => by
    simp only [List.map_cons, PV.eqL, PV.eq, eqL_strs a b]
    by_cases h : x = y <;> by_cases k : a = b <;> simp [h, k]
theorem asd_sortT {l : List (List Nat)} : decide (l = sortT l) = ascB l := by
  cases e : ascB l with
  | true => exact decide_eq_true (asd_eq (ascB_asd.mp e) sortT_asd fun x => sortT_mem.symm)
  | false =>
    refine decide_eq_false fun h => ?_
    rw [h, ascB_asd.mpr sortT_asd] at e
    cases e
theorem flatL_strs : ∀ a : List (List Nat), PV.flatL (a.map .str) = true
  | [] => rfl
  | x :: a => by simp [PV.flatL, PV.flat, flatL_strs a]
theorem depL_strs : ∀ a : List (List Nat), PV.depL (a.map .str) = 0
  | [] => rfl
  | x :: a => by simp [PV.depL, PV.dep, depL_strs a]
theorem allS_strs : ∀ a : List (List Nat), allS (a.map .str) = some a
  | [] => rfl
  | x :: a => by simp [allS, allS_strs a]
theorem e_are_pairs (n : Nat) (v : PV) (hv : ok v = true) : callN T (n + 3) 3 [v] = some (.val (.bl (prs v), false), []) := by
  rw [callN_succ (fn := F3) rfl]
  unfold F3
  cases v with
  | tup xs =>
    obtain ⟨hl, hx⟩ := ok_tup hv
    have hc : den (callN T (n + 2)) F3c0 [some (false, .tup xs), none, none] = some (.val (.lst (xs.map fun x => .bl (pairOk x)), true), [some (false, .tup xs), none, none]) := by
      refine (den_mapP (v := .tup xs) (b := false) (ρ1 := [some (false, .tup xs), none, none]) (fun x => .bl (pairOk x)) (by simp [d_var]) rfl (big60 hl) fun y hy => ?_).trans rfl
      refine ⟨_, rfl, rfl, ?_⟩
      have oy := hx y hy
      cases y with
      | tup ys =>
        obtain ⟨hl2, hx2⟩ := ok_tup oy
        match ys, hx2 with
        | [a, b], hx2 => simp [F3e0, runFn, entry, lentIx, x_seq, x_ite, x_ret, x_skip, x_set, x_raise, x_ex, d_var, d_lit, d_or, d_not, d_and, d_ite, d_chain, d_op, d_seq, d_call, denL, denV, denB, looked, lent, places, nodupB, back, bind_val, mv, opDen, noneIn, wipeP, keepP, backs, PV.isCont, Op.makes, dIsTup, dLen, dEq, dIdx, PV.eq, PV.cmpb, PV.flat, PV.dep, getAt, ixOf, e_is_name n a (ok_S (hx2 a (by simp))), pairOk]
        | [], _ => simp [F3e0, runFn, entry, lentIx, x_seq, x_ite, x_ret, x_skip, x_set, x_raise, x_ex, d_var, d_lit, d_or, d_not, d_and, d_ite, d_chain, d_op, d_seq, d_call, denL, denV, denB, looked, lent, places, nodupB, back, bind_val, mv, opDen, noneIn, wipeP, keepP, backs, PV.isCont, Op.makes, dIsTup, dLen, dEq, dIdx, PV.eq, PV.cmpb, PV.flat, PV.dep, pairOk]
        | [a], _ => simp [F3e0, runFn, entry, lentIx, x_seq, x_ite, x_ret, x_skip, x_set, x_raise, x_ex, d_var, d_lit, d_or, d_not, d_and, d_ite, d_chain, d_op, d_seq, d_call, denL, denV, denB, looked, lent, places, nodupB, back, bind_val, mv, opDen, noneIn, wipeP, keepP, backs, PV.isCont, Op.makes, dIsTup, dLen, dEq, dIdx, PV.eq, PV.cmpb, PV.flat, PV.dep, pairOk]
        | a :: b :: c :: r, _ =>
          have : ((r.length : Int) + 1 + 1 + 1 == 2) = false := by simp; omega
          simp [F3e0, runFn, entry, lentIx, x_seq, x_ite, x_ret, x_skip, x_set, x_raise, x_ex, d_var, d_lit, d_or, d_not, d_and, d_ite, d_chain, d_op, d_seq, d_call, denL, denV, denB, looked, lent, places, nodupB, back, bind_val, mv, opDen, noneIn, wipeP, keepP, backs, PV.isCont, Op.makes, dIsTup, dLen, dEq, dIdx, PV.eq, PV.cmpb, PV.flat, PV.dep, pairOk, this]
      | _ => simp [F3e0, runFn, entry, lentIx, x_seq, x_ite, x_ret, x_skip, x_set, x_raise, x_ex, d_var, d_lit, d_or, d_not, d_and, d_ite, d_chain, d_op, d_seq, d_call, denL, denV, denB, looked, lent, places, nodupB, back, bind_val, mv, opDen, noneIn, wipeP, keepP, backs, PV.isCont, Op.makes, dIsTup, pairOk]
    have ha := allB_map pairOk xs
    by_cases h : xs.all pairOk = true
    · have hs : ∀ x ∈ xs, ∃ b, x = .tup [.str (fstT x), b] := fun x hm => by
        obtain ⟨z, b, rfl, _⟩ := pairOk_shape (List.all_eq_true.mp h x hm)
        exact ⟨b, rfl⟩
      have hc1 : den (callN T (n + 2)) F3c1 [some (false, .tup xs), none, none] = some (.val (.lst ((xs.map fstT).map .str), true), [some (false, .tup xs), none, none]) := by
        refine (den_mapP (v := .tup xs) (b := false) (ρ1 := [some (false, .tup xs), none, none]) (fun x => .str (fstT x)) (by simp [d_var]) rfl (big60 hl) fun y hy => ?_).trans (by rw [List.map_map]; rfl)
        refine ⟨_, rfl, rfl, ?_⟩
        obtain ⟨b, e⟩ := hs y hy
        generalize fstT y = z at e
        subst e
        simp [F3e1, runFn, entry, lentIx, x_seq, x_ite, x_ret, x_skip, x_set, x_raise, x_ex, d_var, d_lit, d_or, d_not, d_and, d_ite, d_chain, d_op, d_seq, d_call, denL, denV, denB, looked, lent, places, nodupB, back, bind_val, mv, opDen, noneIn, wipeP, keepP, backs, PV.isCont, Op.makes, dIdx, getAt, ixOf]
      have hlen : (xs.map fstT).length < 64 := by rw [List.length_map]; omega
      have he := eqL_strs (xs.map fstT) (sortT (xs.map fstT))
      rw [asd_sortT] at he
      rw [show prs (.tup xs) = ascB (xs.map fstT) by simp [prs, h]]
      have ht : (xs.map pairOk).all id = true := by simpa using h
      generalize xs.map fstT = ns at hc1 hlen he ⊢
      generalize xs.map pairOk = bs at ha ht
      simp [runFn, entry, lentIx, x_seq, x_ite, x_ret, x_skip, x_set, x_raise, x_ex, d_var, d_lit, d_or, d_not, d_and, d_ite, d_chain, d_op, d_seq, d_call, denL, denV, denB, looked, lent, places, nodupB, back, bind_val, mv, opDen, noneIn, wipeP, keepP, backs, PV.isCont, Op.makes, dIsTup, hc, hc1, dAll, ha, ht, dSortSet, allS_strs, hlen, dEq, PV.cmpb, PV.flat, PV.dep, flatL_strs, depL_strs, PV.eq, he]
    · have h : xs.all pairOk = false := by simpa using h
      simp [runFn, entry, lentIx, x_seq, x_ite, x_ret, x_skip, x_set, x_raise, x_ex, d_var, d_lit, d_or, d_not, d_and, d_ite, d_chain, d_op, d_seq, d_call, denL, denV, denB, looked, lent, places, nodupB, back, bind_val, mv, opDen, noneIn, wipeP, keepP, backs, PV.isCont, Op.makes, dIsTup, hc, dAll, ha, h, prs]
  | _ => simp [runFn, entry, lentIx, x_seq, x_ite, x_ret, x_skip, x_set, x_raise, x_ex, d_var, d_lit, d_or, d_not, d_and, d_ite, d_chain, d_op, d_seq, d_call, denL, denV, denB, looked, lent, places, nodupB, back, bind_val, mv, opDen, noneIn, wipeP, keepP, backs, PV.isCont, Op.makes, dIsTup, prs]
end K01
end
section
set_option linter.all false
set_option maxRecDepth 100000
namespace K01
open Tl
def sndV (v : PV) : PV := match v with
  | .tup [_, b] => b
  | _ => .non
theorem prs_shape {v : PV} (h : prs v = true) : ∃ xs, v = .tup xs ∧ ∀ x ∈ xs, ∃ a, x = .tup [.str a, sndV x] := by
  unfold prs at h
  split at h
  · rename_i xs
    rw [Bool.and_eq_true] at h
    refine ⟨xs, rfl, fun x hx => ?_⟩
    obtain ⟨a, b, rfl, _⟩ := pairOk_shape (List.all_eq_true.mp h.1 x hx)
    exact ⟨a, rfl⟩
  · cases h
/-- the items of a tuple -/
def itT (v : PV) : List PV := match v with
  | .tup xs => xs
  | _ => []
def fold : Nat → PV → Bool
  | 0, _ => false
  | d + 1, v => prs v && (itT v).all fun x => isW (sndV x) 8 || fold d (sndV x)
theorem ok_snd {x : PV} (h : ok x = true) : ok (sndV x) = true := by
  unfold sndV
  split
  · exact (ok_tup h).2 _ (by simp)
  · rfl
theorem e_is_folder : ∀ (d n : Nat) (v : PV), ok v = true → callN T (n + d + 4) 4 [v, .int d] = some (.val (.bl (fold d v), false), [])
  | 0, n, v, hv => by
    rw [show n + 0 + 4 = (n + 3) + 1 from rfl, callN_succ (fn := F4) rfl]
    unfold F4
    simp [runFn, entry, lentIx, x_seq, x_ite, x_ret, x_skip, x_set, x_raise, x_ex, d_var, d_lit, d_or, d_not, d_and, d_ite, d_chain, d_op, d_seq, d_call, denL, denV, denB, looked, lent, places, nodupB, back, bind_val, mv, opDen, noneIn, wipeP, keepP, backs, PV.isCont, Op.makes, dEq, PV.cmpb, PV.flat, PV.dep, PV.eq, fold]
  | d + 1, n, v, hv => by
    rw [show n + (d + 1) + 4 = (n + d + 4) + 1 from by omega, callN_succ (fn := F4) rfl]
    have e3 := e_are_pairs (n + d + 1) v hv
    rw [show n + d + 1 + 3 = n + d + 4 from rfl] at e3
    have hd : ((d : Int) + 1 == 0) = false := by simp; omega
    unfold F4
    by_cases hp : prs v = true
    · obtain ⟨xs, rfl, hs⟩ := prs_shape hp
      obtain ⟨hl, hx⟩ := ok_tup hv
      have hc : den (callN T (n + d + 4)) F4c0 [some (false, .tup xs), some (false, .int (d + 1)), none, none] = some (.val (.lst (xs.map fun x => .bl (isW (sndV x) 8 || fold d (sndV x))), true), [some (false, .tup xs), some (false, .int (d + 1)), none, none]) := by
        refine (den_mapP (v := .tup xs) (b := false) (ρ1 := [some (false, .tup xs), some (false, .int (d + 1)), none, none]) (fun x => .bl (isW (sndV x) 8 || fold d (sndV x))) (by simp [d_var]) rfl (big60 hl) fun y hy => ?_).trans rfl
        obtain ⟨a, e⟩ := hs y hy
        have oy := ok_snd (hx y hy)
        generalize sndV y = z at e oy
        subst e
        refine ⟨_, rfl, rfl, ?_⟩
        have e1 := e_is_content (n + d + 2) z (ok_S oy)
        rw [show n + d + 2 + 2 = n + d + 4 from rfl] at e1
        have e2 := e_is_folder d n z oy
        have hd2 : (d : Int) + 1 - 1 = d := by omega
        cases hw : isW z 8 <;> simp [F4e0, runFn, entry, lentIx, x_seq, x_ite, x_ret, x_skip, x_set, x_raise, x_ex, d_var, d_lit, d_or, d_not, d_and, d_ite, d_chain, d_op, d_seq, d_call, denL, denV, denB, looked, lent, places, nodupB, back, bind_val, mv, opDen, noneIn, wipeP, keepP, backs, PV.isCont, Op.makes, e1, e2, hw, dSub, hd2, sndV]
      have ha := allB_map (fun x => isW (sndV x) 8 || fold d (sndV x)) xs
      rw [show fold (d + 1) (.tup xs) = (xs.map fun x => isW (sndV x) 8 || fold d (sndV x)).all id by
        show (prs (.tup xs) && xs.all _) = _
        rw [hp, Bool.true_and, List.all_map]; rfl]
      generalize (xs.map fun x => isW (sndV x) 8 || fold d (sndV x)) = bs at ha ⊢
      rw [hp] at e3
      simp [runFn, entry, lentIx, x_seq, x_ite, x_ret, x_skip, x_set, x_raise, x_ex, d_var, d_lit, d_or, d_not, d_and, d_ite, d_chain, d_op, d_seq, d_call, denL, denV, denB, looked, lent, places, nodupB, back, bind_val, mv, opDen, noneIn, wipeP, keepP, backs, PV.isCont, Op.makes, dEq, PV.cmpb, PV.flat, PV.dep, PV.eq, hd, e3, hc, dAll, ha]
    · have hp : prs v = false := by simpa using hp
      rw [hp] at e3
      rw [show fold (d + 1) v = false by unfold fold; rw [hp]; rfl]
      simp [runFn, entry, lentIx, x_seq, x_ite, x_ret, x_skip, x_set, x_raise, x_ex, d_var, d_lit, d_or, d_not, d_and, d_ite, d_chain, d_op, d_seq, d_call, denL, denV, denB, looked, lent, places, nodupB, back, bind_val, mv, opDen, noneIn, wipeP, keepP, backs, PV.isCont, Op.makes, dEq, PV.cmpb, PV.flat, PV.dep, PV.eq, hd, e3]
def cnt : Nat → PV → Int
  | 0, _ => 0
  | d + 1, v => (itT v).length + ((itT v).map fun x => match sndV x with
    | .tup ys => cnt d (.tup ys)
    | _ => 0).sum
def cntV (d : Nat) (z : PV) : Int := match z with
  | .tup ys => cnt d (.tup ys)
  | _ => 0
end K01
end
section
set_option linter.all false
set_option maxRecDepth 100000
namespace K01
open Tl
theorem fold_shape {d : Nat} {v : PV} (h : fold (d + 1) v = true) : ∃ xs, v = .tup xs ∧ prs v = true ∧ ∀ x ∈ xs, (∃ a, x = .tup [.str a, sndV x]) ∧ (isW (sndV x) 8 || fold d (sndV x)) = true := by
  unfold fold at h
  rw [Bool.and_eq_true] at h
  obtain ⟨xs, rfl, hs⟩ := prs_shape h.1
  exact ⟨xs, rfl, h.1, fun x hx => ⟨hs x hx, List.all_eq_true.mp h.2 x hx⟩⟩
def cntI (d : Nat) (x : PV) : Int := cntV d (sndV x)
theorem e_count_pairs : ∀ (d n : Nat) (v : PV), ok v = true → fold d v = true → callN T (n + d) 5 [v] = some (.val (.int (cnt d v), false), [])
  | 0, n, v, hv, hf => by cases hf
  | d + 1, n, v, hv, hf => by
    obtain ⟨xs, rfl, hp, hs⟩ := fold_shape hf
    obtain ⟨hl, hx⟩ := ok_tup hv
    rw [show n + (d + 1) = (n + d) + 1 from rfl, callN_succ (fn := F5) rfl]
    unfold F5
    obtain ⟨ρ', h1, h2⟩ := forLoop_ok (f := fun ρ => exe (callN T (n + d)) [] F5b0 ρ) (tg := [2, 3]) (xs := xs) (done := []) (ρ := [some (false, .tup xs), some (false, .int xs.length), none, none])
      (fun pre ρ => ∃ s t, ρ = [some (false, .tup xs), some (false, .int (xs.length + (pre.map (cntI d)).sum)), s, t]) ⟨none, none, by simp⟩ fun x pre ρ ⟨s, t, e⟩ hm => by
        subst e
        obtain ⟨⟨a, ex⟩, hz⟩ := hs x hm
        have oy := ok_snd (hx x hm)
        have hc : cntI d x = cntV d (sndV x) := rfl
        rw [List.map_append, List.sum_append]
        simp only [List.map_cons, List.map_nil, List.sum_cons, List.sum_nil, hc]
        generalize sndV x = z at ex hz oy
        subst ex
        refine ⟨_, [some (false, .tup xs), some (false, .int (xs.length + ((pre.map (cntI d)).sum + (cntV d z + 0)))), some (false, .str a), some (false, z)], rfl, ?_, ⟨_, _, rfl⟩⟩
        cases z with
        | tup ys =>
          have hf2 : fold d (.tup ys) = true := by simpa [isW] using hz
          have ih := e_count_pairs d n (.tup ys) oy hf2
          simp [F5b0, runFn, entry, lentIx, x_seq, x_ite, x_ret, x_skip, x_set, x_raise, x_ex, d_var, d_lit, d_or, d_not, d_and, d_ite, d_chain, d_op, d_seq, d_call, denL, denV, denB, looked, lent, places, nodupB, back, bind_val, mv, opDen, noneIn, wipeP, keepP, backs, PV.isCont, Op.makes, dIsTup, ih, dAdd, cntV, Int.add_assoc]
        | _ => simp [F5b0, runFn, entry, lentIx, x_seq, x_ite, x_ret, x_skip, x_set, x_raise, x_ex, d_var, d_lit, d_or, d_not, d_and, d_ite, d_chain, d_op, d_seq, d_call, denL, denV, denB, looked, lent, places, nodupB, back, bind_val, mv, opDen, noneIn, wipeP, keepP, backs, PV.isCont, Op.makes, dIsTup, cntV]
    obtain ⟨s, t, rfl⟩ := h2
    have e : cnt (d + 1) (.tup xs) = xs.length + (xs.map (cntI d)).sum := rfl
    simp [runFn, entry, lentIx, x_seq, x_ite, x_ret, x_skip, x_set, x_raise, x_ex, d_var, d_lit, d_or, d_not, d_and, d_ite, d_chain, d_op, d_seq, d_call, denL, denV, denB, looked, lent, places, nodupB, back, bind_val, mv, opDen, noneIn, wipeP, keepP, backs, PV.isCont, Op.makes, x_for, itemsOf, dLen, h1, e]
theorem fil_letters : ∀ x : List Nat, ((x.map fun c => PV.str [c]).filter fun v => match v with | .str [c] => !letter c | _ => true) = (x.filter fun c => !letter c).map fun c => .str [c]
  | [] => rfl
  | c :: x => by
    have ih := fil_letters x
    cases h : letter c <;> simp [h, ih]
theorem eq_letters : ∀ x : List Nat, PV.eqL ((x.filter fun c => !letter c).map fun c => .str [c]) [] = x.all letter
  | [] => rfl
  | c :: x => by
    have ih := eq_letters x
    cases h : letter c
    · simp [h, PV.eqL]
    · simpa [h] using ih
theorem flat_letters : ∀ l : List Nat, PV.flatL (l.map fun c => .str [c]) = true
  | [] => rfl
  | c :: l => by simp [PV.flatL, PV.flat, flat_letters l]
theorem isW_str (x : List Nat) (m : Int) : isW (.str x) m = (decide (0 < x.length) && (decide ((x.length : Int) ≤ m) && x.all letter)) := by
  show (decide ((1 : Int) ≤ x.length) && _) = _
  rw [show decide ((1 : Int) ≤ x.length) = decide (0 < x.length) from decide_eq_decide.mpr ⟨fun h => by omega, fun h => by omega⟩]
theorem e_is_text (n : Nat) (v : PV) (m : Int) (hv : okS v) : callN T (n + 1) 27 [v, .int m] = some (.val (.bl (isW v m), false), []) := by
  rw [callN_succ (fn := F27) rfl]
  unfold F27
  cases v with
  | str x =>
    have hx : x.length ≤ big := big60 (hv x rfl)
    have hc : den (callN T n) F27c0 [some (false, .str x), some (false, .int m), none] = some (.val (.lst ((x.filter fun c => !letter c).map fun c => .str [c]), true), [some (false, .str x), some (false, .int m), none]) := by
      refine (den_compP (v := .str x) (b := false) (ρ1 := [some (false, .str x), some (false, .int m), none]) (fun v => match v with | .str [c] => !letter c | _ => true) (fun v => v) (by simp [d_var]) rfl (by simpa using hx) fun y hy => ?_).trans ?_
      · obtain ⟨c, _, rfl⟩ := List.mem_map.mp hy
        refine ⟨_, rfl, rfl, ?_, ?_⟩
        · have h1 : tlt [c] [97] = decide (c < 97) := by unfold tlt; split <;> simp [*, tlt]
          have h2 : tlt [122] [c] = decide (122 < c) := by unfold tlt; split <;> simp [*, tlt]
          by_cases k1 : c < 97 <;> by_cases k2 : 122 < c <;> simp [F27t0, runFn, entry, lentIx, x_seq, x_ite, x_ret, x_skip, x_set, x_raise, x_ex, d_var, d_lit, d_or, d_not, d_and, d_ite, d_chain, d_op, d_seq, d_call, denL, denV, denB, looked, lent, places, nodupB, back, bind_val, mv, opDen, noneIn, wipeP, keepP, backs, PV.isCont, Op.makes, dLe, h1, h2, k1, k2, letter] <;> omega
        · simp [F27e0, runFn, entry, lentIx, x_seq, x_ite, x_ret, x_skip, x_set, x_raise, x_ex, d_var, d_lit, d_or, d_not, d_and, d_ite, d_chain, d_op, d_seq, d_call, denL, denV, denB, looked, lent, places, nodupB, back, bind_val, mv, opDen, noneIn, wipeP, keepP, backs, PV.isCont, Op.makes]
      · rw [List.map_id', fil_letters]; rfl
    have he := eq_letters x
    rw [isW_str]
    have hf := flat_letters (x.filter fun c => !letter c)
    generalize ((x.filter fun c => !letter c).map fun c => PV.str [c]) = l at hc he hf
    by_cases h1 : 0 < x.length <;> by_cases h2 : (x.length : Int) ≤ m
    · simp [runFn, entry, lentIx, x_seq, x_ite, x_ret, x_skip, x_set, x_raise, x_ex, d_var, d_lit, d_or, d_not, d_and, d_ite, d_chain, d_op, d_seq, d_call, denL, denV, denB, looked, lent, places, nodupB, back, bind_val, mv, opDen, noneIn, wipeP, keepP, backs, PV.isCont, Op.makes, dIsStr, dLen, dLe, dLt, hx, h1, h2, hc, he, hf, dEq, PV.cmpb, PV.flat, PV.flatL, PV.dep, PV.depL, PV.eq]
    · simp [runFn, entry, lentIx, x_seq, x_ite, x_ret, x_skip, x_set, x_raise, x_ex, d_var, d_lit, d_or, d_not, d_and, d_ite, d_chain, d_op, d_seq, d_call, denL, denV, denB, looked, lent, places, nodupB, back, bind_val, mv, opDen, noneIn, wipeP, keepP, backs, PV.isCont, Op.makes, dIsStr, dLen, dLe, dLt, hx, h1, h2]
    · simp [runFn, entry, lentIx, x_seq, x_ite, x_ret, x_skip, x_set, x_raise, x_ex, d_var, d_lit, d_or, d_not, d_and, d_ite, d_chain, d_op, d_seq, d_call, denL, denV, denB, looked, lent, places, nodupB, back, bind_val, mv, opDen, noneIn, wipeP, keepP, backs, PV.isCont, Op.makes, dIsStr, dLen, dLe, dLt, hx, h1, h2]
    · simp [runFn, entry, lentIx, x_seq, x_ite, x_ret, x_skip, x_set, x_raise, x_ex, d_var, d_lit, d_or, d_not, d_and, d_ite, d_chain, d_op, d_seq, d_call, denL, denV, denB, looked, lent, places, nodupB, back, bind_val, mv, opDen, noneIn, wipeP, keepP, backs, PV.isCont, Op.makes, dIsStr, dLen, dLe, dLt, hx, h1, h2]
  | _ => simp [runFn, entry, lentIx, x_seq, x_ite, x_ret, x_skip, x_set, x_raise, x_ex, d_var, d_lit, d_or, d_not, d_and, d_ite, d_chain, d_op, d_seq, d_call, denL, denV, denB, looked, lent, places, nodupB, back, bind_val, mv, opDen, noneIn, wipeP, keepP, backs, PV.isCont, Op.makes, dIsStr, isW]
end K01
end
section
set_option linter.all false
set_option maxRecDepth 100000
namespace K01
open Tl
/-- a tuple of so many items -/
def wide (v : PV) (lo hi : Int) : Bool := match v with
  | .tup xs => decide (lo ≤ (xs.length : Int)) && decide ((xs.length : Int) ≤ hi)
  | _ => false
theorem e_wide (n : Nat) (v : PV) (lo hi : Int) : callN T (n + 1) 24 [v, .int lo, .int hi] = some (.val (.bl (wide v lo hi), false), []) := by
  rw [callN_succ (fn := F24) rfl]
  unfold F24
  cases v with
  | tup xs => by_cases h1 : lo ≤ (xs.length : Int) <;> by_cases h2 : (xs.length : Int) ≤ hi <;> simp [runFn, entry, lentIx, x_seq, x_ite, x_ret, x_skip, x_set, x_raise, x_ex, d_var, d_lit, d_or, d_not, d_and, d_ite, d_chain, d_op, d_seq, d_call, denL, denV, denB, looked, lent, places, nodupB, back, bind_val, mv, opDen, noneIn, wipeP, keepP, backs, PV.isCont, Op.makes, dIsTup, dLen, dLe, wide, h1, h2]
  | _ => simp [runFn, entry, lentIx, x_seq, x_ite, x_ret, x_skip, x_set, x_raise, x_ex, d_var, d_lit, d_or, d_not, d_and, d_ite, d_chain, d_op, d_seq, d_call, denL, denV, denB, looked, lent, places, nodupB, back, bind_val, mv, opDen, noneIn, wipeP, keepP, backs, PV.isCont, Op.makes, dIsTup, wide]
/-- names from the left, ascending from last -/
def chk : List Nat → List PV → Bool
  | _, [] => true
  | l, x :: r => pairOk x && (tlt l (fstT x) && chk (fstT x) r)
theorem chk_eq : ∀ {xs : List PV} {l : List Nat}, chk l xs = (xs.all pairOk && ascB (l :: xs.map fstT))
  | [], l => rfl
  | x :: xs, l => by
    unfold chk
    rw [chk_eq (xs := xs)]
    show _ = ((pairOk x && xs.all pairOk) && (tlt l (fstT x) && ascB (fstT x :: xs.map fstT)))
    cases pairOk x <;> cases tlt l (fstT x) <;> cases xs.all pairOk <;> simp
theorem chk_prs {xs : List PV} : chk [] xs = prs (.tup xs) := by
  rw [chk_eq]
  show (xs.all pairOk && _) = (xs.all pairOk && _)
  cases h : xs.all pairOk with
  | false => rfl
  | true =>
    cases xs with
    | nil => rfl
    | cons x r =>
      obtain ⟨z, b, rfl, hw⟩ := pairOk_shape (List.all_eq_true.mp h x (by simp))
      have : tlt [] z = true := by
        rw [isW_str] at hw
        cases z with
        | nil => simp at hw
        | cons c z => rfl
      show ascB ([] :: z :: r.map fstT) = ascB (z :: r.map fstT)
      show (tlt [] z && _) = _
      rw [this]; rfl
theorem pairOk_wide (x : PV) : pairOk x = (wide x 2 2 && match x with | .tup (a :: _) => isW a 4 | _ => false) := by
  cases x with
  | tup ys =>
    match ys with
    | [] => rfl
    | [a] => rfl
    | [a, b] => rfl
    | a :: b :: c :: r =>
      have : ¬ ((r.length : Int) + 1 + 1 + 1 ≤ 2) := by omega
      simp [pairOk, wide, this]
  | _ => rfl
theorem pairs_loop (n : Nat) (v : PV) : ∀ (xs : List PV) (l : List Nat) (s : Slot), (∀ x ∈ xs, ok x = true) → ∃ ρ', forLoop (fun ρ => exe (callN T (n + 1)) [] F28b0 ρ) [2] xs [some (false, v), some (false, .str l), s] =
      some (.val (if chk l xs = true then .nx else .rt (.bl false) false), ρ')
  | [], l, s, _ => ⟨_, by unfold forLoop chk; rfl⟩
  | x :: xs, l, s, h => by
    have ox := h x (by simp)
    have key : exe (callN T (n + 1)) [] F28b0 [some (false, v), some (false, .str l), some (false, x)] = some (if (pairOk x && tlt l (fstT x)) = true then (.val .nx, [some (false, v), some (false, .str (fstT x)), some (false, x)]) else (.val (.rt (.bl false) false), [some (false, v), some (false, .str l), some (false, x)])) := by
      have e1 := e_wide n x 2 2
      by_cases hp : pairOk x = true
      · obtain ⟨z, b, rfl, hw⟩ := pairOk_shape hp
        have e2 := e_is_text n (.str z) 4 (ok_S ((ok_tup ox).2 _ (by simp)))
        rw [show wide (.tup [.str z, b]) 2 2 = true by rfl] at e1
        rw [hw] at e2
        cases ht : tlt l z <;> simp [F28b0, runFn, entry, lentIx, x_seq, x_ite, x_ret, x_skip, x_set, x_raise, x_ex, d_var, d_lit, d_or, d_not, d_and, d_ite, d_chain, d_op, d_seq, d_call, denL, denV, denB, looked, lent, places, nodupB, back, bind_val, mv, opDen, noneIn, wipeP, keepP, backs, PV.isCont, Op.makes, e1, e2, dIdx, getAt, ixOf, dLt, ht, hp, fstT]
      · have hp : pairOk x = false := by simpa using hp
        rw [hp]
        rw [pairOk_wide, Bool.and_eq_false_iff] at hp
        cases hw : wide x 2 2 with
        | false =>
          rw [hw] at e1
          simp [F28b0, runFn, entry, lentIx, x_seq, x_ite, x_ret, x_skip, x_set, x_raise, x_ex, d_var, d_lit, d_or, d_not, d_and, d_ite, d_chain, d_op, d_seq, d_call, denL, denV, denB, looked, lent, places, nodupB, back, bind_val, mv, opDen, noneIn, wipeP, keepP, backs, PV.isCont, Op.makes, e1]
        | true =>
          rw [hw] at e1 hp
          have hp := hp.resolve_left (by simp)
          cases x with
          | tup ys =>
            cases ys with
            | nil => cases hw
            | cons a r =>
              have hp : isW a 4 = false := hp
              have e2 := e_is_text n a 4 (ok_S ((ok_tup ox).2 _ (by simp)))
              rw [hp] at e2
              simp [F28b0, runFn, entry, lentIx, x_seq, x_ite, x_ret, x_skip, x_set, x_raise, x_ex, d_var, d_lit, d_or, d_not, d_and, d_ite, d_chain, d_op, d_seq, d_call, denL, denV, denB, looked, lent, places, nodupB, back, bind_val, mv, opDen, noneIn, wipeP, keepP, backs, PV.isCont, Op.makes, e1, e2, dIdx, getAt, ixOf]
          | _ => cases hw
    unfold forLoop
    rw [show bindT [2] x [some (false, v), some (false, .str l), s] = some [some (false, v), some (false, .str l), some (false, x)] from rfl]
    simp only [key]
    unfold chk
    cases hp : pairOk x <;> cases ht : tlt l (fstT x) <;> simp [bind_val]
    obtain ⟨ρ', e⟩ := pairs_loop n v xs (fstT x) (some (false, x)) fun y hy => h y (by simp [hy])
    exact ⟨ρ', e⟩
theorem e_is_pairs (n : Nat) (v : PV) (hv : ok v = true) : callN T (n + 2) 28 [v] = some (.val (.bl (prs v), false), []) := by
  rw [callN_succ (fn := F28) rfl]
  unfold F28
  cases v with
  | tup xs =>
    obtain ⟨hl, hx⟩ := ok_tup hv
    obtain ⟨ρ', e⟩ := pairs_loop n (.tup xs) xs [] none hx
    rw [chk_prs] at e
    cases hp : prs (.tup xs) <;> rw [hp] at e <;> simp [runFn, entry, lentIx, x_seq, x_ite, x_ret, x_skip, x_set, x_raise, x_ex, d_var, d_lit, d_or, d_not, d_and, d_ite, d_chain, d_op, d_seq, d_call, denL, denV, denB, looked, lent, places, nodupB, back, bind_val, mv, opDen, noneIn, wipeP, keepP, backs, PV.isCont, Op.makes, dIsTup, x_for, itemsOf, e]
  | _ => simp [runFn, entry, lentIx, x_seq, x_ite, x_ret, x_skip, x_set, x_raise, x_ex, d_var, d_lit, d_or, d_not, d_and, d_ite, d_chain, d_op, d_seq, d_call, denL, denV, denB, looked, lent, places, nodupB, back, bind_val, mv, opDen, noneIn, wipeP, keepP, backs, PV.isCont, Op.makes, dIsTup, prs]
end K01
end
section
set_option linter.all false
set_option maxRecDepth 100000
namespace K01
open Tl
/-- the law's number of pairs, 999 for what is none -/
def tsz : Nat → PV → Int
  | 0, _ => 999
  | d + 1, v => if prs v = true then (itT v).length + ((itT v).map fun x => if isW (sndV x) 8 = true then 0 else tsz d (sndV x)).sum else 999
theorem sum_nonneg {f : PV → Int} : ∀ {xs : List PV}, (∀ x, 0 ≤ f x) → 0 ≤ (xs.map f).sum
  | [], _ => by simp
  | x :: xs, h => by
    have := sum_nonneg (xs := xs) h
    have := h x
    simp; omega
theorem sum_ge {f : PV → Int} {b : Int} : ∀ {xs : List PV}, (∀ x, 0 ≤ f x) → (∃ x ∈ xs, b ≤ f x) → b ≤ (xs.map f).sum
  | [], _, ⟨x, h, _⟩ => by cases h
  | y :: xs, h, ⟨x, hx, hb⟩ => by
    have h2 := sum_nonneg (xs := xs) h
    have h3 := h y
    simp only [List.map_cons, List.sum_cons]
    rcases List.mem_cons.mp hx with rfl | hx
    · omega
    · have := sum_ge (b := b) h ⟨x, hx, hb⟩
      omega
theorem tsz_nonneg : ∀ (d : Nat) (v : PV), 0 ≤ tsz d v
  | 0, _ => by unfold tsz; omega
  | d + 1, v => by
    unfold tsz
    split
    · have := sum_nonneg (f := fun x => if isW (sndV x) 8 = true then 0 else tsz d (sndV x)) (xs := itT v) fun x => by
        show (0 : Int) ≤ if isW (sndV x) 8 = true then 0 else tsz d (sndV x)
        split
        · omega
        · exact tsz_nonneg d _
      omega
    · omega
theorem sum_congr {f g : PV → Int} : ∀ {xs : List PV}, (∀ x ∈ xs, f x = g x) → (xs.map f).sum = (xs.map g).sum
  | [], _ => rfl
  | x :: xs, h => by simp [h x (by simp), sum_congr (f := f) (g := g) (xs := xs) fun y hy => h y (by simp [hy])]
theorem fold_tup {d : Nat} {v : PV} (h : fold d v = true) : ∃ ys, v = .tup ys := by
  cases d with
  | zero => cases h
  | succ d => obtain ⟨xs, rfl, _⟩ := fold_shape h; exact ⟨xs, rfl⟩
theorem tsz_fold : ∀ (d : Nat) (v : PV), (fold d v = true → tsz d v = cnt d v) ∧ (fold d v = false → 999 ≤ tsz d v)
  | 0, v => ⟨fun h => (by cases h), fun _ => by unfold tsz; omega⟩
  | d + 1, v => by
    refine ⟨fun h => ?_, fun h => ?_⟩
    · obtain ⟨xs, rfl, hp, hs⟩ := fold_shape h
      unfold tsz cnt
      rw [if_pos hp]
      congr 1
      refine sum_congr fun x hx => ?_
      have hz := (hs x hx).2
      cases hw : isW (sndV x) 8 with
      | true =>
        rw [if_pos rfl]
        cases e : sndV x with
        | tup ys => rw [e] at hw; cases hw
        | _ => rfl
      | false =>
        rw [hw, Bool.false_or] at hz
        rw [if_neg (by simp)]
        obtain ⟨ys, e⟩ := fold_tup hz
        rw [e] at hz ⊢
        exact (tsz_fold d _).1 hz
    · unfold tsz
      split
      · rename_i hp
        unfold fold at h
        rw [hp, Bool.true_and] at h
        obtain ⟨x, hx, hz⟩ : ∃ x ∈ itT v, (isW (sndV x) 8 || fold d (sndV x)) = false := by
          rw [List.all_eq_false] at h
          obtain ⟨x, hx, hz⟩ := h
          exact ⟨x, hx, by simpa using hz⟩
        rw [Bool.or_eq_false_iff] at hz
        have := sum_ge (b := 999) (f := fun x => if isW (sndV x) 8 = true then 0 else tsz d (sndV x)) (xs := itT v) (fun x => by
          show (0 : Int) ≤ if isW (sndV x) 8 = true then 0 else tsz d (sndV x)
          split
          · omega
          · exact tsz_nonneg d _) ⟨x, hx, by
          show (999 : Int) ≤ if isW (sndV x) 8 = true then 0 else tsz d (sndV x)
          rw [hz.1, if_neg (by simp)]
          exact (tsz_fold d _).2 hz.2⟩
        omega
      · omega
def tszI (d : Nat) (x : PV) : Int := if isW (sndV x) 8 = true then 0 else tsz d (sndV x)
theorem e_tree_size : ∀ (d n : Nat) (v : PV), ok v = true → callN T (n + d + 3) 29 [v, .int d] = some (.val (.int (tsz d v), false), [])
  | 0, n, v, hv => by
    rw [show n + 0 + 3 = (n + 2) + 1 from rfl, callN_succ (fn := F29) rfl]
    unfold F29
    simp [runFn, entry, lentIx, x_seq, x_ite, x_ret, x_skip, x_set, x_raise, x_ex, d_var, d_lit, d_or, d_not, d_and, d_ite, d_chain, d_op, d_seq, d_call, denL, denV, denB, looked, lent, places, nodupB, back, bind_val, mv, opDen, noneIn, wipeP, keepP, backs, PV.isCont, Op.makes, dEq, PV.cmpb, PV.flat, PV.dep, PV.eq, tsz]
  | d + 1, n, v, hv => by
    rw [show n + (d + 1) + 3 = (n + d + 3) + 1 from by omega, callN_succ (fn := F29) rfl]
    have e3 := e_is_pairs (n + d + 1) v hv
    rw [show n + d + 1 + 2 = n + d + 3 from rfl] at e3
    have hd : ((d : Int) + 1 == 0) = false := by simp; omega
    unfold F29
    by_cases hp : prs v = true
    · obtain ⟨xs, rfl, hs⟩ := prs_shape hp
      obtain ⟨hl, hx⟩ := ok_tup hv
      obtain ⟨ρ', h1, h2⟩ := forLoop_ok (f := fun ρ => exe (callN T (n + d + 3)) [] F29b0 ρ) (tg := [3, 4]) (xs := xs) (done := []) (ρ := [some (false, .tup xs), some (false, .int (d + 1)), some (false, .int xs.length), none, none])
        (fun pre ρ => ∃ s t, ρ = [some (false, .tup xs), some (false, .int (d + 1)), some (false, .int (xs.length + (pre.map (tszI d)).sum)), s, t]) ⟨none, none, by simp⟩ fun x pre ρ ⟨s, t, e⟩ hm => by
          subst e
          obtain ⟨a, ex⟩ := hs x hm
          have oy := ok_snd (hx x hm)
          rw [List.map_append, List.sum_append]
          have hc : tszI d x = if isW (sndV x) 8 = true then 0 else tsz d (sndV x) := rfl
          simp only [List.map_cons, List.map_nil, List.sum_cons, List.sum_nil, hc]
          generalize sndV x = z at ex oy
          subst ex
          have e1 := e_is_text (n + d + 2) z 8 (ok_S oy)
          rw [show n + d + 2 + 1 = n + d + 3 from rfl] at e1
          have e2 := e_tree_size d n z oy
          have hd2 : (d : Int) + 1 - 1 = d := by omega
          refine ⟨_, [some (false, .tup xs), some (false, .int (d + 1)), some (false, .int (xs.length + ((pre.map (tszI d)).sum + ((if isW z 8 = true then 0 else tsz d z) + 0)))), some (false, .str a), some (false, z)], rfl, ?_, ⟨_, _, rfl⟩⟩
          cases hw : isW z 8 <;> simp [F29b0, runFn, entry, lentIx, x_seq, x_ite, x_ret, x_skip, x_set, x_raise, x_ex, d_var, d_lit, d_or, d_not, d_and, d_ite, d_chain, d_op, d_seq, d_call, denL, denV, denB, looked, lent, places, nodupB, back, bind_val, mv, opDen, noneIn, wipeP, keepP, backs, PV.isCont, Op.makes, e1, e2, hw, dSub, dAdd, hd2, Int.add_assoc]
      obtain ⟨s, t, rfl⟩ := h2
      have e : tsz (d + 1) (.tup xs) = xs.length + (xs.map (tszI d)).sum := by
        unfold tsz
        rw [if_pos hp]; rfl
      rw [hp] at e3
      simp [runFn, entry, lentIx, x_seq, x_ite, x_ret, x_skip, x_set, x_raise, x_ex, d_var, d_lit, d_or, d_not, d_and, d_ite, d_chain, d_op, d_seq, d_call, denL, denV, denB, looked, lent, places, nodupB, back, bind_val, mv, opDen, noneIn, wipeP, keepP, backs, PV.isCont, Op.makes, dEq, PV.cmpb, PV.flat, PV.dep, PV.eq, hd, e3, x_for, itemsOf, dLen, h1, e]
    · have hp : prs v = false := by simpa using hp
      rw [hp] at e3
      rw [show tsz (d + 1) v = 999 by unfold tsz; rw [hp]; rfl]
      simp [runFn, entry, lentIx, x_seq, x_ite, x_ret, x_skip, x_set, x_raise, x_ex, d_var, d_lit, d_or, d_not, d_and, d_ite, d_chain, d_op, d_seq, d_call, denL, denV, denB, looked, lent, places, nodupB, back, bind_val, mv, opDen, noneIn, wipeP, keepP, backs, PV.isCont, Op.makes, dEq, PV.cmpb, PV.flat, PV.dep, PV.eq, hd, e3]
/-- a tree -/
def treeB (v : PV) : Bool := decide (tsz 6 v ≤ 40)
theorem treeB_eq (v : PV) : treeB v = (fold 6 v && decide (cnt 6 v ≤ 40)) := by
  unfold treeB
  have h := tsz_fold 6 v
  cases hf : fold 6 v with
  | true => rw [h.1 hf]; rfl
  | false =>
    have := h.2 hf
    rw [Bool.false_and]
    exact decide_eq_false (by omega)
theorem e_is_right_tree (n : Nat) (v : PV) (hv : ok v = true) : callN T (n + 11) 6 [v] = some (.val (.bl (treeB v), false), []) := by
  rw [callN_succ (fn := F6) rfl, treeB_eq]
  have e1 : callN T (n + 10) 4 [v, .int 6] = some (.val (.bl (fold 6 v), false), []) := e_is_folder 6 n v hv
  unfold F6
  cases hf : fold 6 v with
  | true =>
    have e2 := e_count_pairs 6 (n + 4) v hv hf
    rw [show n + 4 + 6 = n + 10 from by omega] at e2
    rw [hf] at e1
    simp [runFn, entry, lentIx, x_seq, x_ite, x_ret, x_skip, x_set, x_raise, x_ex, d_var, d_lit, d_or, d_not, d_and, d_ite, d_chain, d_op, d_seq, d_call, denL, denV, denB, looked, lent, places, nodupB, back, bind_val, mv, opDen, noneIn, wipeP, keepP, backs, PV.isCont, Op.makes, e1, e2, dLe]
  | false =>
    rw [hf] at e1
    simp [runFn, entry, lentIx, x_seq, x_ite, x_ret, x_skip, x_set, x_raise, x_ex, d_var, d_lit, d_or, d_not, d_and, d_ite, d_chain, d_op, d_seq, d_call, denL, denV, denB, looked, lent, places, nodupB, back, bind_val, mv, opDen, noneIn, wipeP, keepP, backs, PV.isCont, Op.makes, e1]
theorem e_is_tree (n : Nat) (v : PV) (hv : ok v = true) : callN T (n + 12) 8 [v] = some (.val (.bl (treeB v), false), []) := by
  rw [callN_succ (fn := F8) rfl]
  have e1 := e_is_right_tree n v hv
  unfold F8
  simp [runFn, entry, lentIx, x_seq, x_ite, x_ret, x_skip, x_set, x_raise, x_ex, d_var, d_lit, d_or, d_not, d_and, d_ite, d_chain, d_op, d_seq, d_call, denL, denV, denB, looked, lent, places, nodupB, back, bind_val, mv, opDen, noneIn, wipeP, keepP, backs, PV.isCont, Op.makes, e1]
/-- so many names -/
def nms (v : PV) (m : Int) : Bool := wide v 1 m && (itT v).all fun x => isW x 4
theorem e_is_names (n : Nat) (v : PV) (m : Int) (hv : ok v = true) : callN T (n + 3) 7 [v, .int m] = some (.val (.bl (nms v m), false), []) := by
  rw [callN_succ (fn := F7) rfl]
  unfold F7
  cases v with
  | tup xs =>
    obtain ⟨hl, hx⟩ := ok_tup hv
    have hc : den (callN T (n + 2)) F7c0 [some (false, .tup xs), some (false, .int m), none] = some (.val (.lst (xs.map fun x => .bl (isW x 4)), true), [some (false, .tup xs), some (false, .int m), none]) := by
      refine (den_mapP (v := .tup xs) (b := false) (ρ1 := [some (false, .tup xs), some (false, .int m), none]) (fun x => .bl (isW x 4)) (by simp [d_var]) rfl (big60 hl) fun y hy => ?_).trans rfl
      refine ⟨_, rfl, rfl, ?_⟩
      simp [F7e0, runFn, entry, lentIx, x_seq, x_ite, x_ret, x_skip, x_set, x_raise, x_ex, d_var, d_lit, d_or, d_not, d_and, d_ite, d_chain, d_op, d_seq, d_call, denL, denV, denB, looked, lent, places, nodupB, back, bind_val, mv, opDen, noneIn, wipeP, keepP, backs, PV.isCont, Op.makes, e_is_name n y (ok_S (hx y hy))]
    have ha := allB_map (fun x => isW x 4) xs
    rw [show nms (.tup xs) m = (wide (.tup xs) 1 m && (xs.map fun x => isW x 4).all id) by
      show (wide _ 1 m && xs.all _) = _
      rw [List.all_map]; rfl]
    generalize (xs.map fun x => isW x 4) = bs at ha ⊢
    have hw : wide (.tup xs) 1 m = (decide ((1 : Int) ≤ xs.length) && decide ((xs.length : Int) ≤ m)) := rfl
    rw [hw]
    by_cases h1 : (1 : Int) ≤ xs.length <;> by_cases h2 : (xs.length : Int) ≤ m <;> simp [runFn, entry, lentIx, x_seq, x_ite, x_ret, x_skip, x_set, x_raise, x_ex, d_var, d_lit, d_or, d_not, d_and, d_ite, d_chain, d_op, d_seq, d_call, denL, denV, denB, looked, lent, places, nodupB, back, bind_val, mv, opDen, noneIn, wipeP, keepP, backs, PV.isCont, Op.makes, dIsTup, dLen, dLe, dAll, h1, h2, hc, ha]
  | _ => simp [runFn, entry, lentIx, x_seq, x_ite, x_ret, x_skip, x_set, x_raise, x_ex, d_var, d_lit, d_or, d_not, d_and, d_ite, d_chain, d_op, d_seq, d_call, denL, denV, denB, looked, lent, places, nodupB, back, bind_val, mv, opDen, noneIn, wipeP, keepP, backs, PV.isCont, Op.makes, dIsTup, nms, wide]
theorem e_is_path (n : Nat) (v : PV) (hv : ok v = true) : callN T (n + 4) 9 [v] = some (.val (.bl (nms v 6), false), []) := by
  rw [callN_succ (fn := F9) rfl]
  have e1 := e_is_names n v 6 hv
  unfold F9
  simp [runFn, entry, lentIx, x_seq, x_ite, x_ret, x_skip, x_set, x_raise, x_ex, d_var, d_lit, d_or, d_not, d_and, d_ite, d_chain, d_op, d_seq, d_call, denL, denV, denB, looked, lent, places, nodupB, back, bind_val, mv, opDen, noneIn, wipeP, keepP, backs, PV.isCont, Op.makes, e1]
end K01
end
section
set_option linter.all false
set_option maxRecDepth 100000
namespace K01
open Tl
/-- the pairs of a layer -/
def entV (v : PV) : PV := match v with
  | .tup [_, e] => e
  | _ => .non
/-- a layer's outer form: a bool and pairs -/
def hd (v : PV) : Bool := match v with
  | .tup [.bl _, e] => prs e
  | _ => false
def lay : Nat → PV → Bool
  | 0, _ => false
  | d + 1, v => hd v && (itT (entV v)).all fun x => (sndV x).isNon || (isW (sndV x) 8 || lay d (sndV x))
def entB (d : Nat) (z : PV) : Bool := z.isNon || (isW z 8 || lay d z)
theorem hd_shape {v : PV} (h : hd v = true) : ∃ b xs, v = .tup [.bl b, .tup xs] ∧ prs (.tup xs) = true ∧ ∀ x ∈ xs, ∃ a, x = .tup [.str a, sndV x] := by
  unfold hd at h
  split at h
  · rename_i b e
    obtain ⟨xs, rfl, hs⟩ := prs_shape h
    exact ⟨b, xs, rfl, h, hs⟩
  · cases h
theorem hd_cases {v : PV} (h : hd v = false) : (∀ xs, v ≠ .tup xs) ∨ (∃ xs, v = .tup xs ∧ xs.length ≠ 2) ∨ (∃ a e, v = .tup [a, e] ∧ ∀ b, a ≠ .bl b) ∨ (∃ b e, v = .tup [.bl b, e] ∧ prs e = false) := by
  cases v with
  | tup xs =>
    match xs, h with
    | [], _ => exact .inr (.inl ⟨_, rfl, by simp⟩)
    | [a], _ => exact .inr (.inl ⟨_, rfl, by simp⟩)
    | a :: b :: c :: r, _ => exact .inr (.inl ⟨_, rfl, by simp⟩)
    | [a, e], h =>
      cases a with
      | bl b => exact .inr (.inr (.inr ⟨b, e, rfl, h⟩))
      | _ => exact .inr (.inr (.inl ⟨_, e, rfl, fun b => nofun⟩))
  | _ => exact .inl fun xs => nofun
mutual
theorem e_is_layer_so : ∀ (d n : Nat) (v : PV), ok v = true → callN T (n + 2 * d + 4) 11 [v, .int d] = some (.val (.bl (lay d v), false), [])
  | 0, n, v, hv => by
    rw [show n + 2 * 0 + 4 = (n + 3) + 1 from rfl, callN_succ (fn := F11) rfl]
    unfold F11
    simp [runFn, entry, lentIx, x_seq, x_ite, x_ret, x_skip, x_set, x_raise, x_ex, d_var, d_lit, d_or, d_not, d_and, d_ite, d_chain, d_op, d_seq, d_call, denL, denV, denB, looked, lent, places, nodupB, back, bind_val, mv, opDen, noneIn, wipeP, keepP, backs, PV.isCont, Op.makes, dEq, PV.cmpb, PV.flat, PV.dep, PV.eq, lay]
  | d + 1, n, v, hv => by
    rw [show n + 2 * (d + 1) + 4 = (n + 2 * d + 5) + 1 from by omega, callN_succ (fn := F11) rfl]
    have hd0 : ((d : Int) + 1 == 0) = false := by simp; omega
    unfold F11
    by_cases hh : hd v = true
    · obtain ⟨b, xs, rfl, hp, hs⟩ := hd_shape hh
      have oe : ok (.tup xs) = true := (ok_tup hv).2 _ (by simp)
      obtain ⟨hl, hx⟩ := ok_tup oe
      have e3 := e_are_pairs (n + 2 * d + 2) (.tup xs) oe
      rw [show n + 2 * d + 2 + 3 = n + 2 * d + 5 from rfl, hp] at e3
      have hc : den (callN T (n + 2 * d + 5)) F11c0 [some (false, .tup [.bl b, .tup xs]), some (false, .int (d + 1)), none, none] = some (.val (.lst (xs.map fun x => .bl (entB d (sndV x))), true), [some (false, .tup [.bl b, .tup xs]), some (false, .int (d + 1)), none, none]) := by
        refine (den_mapP (v := .tup xs) (b := false) (ρ1 := [some (false, .tup [.bl b, .tup xs]), some (false, .int (d + 1)), none, none]) (fun x => .bl (entB d (sndV x))) (by simp [runFn, entry, lentIx, x_seq, x_ite, x_ret, x_skip, x_set, x_raise, x_ex, d_var, d_lit, d_or, d_not, d_and, d_ite, d_chain, d_op, d_seq, d_call, denL, denV, denB, looked, lent, places, nodupB, back, bind_val, mv, opDen, noneIn, wipeP, keepP, backs, PV.isCont, Op.makes, dIdx, getAt, ixOf]) rfl (big60 hl) fun y hy => ?_).trans rfl
        obtain ⟨a, e⟩ := hs y hy
        have oy := ok_snd (hx y hy)
        generalize sndV y = z at e oy
        subst e
        refine ⟨_, rfl, rfl, ?_⟩
        have e2 := e_is_entry d n z oy
        have hd2 : (d : Int) + 1 - 1 = d := by omega
        simp [F11e0, runFn, entry, lentIx, x_seq, x_ite, x_ret, x_skip, x_set, x_raise, x_ex, d_var, d_lit, d_or, d_not, d_and, d_ite, d_chain, d_op, d_seq, d_call, denL, denV, denB, looked, lent, places, nodupB, back, bind_val, mv, opDen, noneIn, wipeP, keepP, backs, PV.isCont, Op.makes, e2, dSub, hd2]
      have ha := allB_map (fun x => entB d (sndV x)) xs
      rw [show lay (d + 1) (.tup [.bl b, .tup xs]) = (xs.map fun x => entB d (sndV x)).all id by
        show (prs (.tup xs) && xs.all _) = _
        rw [hp, Bool.true_and, List.all_map]; rfl]
      generalize (xs.map fun x => entB d (sndV x)) = bs at ha ⊢
      simp [runFn, entry, lentIx, x_seq, x_ite, x_ret, x_skip, x_set, x_raise, x_ex, d_var, d_lit, d_or, d_not, d_and, d_ite, d_chain, d_op, d_seq, d_call, denL, denV, denB, looked, lent, places, nodupB, back, bind_val, mv, opDen, noneIn, wipeP, keepP, backs, PV.isCont, Op.makes, dEq, dNe, dIsTup, dIsBool, dLen, dIdx, getAt, ixOf, PV.cmpb, PV.flat, PV.dep, PV.eq, hd0, e3, hc, dAll, ha]
    · have hh : hd v = false := by simpa using hh
      rw [show lay (d + 1) v = false by unfold lay; rw [hh]; rfl]
      rcases hd_cases hh with h | ⟨xs, rfl, h⟩ | ⟨a, e, rfl, h⟩ | ⟨b, e, rfl, h⟩
      · cases v with
        | tup xs => exact absurd rfl (h xs)
        | _ => simp [runFn, entry, lentIx, x_seq, x_ite, x_ret, x_skip, x_set, x_raise, x_ex, d_var, d_lit, d_or, d_not, d_and, d_ite, d_chain, d_op, d_seq, d_call, denL, denV, denB, looked, lent, places, nodupB, back, bind_val, mv, opDen, noneIn, wipeP, keepP, backs, PV.isCont, Op.makes, dEq, dIsTup, PV.cmpb, PV.flat, PV.dep, PV.eq, hd0]
      · have h2 : ((xs.length : Int) == 2) = false := by simp; omega
        simp [runFn, entry, lentIx, x_seq, x_ite, x_ret, x_skip, x_set, x_raise, x_ex, d_var, d_lit, d_or, d_not, d_and, d_ite, d_chain, d_op, d_seq, d_call, denL, denV, denB, looked, lent, places, nodupB, back, bind_val, mv, opDen, noneIn, wipeP, keepP, backs, PV.isCont, Op.makes, dEq, dNe, dIsTup, dLen, PV.cmpb, PV.flat, PV.dep, PV.eq, hd0, h2]
      · cases a with
        | bl b => exact absurd rfl (h b)
        | _ => simp [runFn, entry, lentIx, x_seq, x_ite, x_ret, x_skip, x_set, x_raise, x_ex, d_var, d_lit, d_or, d_not, d_and, d_ite, d_chain, d_op, d_seq, d_call, denL, denV, denB, looked, lent, places, nodupB, back, bind_val, mv, opDen, noneIn, wipeP, keepP, backs, PV.isCont, Op.makes, dEq, dNe, dIsTup, dIsBool, dLen, dIdx, getAt, ixOf, PV.cmpb, PV.flat, PV.dep, PV.eq, hd0]
      · have e3 := e_are_pairs (n + 2 * d + 2) e ((ok_tup hv).2 _ (by simp))
        rw [show n + 2 * d + 2 + 3 = n + 2 * d + 5 from rfl, h] at e3
        simp [runFn, entry, lentIx, x_seq, x_ite, x_ret, x_skip, x_set, x_raise, x_ex, d_var, d_lit, d_or, d_not, d_and, d_ite, d_chain, d_op, d_seq, d_call, denL, denV, denB, looked, lent, places, nodupB, back, bind_val, mv, opDen, noneIn, wipeP, keepP, backs, PV.isCont, Op.makes, dEq, dNe, dIsTup, dIsBool, dLen, dIdx, getAt, ixOf, PV.cmpb, PV.flat, PV.dep, PV.eq, hd0, e3]
theorem e_is_entry : ∀ (d n : Nat) (v : PV), ok v = true → callN T (n + 2 * d + 5) 10 [v, .int d] = some (.val (.bl (entB d v), false), [])
  | d, n, v, hv => by
    rw [show n + 2 * d + 5 = (n + 2 * d + 4) + 1 from rfl, callN_succ (fn := F10) rfl]
    have e1 := e_is_content (n + 2 * d + 2) v (ok_S hv)
    rw [show n + 2 * d + 2 + 2 = n + 2 * d + 4 from rfl] at e1
    have e2 := e_is_layer_so d n v hv
    unfold F10 entB
    cases hn : v.isNon <;> cases hw : isW v 8 <;> simp [runFn, entry, lentIx, x_seq, x_ite, x_ret, x_skip, x_set, x_raise, x_ex, d_var, d_lit, d_or, d_not, d_and, d_ite, d_chain, d_op, d_seq, d_call, denL, denV, denB, looked, lent, places, nodupB, back, bind_val, mv, opDen, noneIn, wipeP, keepP, backs, PV.isCont, Op.makes, dIsN, hn, e1, hw, e2]
end
end K01
end
section
set_option linter.all false
set_option maxRecDepth 100000
namespace K01
open Tl
theorem forLoop_pre {f : Env → M Fl} {tg : List Nat} (R : List PV → Env → Prop) (all : List PV) : ∀ {xs done : List PV} {ρ : Env}, done ++ xs = all → R done ρ →
    (∀ pre x post ρ, pre ++ x :: post = all → R pre ρ → ∃ ρ1 ρ2, bindT tg x ρ = some ρ1 ∧ f ρ1 = some (.val .nx, ρ2) ∧ R (pre ++ [x]) ρ2) → ∃ ρ', forLoop f tg xs ρ = some (.val .nx, ρ') ∧ R all ρ'
  | [], done, ρ, e, h, _ => ⟨ρ, by unfold forLoop; rfl, by rw [← e]; simpa using h⟩
  | x :: xs, done, ρ, e, h, hs => by
    obtain ⟨ρ1, ρ2, h1, h2, h3⟩ := hs done x xs ρ e h
    obtain ⟨ρ', h4, h5⟩ := forLoop_pre (xs := xs) (done := done ++ [x]) R all (by simpa using e) h3 hs
    refine ⟨ρ', ?_, h5⟩
    unfold forLoop
    rw [h1]
    simp only [h2, bind_val, h4]
/-- the number of entries -/
def lcnt : Nat → PV → Nat
  | 0, _ => 0
  | d + 1, v => ((itT (entV v)).map fun x => match sndV x with
    | .tup ys => 1 + lcnt d (.tup ys)
    | _ => 1).sum
def lcntV (d : Nat) (z : PV) : Nat := match z with
  | .tup ys => 1 + lcnt d (.tup ys)
  | _ => 1
def lcntI (d : Nat) (x : PV) : Nat := lcntV d (sndV x)
def bnd : Nat → Nat
  | 0 => 0
  | d + 1 => 60 * (1 + bnd d)
theorem sum_le {f : PV → Nat} {b : Nat} : ∀ {xs : List PV}, (∀ x ∈ xs, f x ≤ b) → (xs.map f).sum ≤ xs.length * b
  | [], _ => by simp
  | x :: xs, h => by
    have h1 := sum_le (f := f) (b := b) (xs := xs) fun y hy => h y (by simp [hy])
    have h2 := h x (by simp)
    simp only [List.map_cons, List.sum_cons, List.length_cons, Nat.succ_mul]
    omega
theorem ok_ent {v : PV} (h : ok v = true) : ok (entV v) = true := by
  unfold entV
  split
  · exact (ok_tup h).2 _ (by simp)
  · rfl
theorem ok_it {v : PV} (h : ok v = true) : (itT v).length ≤ 60 ∧ ∀ x ∈ itT v, ok x = true := by
  unfold itT
  split
  · exact ok_tup h
  · simp
theorem lcnt_bnd : ∀ (d : Nat) (v : PV), ok v = true → lcnt d v ≤ bnd d
  | 0, v, _ => Nat.le_refl _
  | d + 1, v, hv => by
    obtain ⟨hl, hx⟩ := ok_it (ok_ent hv)
    have := sum_le (f := lcntI d) (b := 1 + bnd d) (xs := itT (entV v)) fun x hm => by
      have oz := ok_snd (hx x hm)
      show lcntV d (sndV x) ≤ _
      unfold lcntV
      split
      · rename_i ys e
        rw [e] at oz
        have := lcnt_bnd d (.tup ys) oz
        omega
      · omega
    show ((itT (entV v)).map (lcntI d)).sum ≤ 60 * (1 + bnd d)
    exact Nat.le_trans this (Nat.mul_le_mul_right _ hl)
theorem lay_shape {d : Nat} {v : PV} (h : lay (d + 1) v = true) : ∃ b xs, v = .tup [.bl b, .tup xs] ∧ prs (.tup xs) = true ∧ ∀ x ∈ xs, (∃ a, x = .tup [.str a, sndV x]) ∧ entB d (sndV x) = true := by
  unfold lay at h
  rw [Bool.and_eq_true] at h
  obtain ⟨b, xs, rfl, hp, hs⟩ := hd_shape h.1
  exact ⟨b, xs, rfl, hp, fun x hx => ⟨hs x hx, List.all_eq_true.mp h.2 x hx⟩⟩
theorem sum_pre {f : PV → Nat} {pre post : List PV} {x : PV} : ((pre ++ x :: post).map f).sum = (pre.map f).sum + (f x + (post.map f).sum) := by simp
theorem bnd4 : bnd 4 ≤ big := by decide
theorem bnd_mono {d : Nat} (h : d ≤ 4) : bnd d ≤ big := by
  match d, h with
  | 0, _ => decide
  | 1, _ => decide
  | 2, _ => decide
  | 3, _ => decide
  | 4, _ => decide
theorem tup_or {d : Nat} (z : PV) : (∃ ys, z = .tup ys) ∨ (dIsTup [z] = some (.bl false) ∧ lcntV d z = 1) := by
  cases z with
  | tup ys => exact .inl ⟨ys, rfl⟩
  | _ => exact .inr ⟨rfl, rfl⟩
theorem e_places : ∀ (d n : Nat) (v : PV) (ns : List PV), ok v = true → lay d v = true → d ≤ 4 → ns.length + d ≤ 10 → ∃ ps, callN T (n + d) 12 [v, .tup ns] = some (.val (.lst ps, true), []) ∧ ps.length = lcnt d v
  | 0, n, v, ns, _, h, _, _ => by cases h
  | d + 1, n, v, ns, hv, h, hd4, hns => by
    obtain ⟨b, xs, rfl, hp, hs⟩ := lay_shape h
    have oe : ok (.tup xs) = true := (ok_tup hv).2 _ (by simp)
    obtain ⟨hl, hx⟩ := ok_tup oe
    have hb := lcnt_bnd (d + 1) _ hv
    have hbb := bnd_mono hd4
    have hsum : lcnt (d + 1) (.tup [.bl b, .tup xs]) = (xs.map (lcntI d)).sum := rfl
    rw [hsum] at hb ⊢
    rw [show n + (d + 1) = (n + d) + 1 from rfl, callN_succ (fn := F12) rfl]
    unfold F12
    obtain ⟨ρ', h1, ps, s, t, rfl, h2⟩ := forLoop_pre (f := fun ρ => exe (callN T (n + d)) [] F12b0 ρ) (tg := [3, 4])
      (fun pre ρ => ∃ ps s t, ρ = [some (false, .tup [.bl b, .tup xs]), some (false, .tup ns), some (true, .lst ps), s, t] ∧ ps.length = (pre.map (lcntI d)).sum) xs (xs := xs) (done := [])
      (ρ := [some (false, .tup [.bl b, .tup xs]), some (false, .tup ns), some (true, .lst []), none, none]) rfl ⟨[], none, none, rfl, rfl⟩ fun pre x post ρ he ⟨ps, s, t, e, hps⟩ => by
        subst e
        have hm : x ∈ xs := by rw [← he]; simp
        obtain ⟨⟨a, ex⟩, hz⟩ := hs x hm
        have oz := ok_snd (hx x hm)
        have hle : (pre.map (lcntI d)).sum + lcntI d x ≤ big := by
          rw [← he, sum_pre] at hb
          omega
        have hc : lcntI d x = lcntV d (sndV x) := rfl
        rw [hc] at hle
        rw [List.map_append, List.sum_append]
        simp only [List.map_cons, List.map_nil, List.sum_cons, List.sum_nil, hc]
        generalize sndV x = z at ex hz oz hle
        subst ex
        have hn1 : ns.length + 1 ≤ big := big60 (by omega)
        have hp1 : ps.length + 1 ≤ big := by
          have : 1 ≤ lcntV d z := by unfold lcntV; split <;> omega
          omega
        rcases tup_or (d := d) z with ⟨ys, rfl⟩ | ⟨hT, hL⟩
        · skip
          have hl2 : lay d (.tup ys) = true := by simpa [entB, PV.isNon, isW] using hz
          obtain ⟨qs, e1, e2⟩ := e_places d n (.tup ys) (ns ++ [.str a]) oz hl2 (by omega) (by simp; omega)
          have hq : ps.length + 1 + qs.length ≤ big := by
            have : lcntV d (.tup ys) = 1 + lcnt d (.tup ys) := rfl
            omega
          refine ⟨_, [some (false, .tup [.bl b, .tup xs]), some (false, .tup ns), some (true, .lst (ps ++ [.tup (ns ++ [.str a])] ++ qs)), some (false, .str a), some (false, .tup ys)], rfl, ?_, _, _, _, rfl, ?_⟩
          · simp [F12b0, runFn, entry, lentIx, x_seq, x_ite, x_ret, x_skip, x_set, x_raise, x_ex, d_var, d_lit, d_or, d_not, d_and, d_ite, d_chain, d_op, d_seq, d_call, denL, denV, denB, looked, lent, places, nodupB, back, bind_val, mv, opDen, noneIn, wipeP, keepP, backs, PV.isCont, Op.makes, dIsTup, dAdd, hn1, hp1, e1, hq, List.length_append]
          · have : lcntV d (.tup ys) = 1 + lcnt d (.tup ys) := rfl
            simp [hps, e2, this, Nat.add_assoc]
            omega
        · refine ⟨_, [some (false, .tup [.bl b, .tup xs]), some (false, .tup ns), some (true, .lst (ps ++ [.tup (ns ++ [.str a])])), some (false, .str a), some (false, z)], rfl, ?_, _, _, _, rfl, ?_⟩
          · simp [F12b0, runFn, entry, lentIx, x_seq, x_ite, x_ret, x_skip, x_set, x_raise, x_ex, d_var, d_lit, d_or, d_not, d_and, d_ite, d_chain, d_op, d_seq, d_call, denL, denV, denB, looked, lent, places, nodupB, back, bind_val, mv, opDen, noneIn, wipeP, keepP, backs, PV.isCont, Op.makes, hT, dAdd, hn1, hp1]
          · simp [hps, hL]
    refine ⟨ps, ?_, h2⟩
    simp [runFn, entry, lentIx, x_seq, x_ite, x_ret, x_skip, x_set, x_raise, x_ex, d_var, d_lit, d_or, d_not, d_and, d_ite, d_chain, d_op, d_seq, d_call, denL, denV, denB, looked, lent, places, nodupB, back, bind_val, mv, opDen, noneIn, wipeP, keepP, backs, PV.isCont, Op.makes, x_for, itemsOf, dIdx, getAt, ixOf, h1]
end K01
end
section
set_option linter.all false
set_option maxRecDepth 100000
namespace K01
open Tl
theorem e_entries_in (n : Nat) (v : PV) (hv : ok v = true) (h : lay 4 v = true) : callN T (n + 5) 13 [v] = some (.val (.int (lcnt 4 v), false), []) := by
  rw [callN_succ (fn := F13) rfl]
  obtain ⟨ps, e1, e2⟩ := e_places 4 n v [] hv h (Nat.le_refl _) (by simp)
  unfold F13
  simp [runFn, entry, lentIx, x_seq, x_ite, x_ret, x_skip, x_set, x_raise, x_ex, d_var, d_lit, d_or, d_not, d_and, d_ite, d_chain, d_op, d_seq, d_call, denL, denV, denB, looked, lent, places, nodupB, back, bind_val, mv, opDen, noneIn, wipeP, keepP, backs, PV.isCont, Op.makes, e1, dLen, e2]
/-- the law's number of entries, 999 for what is none -/
def lsz : Nat → PV → Int
  | 0, _ => 999
  | d + 1, v => if hd v = true then (itT (entV v)).length + ((itT (entV v)).map fun x => if ((sndV x).isNon || isW (sndV x) 8) = true then 0 else lsz d (sndV x)).sum else 999
def lszI (d : Nat) (x : PV) : Int := if ((sndV x).isNon || isW (sndV x) 8) = true then 0 else lsz d (sndV x)
theorem lsz_nonneg : ∀ (d : Nat) (v : PV), 0 ≤ lsz d v
  | 0, _ => by unfold lsz; omega
  | d + 1, v => by
    unfold lsz
    split
    · have := sum_nonneg (f := lszI d) (xs := itT (entV v)) fun x => by
        unfold lszI
        split
        · omega
        · exact lsz_nonneg d _
      show 0 ≤ ((itT (entV v)).length : Int) + ((itT (entV v)).map (lszI d)).sum
      omega
    · omega
theorem sum_split {d : Nat} : ∀ {xs : List PV}, (∀ x ∈ xs, lszI d x + 1 = lcntI d x) → (xs.length : Int) + (xs.map (lszI d)).sum = ((xs.map (lcntI d)).sum : Nat)
  | [], _ => rfl
  | x :: xs, h => by
    have h1 := h x (by simp)
    have h2 := sum_split (d := d) (xs := xs) fun y hy => h y (by simp [hy])
    simp only [List.map_cons, List.sum_cons, List.length_cons]
    omega
theorem lay_tup {d : Nat} {v : PV} (h : lay d v = true) : ∃ ys, v = .tup ys := by
  cases d with
  | zero => cases h
  | succ d => obtain ⟨b, xs, rfl, _⟩ := lay_shape h; exact ⟨_, rfl⟩
theorem lsz_lay : ∀ (d : Nat) (v : PV), (lay d v = true → lsz d v = lcnt d v) ∧ (lay d v = false → 999 ≤ lsz d v)
  | 0, v => ⟨fun h => (by cases h), fun _ => by unfold lsz; omega⟩
  | d + 1, v => by
    refine ⟨fun h => ?_, fun h => ?_⟩
    · obtain ⟨b, xs, rfl, hp, hs⟩ := lay_shape h
      show (if prs (.tup xs) = true then (xs.length : Int) + (xs.map (lszI d)).sum else 999) = ((xs.map (lcntI d)).sum : Nat)
      rw [if_pos hp]
      refine sum_split fun x hx => ?_
      have hz := (hs x hx).2
      unfold lszI lcntI
      generalize sndV x = z at hz
      unfold entB at hz
      cases hw : (z.isNon || isW z 8) with
      | true =>
        rw [if_pos rfl]
        cases z with
        | tup ys => simp [PV.isNon, isW] at hw
        | _ => rfl
      | false =>
        rw [← Bool.or_assoc, hw, Bool.false_or] at hz
        rw [if_neg (by simp)]
        obtain ⟨ys, rfl⟩ := lay_tup hz
        rw [(lsz_lay d _).1 hz]
        show (lcnt d (.tup ys) : Int) + 1 = ((1 + lcnt d (.tup ys) : Nat) : Int)
        omega
    · unfold lsz
      split
      · rename_i hh
        unfold lay at h
        rw [hh, Bool.true_and] at h
        obtain ⟨x, hx, hz⟩ : ∃ x ∈ itT (entV v), entB d (sndV x) = false := by
          rw [List.all_eq_false] at h
          obtain ⟨x, hx, hz⟩ := h
          exact ⟨x, hx, by simpa [entB] using hz⟩
        unfold entB at hz
        rw [← Bool.or_assoc, Bool.or_eq_false_iff] at hz
        have := sum_ge (b := 999) (f := lszI d) (xs := itT (entV v)) (fun x => by
          unfold lszI
          split
          · omega
          · exact lsz_nonneg d _) ⟨x, hx, by
          unfold lszI
          rw [hz.1, if_neg (by simp)]
          exact (lsz_lay d _).2 hz.2⟩
        show 999 ≤ ((itT (entV v)).length : Int) + ((itT (entV v)).map (lszI d)).sum
        omega
      · omega
theorem e_layer_size : ∀ (d n : Nat) (v : PV), ok v = true → callN T (n + d + 3) 30 [v, .int d] = some (.val (.int (lsz d v), false), [])
  | 0, n, v, hv => by
    rw [show n + 0 + 3 = (n + 2) + 1 from rfl, callN_succ (fn := F30) rfl]
    unfold F30
    simp [runFn, entry, lentIx, x_seq, x_ite, x_ret, x_skip, x_set, x_raise, x_ex, d_var, d_lit, d_or, d_not, d_and, d_ite, d_chain, d_op, d_seq, d_call, denL, denV, denB, looked, lent, places, nodupB, back, bind_val, mv, opDen, noneIn, wipeP, keepP, backs, PV.isCont, Op.makes, dEq, PV.cmpb, PV.flat, PV.dep, PV.eq, lsz]
  | d + 1, n, v, hv => by
    rw [show n + (d + 1) + 3 = (n + d + 3) + 1 from by omega, callN_succ (fn := F30) rfl]
    have hd0 : ((d : Int) + 1 == 0) = false := by simp; omega
    have ew := e_wide (n + d + 2) v 2 2
    rw [show n + d + 2 + 1 = n + d + 3 from rfl] at ew
    unfold F30
    by_cases hh : hd v = true
    · obtain ⟨b, xs, rfl, hp, hs⟩ := hd_shape hh
      have oe : ok (.tup xs) = true := (ok_tup hv).2 _ (by simp)
      obtain ⟨hl, hx⟩ := ok_tup oe
      have e3 := e_is_pairs (n + d + 1) (.tup xs) oe
      rw [show n + d + 1 + 2 = n + d + 3 from rfl, hp] at e3
      rw [show wide (.tup [.bl b, .tup xs]) 2 2 = true from rfl] at ew
      obtain ⟨ρ', h1, h2⟩ := forLoop_ok (f := fun ρ => exe (callN T (n + d + 3)) [] F30b0 ρ) (tg := [3, 4]) (xs := xs) (done := []) (ρ := [some (false, .tup [.bl b, .tup xs]), some (false, .int (d + 1)), some (false, .int xs.length), none, none])
        (fun pre ρ => ∃ s t, ρ = [some (false, .tup [.bl b, .tup xs]), some (false, .int (d + 1)), some (false, .int (xs.length + (pre.map (lszI d)).sum)), s, t]) ⟨none, none, by simp⟩ fun x pre ρ ⟨s, t, e⟩ hm => by
          subst e
          obtain ⟨a, ex⟩ := hs x hm
          have oy := ok_snd (hx x hm)
          rw [List.map_append, List.sum_append]
          have hc : lszI d x = if ((sndV x).isNon || isW (sndV x) 8) = true then 0 else lsz d (sndV x) := rfl
          simp only [List.map_cons, List.map_nil, List.sum_cons, List.sum_nil, hc]
          generalize sndV x = z at ex oy
          subst ex
          have e1 := e_is_text (n + d + 2) z 8 (ok_S oy)
          rw [show n + d + 2 + 1 = n + d + 3 from rfl] at e1
          have e2 := e_layer_size d n z oy
          have hd2 : (d : Int) + 1 - 1 = d := by omega
          refine ⟨_, [some (false, .tup [.bl b, .tup xs]), some (false, .int (d + 1)), some (false, .int (xs.length + ((pre.map (lszI d)).sum + ((if (z.isNon || isW z 8) = true then 0 else lsz d z) + 0)))), some (false, .str a), some (false, z)], rfl, ?_, ⟨_, _, rfl⟩⟩
          cases hn : z.isNon <;> cases hw : isW z 8 <;> simp [F30b0, runFn, entry, lentIx, x_seq, x_ite, x_ret, x_skip, x_set, x_raise, x_ex, d_var, d_lit, d_or, d_not, d_and, d_ite, d_chain, d_op, d_seq, d_call, denL, denV, denB, looked, lent, places, nodupB, back, bind_val, mv, opDen, noneIn, wipeP, keepP, backs, PV.isCont, Op.makes, dNotN, e1, e2, hw, hn, dSub, dAdd, hd2, Int.add_assoc]
      obtain ⟨s, t, rfl⟩ := h2
      have e : lsz (d + 1) (.tup [.bl b, .tup xs]) = xs.length + (xs.map (lszI d)).sum := by
        show (if prs (.tup xs) = true then (xs.length : Int) + (xs.map (lszI d)).sum else 999) = _
        rw [if_pos hp]
      simp [runFn, entry, lentIx, x_seq, x_ite, x_ret, x_skip, x_set, x_raise, x_ex, d_var, d_lit, d_or, d_not, d_and, d_ite, d_chain, d_op, d_seq, d_call, denL, denV, denB, looked, lent, places, nodupB, back, bind_val, mv, opDen, noneIn, wipeP, keepP, backs, PV.isCont, Op.makes, dEq, dIsBool, dIdx, getAt, ixOf, PV.cmpb, PV.flat, PV.dep, PV.eq, hd0, ew, e3, x_for, itemsOf, dLen, h1, e]
    · have hh : hd v = false := by simpa using hh
      rw [show lsz (d + 1) v = 999 by unfold lsz; rw [hh]; rfl]
      rcases hd_cases hh with h | ⟨xs, rfl, h⟩ | ⟨a, e, rfl, h⟩ | ⟨b, e, rfl, h⟩
      · rw [show wide v 2 2 = false by cases v <;> first | rfl | exact absurd rfl (h _)] at ew
        simp [runFn, entry, lentIx, x_seq, x_ite, x_ret, x_skip, x_set, x_raise, x_ex, d_var, d_lit, d_or, d_not, d_and, d_ite, d_chain, d_op, d_seq, d_call, denL, denV, denB, looked, lent, places, nodupB, back, bind_val, mv, opDen, noneIn, wipeP, keepP, backs, PV.isCont, Op.makes, dEq, PV.cmpb, PV.flat, PV.dep, PV.eq, hd0, ew]
      · rw [show wide (.tup xs) 2 2 = false by
          show (decide _ && decide _) = false
          rw [Bool.and_eq_false_iff]
          rcases Nat.lt_or_ge xs.length 2 with k | k
          · exact .inl (decide_eq_false (by omega))
          · exact .inr (decide_eq_false (by omega))] at ew
        simp [runFn, entry, lentIx, x_seq, x_ite, x_ret, x_skip, x_set, x_raise, x_ex, d_var, d_lit, d_or, d_not, d_and, d_ite, d_chain, d_op, d_seq, d_call, denL, denV, denB, looked, lent, places, nodupB, back, bind_val, mv, opDen, noneIn, wipeP, keepP, backs, PV.isCont, Op.makes, dEq, PV.cmpb, PV.flat, PV.dep, PV.eq, hd0, ew]
      · rw [show wide (.tup [a, e]) 2 2 = true from rfl] at ew
        cases a with
        | bl b => exact absurd rfl (h b)
        | _ => simp [runFn, entry, lentIx, x_seq, x_ite, x_ret, x_skip, x_set, x_raise, x_ex, d_var, d_lit, d_or, d_not, d_and, d_ite, d_chain, d_op, d_seq, d_call, denL, denV, denB, looked, lent, places, nodupB, back, bind_val, mv, opDen, noneIn, wipeP, keepP, backs, PV.isCont, Op.makes, dEq, dIsBool, dIdx, getAt, ixOf, PV.cmpb, PV.flat, PV.dep, PV.eq, hd0, ew]
      · rw [show wide (.tup [.bl b, e]) 2 2 = true from rfl] at ew
        have e3 := e_is_pairs (n + d + 1) e ((ok_tup hv).2 _ (by simp))
        rw [show n + d + 1 + 2 = n + d + 3 from rfl, h] at e3
        simp [runFn, entry, lentIx, x_seq, x_ite, x_ret, x_skip, x_set, x_raise, x_ex, d_var, d_lit, d_or, d_not, d_and, d_ite, d_chain, d_op, d_seq, d_call, denL, denV, denB, looked, lent, places, nodupB, back, bind_val, mv, opDen, noneIn, wipeP, keepP, backs, PV.isCont, Op.makes, dEq, dIsBool, dIdx, getAt, ixOf, PV.cmpb, PV.flat, PV.dep, PV.eq, hd0, ew, e3]
/-- a layer -/
def layB (v : PV) : Bool := decide (lsz 4 v ≤ 16)
theorem layB_eq (v : PV) : layB v = (lay 4 v && decide ((lcnt 4 v : Int) ≤ 16)) := by
  unfold layB
  have h := lsz_lay 4 v
  cases hf : lay 4 v with
  | true => rw [h.1 hf]; rfl
  | false =>
    have := h.2 hf
    rw [Bool.false_and]
    exact decide_eq_false (by omega)
theorem e_right_layer (n : Nat) (v : PV) (hv : ok v = true) : callN T (n + 13) 14 [v] = some (.val (.bl (layB v), false), []) := by
  rw [callN_succ (fn := F14) rfl, layB_eq]
  have e1 : callN T (n + 12) 11 [v, .int 4] = some (.val (.bl (lay 4 v), false), []) := e_is_layer_so 4 n v hv
  unfold F14
  cases hf : lay 4 v with
  | true =>
    have e2 := e_entries_in (n + 7) v hv hf
    rw [show n + 7 + 5 = n + 12 from rfl] at e2
    rw [hf] at e1
    simp [runFn, entry, lentIx, x_seq, x_ite, x_ret, x_skip, x_set, x_raise, x_ex, d_var, d_lit, d_or, d_not, d_and, d_ite, d_chain, d_op, d_seq, d_call, denL, denV, denB, looked, lent, places, nodupB, back, bind_val, mv, opDen, noneIn, wipeP, keepP, backs, PV.isCont, Op.makes, e1, e2, dLe]
  | false =>
    rw [hf] at e1
    simp [runFn, entry, lentIx, x_seq, x_ite, x_ret, x_skip, x_set, x_raise, x_ex, d_var, d_lit, d_or, d_not, d_and, d_ite, d_chain, d_op, d_seq, d_call, denL, denV, denB, looked, lent, places, nodupB, back, bind_val, mv, opDen, noneIn, wipeP, keepP, backs, PV.isCont, Op.makes, e1]
theorem e_need_layer (n : Nat) (v : PV) (hv : ok v = true) : callN T (n + 14) 15 [v] = some (if layB v = true then .val (.non, false) else .exn 1, []) := by
  rw [callN_succ (fn := F15) rfl]
  have e1 := e_right_layer n v hv
  unfold F15
  cases hf : layB v <;> rw [hf] at e1 <;> simp [runFn, entry, lentIx, x_seq, x_ite, x_ret, x_skip, x_set, x_raise, x_ex, d_var, d_lit, d_or, d_not, d_and, d_ite, d_chain, d_op, d_seq, d_call, denL, denV, denB, looked, lent, places, nodupB, back, bind_val, mv, opDen, noneIn, wipeP, keepP, backs, PV.isCont, Op.makes, e1]
theorem e_is_layer (n : Nat) (v : PV) (hv : ok v = true) : callN T (n + 14) 16 [v] = some (.val (.bl (layB v), false), []) := by
  rw [callN_succ (fn := F16) rfl]
  have e1 := e_right_layer n v hv
  unfold F16
  simp [runFn, entry, lentIx, x_seq, x_ite, x_ret, x_skip, x_set, x_raise, x_ex, d_var, d_lit, d_or, d_not, d_and, d_ite, d_chain, d_op, d_seq, d_call, denL, denV, denB, looked, lent, places, nodupB, back, bind_val, mv, opDen, noneIn, wipeP, keepP, backs, PV.isCont, Op.makes, e1]
theorem e_count_entries (n : Nat) (v : PV) (hv : ok v = true) : callN T (n + 15) 17 [v] = some (if layB v = true then .val (.int (lsz 4 v), false) else .exn 1, []) := by
  rw [callN_succ (fn := F17) rfl]
  have e1 := e_need_layer n v hv
  unfold F17
  cases hf : layB v with
  | true =>
    rw [hf] at e1
    have hl : lay 4 v = true := by
      rw [layB_eq, Bool.and_eq_true] at hf; exact hf.1
    have e2 := e_entries_in (n + 9) v hv hl
    rw [show n + 9 + 5 = n + 14 from rfl] at e2
    simp [runFn, entry, lentIx, x_seq, x_ite, x_ret, x_skip, x_set, x_raise, x_ex, d_var, d_lit, d_or, d_not, d_and, d_ite, d_chain, d_op, d_seq, d_call, denL, denV, denB, looked, lent, places, nodupB, back, bind_val, mv, opDen, noneIn, wipeP, keepP, backs, PV.isCont, Op.makes, e1, e2, (lsz_lay 4 v).1 hl]
  | false =>
    rw [hf] at e1
    simp [runFn, entry, lentIx, x_seq, x_ite, x_ret, x_skip, x_set, x_raise, x_ex, d_var, d_lit, d_or, d_not, d_and, d_ite, d_chain, d_op, d_seq, d_call, denL, denV, denB, looked, lent, places, nodupB, back, bind_val, mv, opDen, noneIn, wipeP, keepP, backs, PV.isCont, Op.makes, bind_exn, e1]
theorem e_counted (n : Nat) (v : PV) (hv : ok v = true) : callN T (n + 16) 37 [v] = some (.val (if layB v = true then .int (lsz 4 v) else .str [108, 97, 121, 101, 114, 33], false), []) := by
  rw [callN_succ (fn := F37) rfl]
  have e1 := e_count_entries n v hv
  unfold F37
  cases hf : layB v <;> rw [hf] at e1 <;> simp [runFn, entry, lentIx, x_seq, x_ite, x_ret, x_skip, x_set, x_raise, x_ex, d_var, d_lit, d_or, d_not, d_and, d_ite, d_chain, d_op, d_seq, d_call, denL, denV, denB, looked, lent, places, nodupB, back, bind_val, mv, opDen, noneIn, wipeP, keepP, backs, PV.isCont, Op.makes, x_try, bind_exn, e1]
end K01
end
section
set_option linter.all false
set_option maxRecDepth 100000
namespace K01
open Tl
mutual
theorem ok_flat : ∀ v : PV, ok v = true → v.flat = true
  | .non, _ => rfl
  | .bl _, _ => rfl
  | .int _, _ => rfl
  | .str _, _ => rfl
  | .tup xs, h => by unfold ok at h; rw [Bool.and_eq_true] at h; exact okL_flat xs h.2
  | .lst xs, h => by unfold ok at h; rw [Bool.and_eq_true] at h; exact okL_flat xs h.2
  | .dic _ _, h => by cases h
  | .scr _, h => by cases h
theorem okL_flat : ∀ xs : List PV, okL xs = true → PV.flatL xs = true
  | [], _ => rfl
  | x :: xs, h => by
    unfold okL at h
    rw [Bool.and_eq_true] at h
    unfold PV.flatL
    rw [ok_flat x h.1, okL_flat xs h.2]; rfl
end
abbrev wFile : List Nat := [102, 105, 108, 101]
abbrev wFolder : List Nat := [102, 111, 108, 100, 101, 114]
abbrev wNothing : List Nat := [110, 111, 116, 104, 105, 110, 103]
abbrev wIs : List Nat := [105, 115]
def wd (a : List Nat) : Bool := wFile == a || (wFolder == a || wNothing == a)
def whatB (w : PV) : Bool := match w with
  | .tup [.str a] => wd a
  | .tup [.str a, b] => if a = wIs then isW b 8 else match b with
    | .str b => wd a && (wd b && tlt a b)
    | _ => false
  | _ => false
def claimB (v : PV) : Bool := match v with
  | .tup [p, w] => nms p 4 && whatB w
  | _ => false
def isS (v : PV) : Bool := match v with
  | .str _ => true
  | _ => false
theorem whatB_ns (a : List Nat) (y : PV) (hy : ∀ b, y ≠ .str b) : whatB (.tup [.str a, y]) = false := by
  cases y with
  | str b => exact absurd rfl (hy b)
  | _ => by_cases ha : a = wIs <;> simp [whatB, ha, isW]
theorem whatB_s2 (a b : List Nat) (ha : a ≠ wIs) : whatB (.tup [.str a, .str b]) = (wd a && (wd b && tlt a b)) := by simp [whatB, ha]
theorem dIsStr_eq (v : PV) : dIsStr [v] = some (.bl (isS v)) := by cases v <;> rfl
theorem words_in (a : List Nat) : opIn (.str a) (.tup [.str wFile, .str wFolder, .str wNothing]) = some (wd a) := by
  simp [opIn, PV.cmpb, PV.flat, PV.flatL, PV.dep, PV.eq, wd]
theorem e_is_strs (n : Nat) (v : PV) (xs : List PV) (hx : xs.length ≤ 60) : den (callN T n) F18c0 [some (false, v), some (false, .tup xs), none] = some (.val (.lst (xs.map fun x => .bl (isS x)), true), [some (false, v), some (false, .tup xs), none]) := by
  refine (den_mapP (v := .tup xs) (b := false) (ρ1 := [some (false, v), some (false, .tup xs), none]) (fun x => .bl (isS x)) (by simp [d_var]) rfl (big60 hx) fun y hy => ?_).trans rfl
  refine ⟨_, rfl, rfl, ?_⟩
  simp [F18e0, runFn, entry, lentIx, x_seq, x_ite, x_ret, x_skip, x_set, x_raise, x_ex, d_var, d_lit, d_or, d_not, d_and, d_ite, d_chain, d_op, d_seq, d_call, denL, denV, denB, looked, lent, places, nodupB, back, bind_val, mv, opDen, noneIn, wipeP, keepP, backs, PV.isCont, Op.makes, dIsStr_eq]
theorem e_in_words (n : Nat) (v : PV) (as : List (List Nat)) (hx : as.length ≤ 60) : den (callN T n) F18c1 [some (false, v), some (false, .tup (as.map .str)), none] = some (.val (.lst (as.map fun a => .bl (wd a)), true), [some (false, v), some (false, .tup (as.map .str)), none]) := by
  refine (den_mapP (v := .tup (as.map .str)) (b := false) (ρ1 := [some (false, v), some (false, .tup (as.map .str)), none]) (fun x => match x with | .str a => .bl (wd a) | _ => .non) (by simp [d_var]) rfl (big60 (by simpa using hx)) fun y hy => ?_).trans (by rw [List.map_map]; rfl)
  obtain ⟨a, _, rfl⟩ := List.mem_map.mp hy
  refine ⟨_, rfl, rfl, ?_⟩
  simp [F18e1, runFn, entry, lentIx, x_seq, x_ite, x_ret, x_skip, x_set, x_raise, x_ex, d_var, d_lit, d_or, d_not, d_and, d_ite, d_chain, d_op, d_seq, d_call, denL, denV, denB, looked, lent, places, nodupB, back, bind_val, mv, opDen, noneIn, wipeP, keepP, backs, PV.isCont, Op.makes, dIsin, words_in]
set_option maxHeartbeats 4000000 in
theorem e_right_claim (n : Nat) (v : PV) (hv : ok v = true) : callN T (n + 4) 18 [v] = some (.val (.bl (claimB v), false), []) := by
  rw [callN_succ (fn := F18) rfl]
  unfold F18
  cases v with
  | tup vs =>
    match vs, hv with
    | [], _ => simp [runFn, entry, lentIx, x_seq, x_ite, x_ret, x_skip, x_set, x_raise, x_ex, d_var, d_lit, d_or, d_not, d_and, d_ite, d_chain, d_op, d_seq, d_call, denL, denV, denB, looked, lent, places, nodupB, back, bind_val, mv, opDen, noneIn, wipeP, keepP, backs, PV.isCont, Op.makes, dIsTup, dLen, dNe, PV.eq, PV.cmpb, PV.flat, PV.dep, claimB]
    | [_], _ => simp [runFn, entry, lentIx, x_seq, x_ite, x_ret, x_skip, x_set, x_raise, x_ex, d_var, d_lit, d_or, d_not, d_and, d_ite, d_chain, d_op, d_seq, d_call, denL, denV, denB, looked, lent, places, nodupB, back, bind_val, mv, opDen, noneIn, wipeP, keepP, backs, PV.isCont, Op.makes, dIsTup, dLen, dNe, PV.eq, PV.cmpb, PV.flat, PV.dep, claimB]
    | a :: b :: c :: r, _ =>
      have : ((r.length : Int) + 1 + 1 + 1 == 2) = false := by simp; omega
      simp [runFn, entry, lentIx, x_seq, x_ite, x_ret, x_skip, x_set, x_raise, x_ex, d_var, d_lit, d_or, d_not, d_and, d_ite, d_chain, d_op, d_seq, d_call, denL, denV, denB, looked, lent, places, nodupB, back, bind_val, mv, opDen, noneIn, wipeP, keepP, backs, PV.isCont, Op.makes, dIsTup, dLen, dNe, PV.eq, PV.cmpb, PV.flat, PV.dep, claimB, this]
    | [p, w], hv =>
      have op := (ok_tup hv).2 p (by simp)
      have ow := (ok_tup hv).2 w (by simp)
      have e1 := e_is_names n p 4 op
      cases hp : nms p 4 with
      | false =>
        rw [hp] at e1
        simp [runFn, entry, lentIx, x_seq, x_ite, x_ret, x_skip, x_set, x_raise, x_ex, d_var, d_lit, d_or, d_not, d_and, d_ite, d_chain, d_op, d_seq, d_call, denL, denV, denB, looked, lent, places, nodupB, back, bind_val, mv, opDen, noneIn, wipeP, keepP, backs, PV.isCont, Op.makes, dIsTup, dLen, dNe, dIdx, getAt, ixOf, PV.eq, PV.cmpb, PV.flat, PV.dep, claimB, hp, e1]
      | true =>
        rw [hp] at e1
        rw [show claimB (.tup [p, w]) = whatB w by show (nms p 4 && _) = _; rw [hp]; rfl]
        cases w with
        | tup ws =>
          match ws, ow with
          | [], _ => simp [runFn, entry, lentIx, x_seq, x_ite, x_ret, x_skip, x_set, x_raise, x_ex, d_var, d_lit, d_or, d_not, d_and, d_ite, d_chain, d_op, d_seq, d_call, denL, denV, denB, looked, lent, places, nodupB, back, bind_val, mv, opDen, noneIn, wipeP, keepP, backs, PV.isCont, Op.makes, dIsTup, dLen, dNe, dLe, dIdx, getAt, ixOf, PV.eq, PV.cmpb, PV.flat, PV.dep, whatB, hp, e1]
          | a :: b :: c :: r, _ =>
            have h1 : (1 : Int) ≤ (r.length : Int) + 1 + 1 + 1 := by omega
            have h2 : ¬ ((r.length : Int) + 1 + 1 + 1 ≤ 2) := by omega
            simp [runFn, entry, lentIx, x_seq, x_ite, x_ret, x_skip, x_set, x_raise, x_ex, d_var, d_lit, d_or, d_not, d_and, d_ite, d_chain, d_op, d_seq, d_call, denL, denV, denB, looked, lent, places, nodupB, back, bind_val, mv, opDen, noneIn, wipeP, keepP, backs, PV.isCont, Op.makes, dIsTup, dLen, dNe, dLe, dIdx, getAt, ixOf, PV.eq, PV.cmpb, PV.flat, PV.dep, whatB, hp, e1, h1, h2]
          | [x], ow =>
            have hc := e_is_strs (n + 3) (.tup [p, .tup [x]]) [x] (by simp)
            cases x with
            | str a =>
              have hc1 := e_in_words (n + 3) (.tup [p, .tup [.str a]]) [a] (by simp)
              simp only [List.map_cons, List.map_nil, isS] at hc hc1
              have hs : insT a [] = [a] := rfl
              by_cases ha : a = wIs
              · subst ha
                simp [runFn, entry, lentIx, x_seq, x_ite, x_ret, x_skip, x_set, x_raise, x_ex, d_var, d_lit, d_or, d_not, d_and, d_ite, d_chain, d_op, d_seq, d_call, denL, denV, denB, looked, lent, places, nodupB, back, bind_val, mv, opDen, noneIn, wipeP, keepP, backs, PV.isCont, Op.makes, dIsTup, dLen, dNe, dEq, dLe, dAll, allB, dIdx, getAt, ixOf, PV.eq, PV.cmpb, PV.flat, PV.dep, whatB, hp, e1, hc, hc1, isS, wd]
              · have ha2 : (a == wIs) = false := by simpa using ha
                simp [runFn, entry, lentIx, x_seq, x_ite, x_ret, x_skip, x_set, x_raise, x_ex, d_var, d_lit, d_or, d_not, d_and, d_ite, d_chain, d_op, d_seq, d_call, denL, denV, denB, looked, lent, places, nodupB, back, bind_val, mv, opDen, noneIn, wipeP, keepP, backs, PV.isCont, Op.makes, dIsTup, dLen, dNe, dEq, dLe, dAll, allB, dToLst, dSortSet, allS, sortT, hs, dIdx, getAt, ixOf, PV.eq, PV.eqL, PV.cmpb, PV.flat, PV.flatL, PV.dep, PV.depL, whatB, hp, e1, hc, hc1, isS, ha2]
                cases wd a <;> simp [runFn, entry, lentIx, x_seq, x_ite, x_ret, x_skip, x_set, x_raise, x_ex, d_var, d_lit, d_or, d_not, d_and, d_ite, d_chain, d_op, d_seq, d_call, denL, denV, denB, looked, lent, places, nodupB, back, bind_val, mv, opDen, noneIn, wipeP, keepP, backs, PV.isCont, Op.makes, dEq, dToLst, dSortSet, allS, sortT, hs, PV.eq, PV.eqL, PV.cmpb, PV.flat, PV.flatL, PV.dep, PV.depL]
            | _ =>
              simp only [List.map_cons, List.map_nil, isS] at hc
              simp [runFn, entry, lentIx, x_seq, x_ite, x_ret, x_skip, x_set, x_raise, x_ex, d_var, d_lit, d_or, d_not, d_and, d_ite, d_chain, d_op, d_seq, d_call, denL, denV, denB, looked, lent, places, nodupB, back, bind_val, mv, opDen, noneIn, wipeP, keepP, backs, PV.isCont, Op.makes, dIsTup, dLen, dNe, dLe, dAll, allB, dIdx, getAt, ixOf, PV.eq, PV.cmpb, PV.flat, PV.dep, whatB, hp, e1, hc]
          | [x, y], ow =>
            have hc := e_is_strs (n + 3) (.tup [p, .tup [x, y]]) [x, y] (by simp)
            have oy := (ok_tup ow).2 y (by simp)
            have e2 := e_is_content (n + 1) y (ok_S oy)
            rw [show n + 1 + 2 = n + 3 from rfl] at e2
            simp only [List.map_cons, List.map_nil] at hc
            cases x with
            | str a =>
              cases y with
              | str b =>
                have hc1 := e_in_words (n + 3) (.tup [p, .tup [.str a, .str b]]) [a, b] (by simp)
                simp only [List.map_cons, List.map_nil, isS] at hc hc1
                have hq := eqL_strs [a, b] (sortT [a, b])
                rw [asd_sortT] at hq
                have hf := flatL_strs (sortT [a, b])
                have hdp := depL_strs (sortT [a, b])
                by_cases ha : a = wIs
                · subst ha
                  simp [runFn, entry, lentIx, x_seq, x_ite, x_ret, x_skip, x_set, x_raise, x_ex, d_var, d_lit, d_or, d_not, d_and, d_ite, d_chain, d_op, d_seq, d_call, denL, denV, denB, looked, lent, places, nodupB, back, bind_val, mv, opDen, noneIn, wipeP, keepP, backs, PV.isCont, Op.makes, dIsTup, dLen, dNe, dEq, dLe, dAll, allB, dIdx, getAt, ixOf, PV.eq, PV.cmpb, PV.flat, PV.dep, whatB, hp, e1, e2, hc, hc1]
                · have ha2 : (a == wIs) = false := by simpa using ha
                  rw [show whatB (.tup [.str a, .str b]) = (wd a && (wd b && tlt a b)) by show (if a = wIs then _ else _) = _; rw [if_neg ha]]
                  rw [show ascB [a, b] = tlt a b by simp [ascB]] at hq
                  simp only [List.map_cons, List.map_nil] at hq
                  generalize hso : (sortT [a, b]) = so at hq hf hdp
                  cases h1 : wd a <;> cases h2 : wd b <;> rw [h1, h2] at hc1 <;>
                    simp [runFn, entry, lentIx, x_seq, x_ite, x_ret, x_skip, x_set, x_raise, x_ex, d_var, d_lit, d_or, d_not, d_and, d_ite, d_chain, d_op, d_seq, d_call, denL, denV, denB, looked, lent, places, nodupB, back, bind_val, mv, opDen, noneIn, wipeP, keepP, backs, PV.isCont, Op.makes, dIsTup, dLen, dNe, dEq, dLe, dAll, allB, dToLst, dSortSet, allS, hso, dIdx, getAt, ixOf, PV.eq, PV.cmpb, PV.flat, PV.flatL, PV.dep, PV.depL, hp, e1, hc, hc1, ha2, hf, hdp, hq]
              | _ =>
                simp only [isS] at hc
                rw [whatB_ns _ _ (by nofun)]
                simp [runFn, entry, lentIx, x_seq, x_ite, x_ret, x_skip, x_set, x_raise, x_ex, d_var, d_lit, d_or, d_not, d_and, d_ite, d_chain, d_op, d_seq, d_call, denL, denV, denB, looked, lent, places, nodupB, back, bind_val, mv, opDen, noneIn, wipeP, keepP, backs, PV.isCont, Op.makes, dIsTup, dLen, dNe, dLe, dAll, allB, dIdx, getAt, ixOf, PV.eq, PV.cmpb, PV.flat, PV.dep, hp, e1, hc]
            | _ =>
              simp only [isS] at hc
              simp [runFn, entry, lentIx, x_seq, x_ite, x_ret, x_skip, x_set, x_raise, x_ex, d_var, d_lit, d_or, d_not, d_and, d_ite, d_chain, d_op, d_seq, d_call, denL, denV, denB, looked, lent, places, nodupB, back, bind_val, mv, opDen, noneIn, wipeP, keepP, backs, PV.isCont, Op.makes, dIsTup, dLen, dNe, dLe, dAll, allB, dIdx, getAt, ixOf, PV.eq, PV.cmpb, PV.flat, PV.dep, whatB, hp, e1, hc]
        | _ => simp [runFn, entry, lentIx, x_seq, x_ite, x_ret, x_skip, x_set, x_raise, x_ex, d_var, d_lit, d_or, d_not, d_and, d_ite, d_chain, d_op, d_seq, d_call, denL, denV, denB, looked, lent, places, nodupB, back, bind_val, mv, opDen, noneIn, wipeP, keepP, backs, PV.isCont, Op.makes, dIsTup, dLen, dNe, dIdx, getAt, ixOf, PV.eq, PV.cmpb, PV.flat, PV.dep, whatB, hp, e1]
  | _ => simp [runFn, entry, lentIx, x_seq, x_ite, x_ret, x_skip, x_set, x_raise, x_ex, d_var, d_lit, d_or, d_not, d_and, d_ite, d_chain, d_op, d_seq, d_call, denL, denV, denB, looked, lent, places, nodupB, back, bind_val, mv, opDen, noneIn, wipeP, keepP, backs, PV.isCont, Op.makes, dIsTup, claimB]
theorem e_is_claim (n : Nat) (v : PV) (hv : ok v = true) : callN T (n + 5) 19 [v] = some (.val (.bl (claimB v), false), []) := by
  rw [callN_succ (fn := F19) rfl]
  have e1 := e_right_claim n v hv
  unfold F19
  simp [runFn, entry, lentIx, x_seq, x_ite, x_ret, x_skip, x_set, x_raise, x_ex, d_var, d_lit, d_or, d_not, d_and, d_ite, d_chain, d_op, d_seq, d_call, denL, denV, denB, looked, lent, places, nodupB, back, bind_val, mv, opDen, noneIn, wipeP, keepP, backs, PV.isCont, Op.makes, e1]
end K01
end
section
set_option linter.all false
set_option maxRecDepth 100000
namespace K01
open Tl
/-! ### the law's claims -/
theorem fil_not (p : PV → Bool) : ∀ {xs : List PV}, PV.eqL ((xs.filter fun x => !p x)) [] = xs.all p
  | [] => rfl
  | x :: xs => by
    have ih := fil_not p (xs := xs)
    cases h : p x
    · simp [h, PV.eqL]
    · simpa [h] using ih
theorem flatL_fil {p : PV → Bool} : ∀ {xs : List PV}, PV.flatL xs = true → PV.flatL (xs.filter p) = true
  | [], _ => rfl
  | x :: xs, h => by
    unfold PV.flatL at h
    rw [Bool.and_eq_true] at h
    have ih := flatL_fil (p := p) h.2
    cases hp : p x
    · simpa [hp] using ih
    · simp [hp, PV.flatL, h.1, ih]
theorem okL_of : ∀ {xs : List PV}, (∀ x ∈ xs, ok x = true) → okL xs = true
  | [], _ => rfl
  | x :: xs, h => by
    unfold okL
    rw [h x (by simp), okL_of fun y hy => h y (by simp [hy])]; rfl
abbrev so6 : List PV := [.tup [.str wFile], .tup [.str wFolder], .tup [.str wNothing], .tup [.str wFile, .str wFolder], .tup [.str wFile, .str wNothing], .tup [.str wFolder, .str wNothing]]
theorem eqL_1 (u x : PV) : PV.eqL [u] [x] = PV.eq u x := by
  show (PV.eq u x && true) = _
  rw [Bool.and_true]
theorem eqL_2 (u w x y : PV) : PV.eqL [u, w] [x, y] = (PV.eq u x && PV.eq w y) := by
  show (PV.eq u x && (PV.eq w y && true)) = _
  rw [Bool.and_true]
theorem so6_1 (x : PV) : (so6.any fun y => y.eq (.tup [x])) = (PV.eq (.str wFile) x || (PV.eq (.str wFolder) x || PV.eq (.str wNothing) x)) := by
  show (PV.eqL [.str wFile] [x] || (PV.eqL [.str wFolder] [x] || (PV.eqL [.str wNothing] [x] || (PV.eqL [.str wFile, .str wFolder] [x] || (PV.eqL [.str wFile, .str wNothing] [x] || (PV.eqL [.str wFolder, .str wNothing] [x] || false)))))) = _
  have h : ∀ u w : PV, PV.eqL [u, w] [x] = false := fun u w => by show (PV.eq u x && false) = false; rw [Bool.and_false]
  rw [eqL_1, eqL_1, eqL_1, h, h, h]
  simp only [Bool.or_false]
theorem so6_2 (x z : PV) : (so6.any fun y => y.eq (.tup [x, z])) = ((PV.eq (.str wFile) x && PV.eq (.str wFolder) z) || ((PV.eq (.str wFile) x && PV.eq (.str wNothing) z) || (PV.eq (.str wFolder) x && PV.eq (.str wNothing) z))) := by
  show (PV.eqL [.str wFile] [x, z] || (PV.eqL [.str wFolder] [x, z] || (PV.eqL [.str wNothing] [x, z] || (PV.eqL [.str wFile, .str wFolder] [x, z] || (PV.eqL [.str wFile, .str wNothing] [x, z] || (PV.eqL [.str wFolder, .str wNothing] [x, z] || false)))))) = _
  have h : ∀ u : PV, PV.eqL [u] [x, z] = false := fun u => by show (PV.eq u x && false) = false; rw [Bool.and_false]
  rw [eqL_2, eqL_2, eqL_2, h, h, h]
  simp only [Bool.or_false, Bool.false_or]
theorem so_2 (a b : List Nat) : (so6.any fun y => y.eq (.tup [.str a, .str b])) = (wd a && (wd b && tlt a b)) := by
  rw [so6_2]
  show (((wFile == a) && (wFolder == b)) || (((wFile == a) && (wNothing == b)) || ((wFolder == a) && (wNothing == b)))) = (((wFile == a) || ((wFolder == a) || (wNothing == a))) && (((wFile == b) || ((wFolder == b) || (wNothing == b))) && tlt a b))
  have key : ∀ a ∈ [wFile, wFolder, wNothing], ∀ b ∈ [wFile, wFolder, wNothing], (((wFile == a) && (wFolder == b)) || (((wFile == a) && (wNothing == b)) || ((wFolder == a) && (wNothing == b)))) = (((wFile == a) || ((wFolder == a) || (wNothing == a))) && (((wFile == b) || ((wFolder == b) || (wNothing == b))) && tlt a b)) := by decide
  by_cases ha : a ∈ [wFile, wFolder, wNothing]
  · by_cases hb : b ∈ [wFile, wFolder, wNothing]
    · exact key a ha b hb
    · have e : ∀ w ∈ [wFile, wFolder, wNothing], (w == b) = false := fun w hw => beq_eq_false_iff_ne.mpr fun z => hb (z ▸ hw)
      rw [e wFile (by decide), e wFolder (by decide), e wNothing (by decide)]
      simp
  · have e : ∀ w ∈ [wFile, wFolder, wNothing], (w == a) = false := fun w hw => beq_eq_false_iff_ne.mpr fun z => ha (z ▸ hw)
    rw [e wFile (by decide), e wFolder (by decide), e wNothing (by decide)]
    simp
theorem so_1 (a : List Nat) : (so6.any fun y => y.eq (.tup [.str a])) = wd a := by
  rw [so6_1]; rfl
theorem so_n1 (x : PV) (h : ∀ a, x ≠ .str a) : (so6.any fun y => y.eq (.tup [x])) = false := by
  rw [so6_1]
  cases x with
  | str a => exact absurd rfl (h a)
  | _ => rfl
theorem eq_ns (w : List Nat) (x : PV) (h : ∀ a, x ≠ .str a) : PV.eq (.str w) x = false := by
  cases x with
  | str a => exact absurd rfl (h a)
  | _ => rfl
theorem so_n2 (x y : PV) (h : (∀ a, x ≠ .str a) ∨ (∀ a, y ≠ .str a)) : (so6.any fun z => z.eq (.tup [x, y])) = false := by
  rw [so6_2]
  rcases h with h | h
  · rw [eq_ns _ _ h, eq_ns _ _ h]; rfl
  · rw [eq_ns _ _ h, eq_ns _ _ h]; simp
/-- what the law asks of the second part -/
theorem whatB_so (ws : List PV) (h : ws.length = 1 ∨ ws.length = 2) (hf : ∀ b, ws ≠ [.str wIs, b]) (h1 : ws ≠ [.str wIs]) : whatB (.tup ws) = (so6.any fun y => y.eq (.tup ws)) := by
  match ws, h with
  | [x], _ =>
    cases x with
    | str a => rw [so_1]; rfl
    | _ => rw [so_n1 _ (by nofun)]; rfl
  | [x, y], _ =>
    cases x with
    | str a =>
      have ha : a ≠ wIs := fun z => hf y (by rw [z])
      cases y with
      | str b => rw [so_2, whatB_s2 a b ha]
      | _ => rw [so_n2 _ _ (.inr (by nofun)), whatB_ns _ _ (by nofun)]
    | _ => rw [so_n2 _ _ (.inl (by nofun))]; rfl
  | _ :: _ :: _ :: _, h => simp at h
end K01
end
section
set_option linter.all false
set_option maxRecDepth 100000
namespace K01
open Tl
theorem wide_shape {v : PV} {lo hi : Int} (h : wide v lo hi = true) : ∃ xs, v = .tup xs ∧ lo ≤ (xs.length : Int) ∧ (xs.length : Int) ≤ hi := by
  unfold wide at h
  split at h
  · rw [Bool.and_eq_true, decide_eq_true_eq, decide_eq_true_eq] at h
    exact ⟨_, rfl, h.1, h.2⟩
  · cases h
theorem two_of {xs : List PV} (h1 : (2 : Int) ≤ xs.length) (h2 : (xs.length : Int) ≤ 2) : ∃ a b, xs = [a, b] := by
  match xs, h1, h2 with
  | [a, b], _, _ => exact ⟨a, b, rfl⟩
  | [], h, _ => simp at h
  | [_], h, _ => simp at h
  | _ :: _ :: _ :: r, _, h => simp at h; omega
theorem whatB_wide {w : PV} (h : wide w 1 2 = false) : whatB w = false := by
  cases w with
  | tup ws =>
    match ws, h with
    | [], _ => rfl
    | [x], h => cases h
    | [x, y], h => cases h
    | x :: y :: z :: r, _ => cases x <;> rfl
  | _ => rfl
theorem claimB_wide {v : PV} (h : wide v 2 2 = false) : claimB v = false := by
  cases v with
  | tup ws =>
    match ws, h with
    | [], _ => rfl
    | [x], h => rfl
    | [x, y], h => cases h
    | x :: y :: z :: r, _ => rfl
  | _ => rfl
set_option maxHeartbeats 4000000 in
theorem e_good_claim (n : Nat) (v : PV) (hv : ok v = true) : callN T (n + 4) 36 [v] = some (.val (.bl (claimB v), false), []) := by
  rw [callN_succ (fn := F36) rfl]
  have e0 := e_wide (n + 2) v 2 2
  rw [show n + 2 + 1 = n + 3 from rfl] at e0
  unfold F36
  cases h0 : wide v 2 2 with
  | false =>
    rw [h0] at e0
    rw [claimB_wide h0]
    simp [runFn, entry, lentIx, x_seq, x_ite, x_ret, x_skip, x_set, x_raise, x_ex, d_var, d_lit, d_or, d_not, d_and, d_ite, d_chain, d_op, d_seq, d_call, denL, denV, denB, looked, lent, places, nodupB, back, bind_val, mv, opDen, noneIn, wipeP, keepP, backs, PV.isCont, Op.makes, e0]
  | true =>
    rw [h0] at e0
    obtain ⟨vs, rfl, a1, a2⟩ := wide_shape h0
    obtain ⟨p, w, rfl⟩ := two_of a1 a2
    have op := (ok_tup hv).2 p (by simp)
    have ow := (ok_tup hv).2 w (by simp)
    have e1 := e_wide (n + 2) p 1 4
    have e2 := e_wide (n + 2) w 1 2
    rw [show n + 2 + 1 = n + 3 from rfl] at e1 e2
    cases h1 : wide p 1 4 with
    | false =>
      rw [h1] at e1
      rw [show claimB (.tup [p, w]) = false by show ((wide p 1 4 && _) && _) = false; rw [h1]; rfl]
      simp [runFn, entry, lentIx, x_seq, x_ite, x_ret, x_skip, x_set, x_raise, x_ex, d_var, d_lit, d_or, d_not, d_and, d_ite, d_chain, d_op, d_seq, d_call, denL, denV, denB, looked, lent, places, nodupB, back, bind_val, mv, opDen, noneIn, wipeP, keepP, backs, PV.isCont, Op.makes, e0, e1, dIdx, getAt, ixOf]
    | true =>
      rw [h1] at e1
      cases h2 : wide w 1 2 with
      | false =>
        rw [h2] at e2
        rw [show claimB (.tup [p, w]) = false by show (_ && whatB w) = false; rw [whatB_wide h2, Bool.and_false]]
        simp [runFn, entry, lentIx, x_seq, x_ite, x_ret, x_skip, x_set, x_raise, x_ex, d_var, d_lit, d_or, d_not, d_and, d_ite, d_chain, d_op, d_seq, d_call, denL, denV, denB, looked, lent, places, nodupB, back, bind_val, mv, opDen, noneIn, wipeP, keepP, backs, PV.isCont, Op.makes, e0, e1, e2, dIdx, getAt, ixOf]
      | true =>
        rw [h2] at e2
        obtain ⟨ps, rfl, _, _⟩ := wide_shape h1
        obtain ⟨ws, rfl, b1, b2⟩ := wide_shape h2
        obtain ⟨hl, hx⟩ := ok_tup op
        have hc : den (callN T (n + 3)) F36c0 [some (false, .tup [.tup ps, .tup ws]), none, none, none, none] = some (.val (.lst (ps.filter fun x => !isW x 4), true), [some (false, .tup [.tup ps, .tup ws]), none, none, none, none]) := by
          refine (den_compP (v := .tup ps) (b := false) (ρ1 := [some (false, .tup [.tup ps, .tup ws]), none, none, none, none]) (fun x => !isW x 4) (fun x => x) (by simp [runFn, entry, lentIx, x_seq, x_ite, x_ret, x_skip, x_set, x_raise, x_ex, d_var, d_lit, d_or, d_not, d_and, d_ite, d_chain, d_op, d_seq, d_call, denL, denV, denB, looked, lent, places, nodupB, back, bind_val, mv, opDen, noneIn, wipeP, keepP, backs, PV.isCont, Op.makes, dIdx, getAt, ixOf]) rfl (big60 hl) fun y hy => ?_).trans (by rw [List.map_id']; rfl)
          refine ⟨_, rfl, rfl, ?_, ?_⟩
          · have e3 := e_is_text (n + 2) y 4 (ok_S (hx y hy))
            rw [show n + 2 + 1 = n + 3 from rfl] at e3
            simp [F36t0, runFn, entry, lentIx, x_seq, x_ite, x_ret, x_skip, x_set, x_raise, x_ex, d_var, d_lit, d_or, d_not, d_and, d_ite, d_chain, d_op, d_seq, d_call, denL, denV, denB, looked, lent, places, nodupB, back, bind_val, mv, opDen, noneIn, wipeP, keepP, backs, PV.isCont, Op.makes, e3]
          · simp [F36e0, runFn, entry, lentIx, x_seq, x_ite, x_ret, x_skip, x_set, x_raise, x_ex, d_var, d_lit, d_or, d_not, d_and, d_ite, d_chain, d_op, d_seq, d_call, denL, denV, denB, looked, lent, places, nodupB, back, bind_val, mv, opDen, noneIn, wipeP, keepP, backs, PV.isCont, Op.makes]
        have he := fil_not (fun x => isW x 4) (xs := ps)
        have hf : PV.flatL (ps.filter fun x => !isW x 4) = true := flatL_fil (okL_flat ps (okL_of hx))
        have hcl : claimB (.tup [.tup ps, .tup ws]) = ((ps.all fun x => isW x 4) && whatB (.tup ws)) := by
          show ((wide (.tup ps) 1 4 && ps.all _) && _) = _
          rw [h1]; rfl
        rw [hcl]
        generalize (ps.filter fun x => !isW x 4) = qs at hc he hf
        cases hw : (ps.all fun x => isW x 4) with
        | false =>
          rw [hw] at he
          simp [runFn, entry, lentIx, x_seq, x_ite, x_ret, x_skip, x_set, x_raise, x_ex, d_var, d_lit, d_or, d_not, d_and, d_ite, d_chain, d_op, d_seq, d_call, denL, denV, denB, looked, lent, places, nodupB, back, bind_val, mv, opDen, noneIn, wipeP, keepP, backs, PV.isCont, Op.makes, e0, e1, e2, dIdx, getAt, ixOf, hc, dNe, PV.cmpb, PV.flat, PV.flatL, PV.dep, PV.depL, PV.eq, hf, he]
        | true =>
          rw [hw] at he
          rw [Bool.true_and]
          have hwf := okL_flat ws (okL_of (ok_tup ow).2)
          match ws, b1, b2, ow, hwf with
          | [x], _, _, ow, hwf =>
            by_cases hx1 : x = .str wIs
            · subst hx1
              simp [runFn, entry, lentIx, x_seq, x_ite, x_ret, x_skip, x_set, x_raise, x_ex, d_var, d_lit, d_or, d_not, d_and, d_ite, d_chain, d_op, d_seq, d_call, denL, denV, denB, looked, lent, places, nodupB, back, bind_val, mv, opDen, noneIn, wipeP, keepP, backs, PV.isCont, Op.makes, e0, e1, e2, dIdx, getAt, ixOf, hc, dNe, dEq, dNeg, dIsStr, dLen, denF, setAll, x_par, PV.cmpb, PV.flat, PV.flatL, PV.dep, PV.depL, PV.eq, hf, he, whatB, wd]
            · have hin : opIn (.tup [x]) (.lst so6) = some (whatB (.tup [x])) := by
                rw [whatB_so [x] (.inl rfl) (by simp) (by simpa using hx1)]
                have : PV.cmpb (.tup [x]) (.lst so6) = true := by
                  simp [PV.cmpb, PV.flat, PV.flatL, PV.dep, PV.depL] at hwf ⊢
                  exact ⟨hwf, by omega⟩
                show (if _ = true then _ else _) = _
                rw [if_pos this]
              cases x with
              | str a =>
                have ha : (a == wIs) = false := beq_eq_false_iff_ne.mpr fun z => hx1 (by rw [z])
                simp [runFn, entry, lentIx, x_seq, x_ite, x_ret, x_skip, x_set, x_raise, x_ex, d_var, d_lit, d_or, d_not, d_and, d_ite, d_chain, d_op, d_seq, d_call, denL, denV, denB, looked, lent, places, nodupB, back, bind_val, mv, opDen, noneIn, wipeP, keepP, backs, PV.isCont, Op.makes, e0, e1, e2, dIdx, getAt, ixOf, hc, dNe, dEq, dNeg, dIsStr, denF, setAll, x_par, PV.cmpb, PV.flat, PV.flatL, PV.dep, PV.depL, PV.eq, hf, he, dIsin, hin, ha]
              | _ => simp [runFn, entry, lentIx, x_seq, x_ite, x_ret, x_skip, x_set, x_raise, x_ex, d_var, d_lit, d_or, d_not, d_and, d_ite, d_chain, d_op, d_seq, d_call, denL, denV, denB, looked, lent, places, nodupB, back, bind_val, mv, opDen, noneIn, wipeP, keepP, backs, PV.isCont, Op.makes, e0, e1, e2, dIdx, getAt, ixOf, hc, dNe, dNeg, dIsStr, denF, setAll, x_par, PV.cmpb, PV.flat, PV.flatL, PV.dep, PV.depL, PV.eq, hf, he, dIsin, hin]
          | [x, y], _, _, ow, hwf =>
            have e4 := e_is_text (n + 2) y 8 (ok_S ((ok_tup ow).2 y (by simp)))
            rw [show n + 2 + 1 = n + 3 from rfl] at e4
            by_cases hx1 : x = .str wIs
            · subst hx1
              rw [show whatB (.tup [.str wIs, y]) = isW y 8 by simp [whatB]]
              simp [runFn, entry, lentIx, x_seq, x_ite, x_ret, x_skip, x_set, x_raise, x_ex, d_var, d_lit, d_or, d_not, d_and, d_ite, d_chain, d_op, d_seq, d_call, denL, denV, denB, looked, lent, places, nodupB, back, bind_val, mv, opDen, noneIn, wipeP, keepP, backs, PV.isCont, Op.makes, e0, e1, e2, e4, dIdx, getAt, ixOf, hc, dNe, dEq, dNeg, dIsStr, dLen, denF, setAll, x_par, PV.cmpb, PV.flat, PV.flatL, PV.dep, PV.depL, PV.eq, hf, he]
            · have hin : opIn (.tup [x, y]) (.lst so6) = some (whatB (.tup [x, y])) := by
                rw [whatB_so [x, y] (.inr rfl) (by simpa using hx1) (by simp)]
                have : PV.cmpb (.tup [x, y]) (.lst so6) = true := by
                  simp [PV.cmpb, PV.flat, PV.flatL, PV.dep, PV.depL] at hwf ⊢
                  exact ⟨hwf, by omega⟩
                show (if _ = true then _ else _) = _
                rw [if_pos this]
              cases x with
              | str a =>
                have ha : (a == wIs) = false := beq_eq_false_iff_ne.mpr fun z => hx1 (by rw [z])
                simp [runFn, entry, lentIx, x_seq, x_ite, x_ret, x_skip, x_set, x_raise, x_ex, d_var, d_lit, d_or, d_not, d_and, d_ite, d_chain, d_op, d_seq, d_call, denL, denV, denB, looked, lent, places, nodupB, back, bind_val, mv, opDen, noneIn, wipeP, keepP, backs, PV.isCont, Op.makes, e0, e1, e2, dIdx, getAt, ixOf, hc, dNe, dEq, dNeg, dIsStr, denF, setAll, x_par, PV.cmpb, PV.flat, PV.flatL, PV.dep, PV.depL, PV.eq, hf, he, dIsin, hin, ha]
              | _ => simp [runFn, entry, lentIx, x_seq, x_ite, x_ret, x_skip, x_set, x_raise, x_ex, d_var, d_lit, d_or, d_not, d_and, d_ite, d_chain, d_op, d_seq, d_call, denL, denV, denB, looked, lent, places, nodupB, back, bind_val, mv, opDen, noneIn, wipeP, keepP, backs, PV.isCont, Op.makes, e0, e1, e2, dIdx, getAt, ixOf, hc, dNe, dNeg, dIsStr, denF, setAll, x_par, PV.cmpb, PV.flat, PV.flatL, PV.dep, PV.depL, PV.eq, hf, he, dIsin, hin]
          | [], h, _, _, _ => simp at h
          | _ :: _ :: _ :: r, _, h, _, _ => simp at h; omega
end K01
end
section
set_option linter.all false
set_option maxRecDepth 100000
namespace K01
open Tl
theorem e_is_bool (n : Nat) (a b : Bool) : callN T (n + 1) 23 [.bl a, .bl b] = some (.val (.bl (a == b), false), []) := by
  rw [callN_succ (fn := F23) rfl]
  unfold F23
  simp [runFn, entry, lentIx, x_seq, x_ite, x_ret, x_skip, x_set, x_raise, x_ex, d_var, d_lit, d_or, d_not, d_and, d_ite, d_chain, d_op, d_seq, d_call, denL, denV, denB, looked, lent, places, nodupB, back, bind_val, mv, opDen, noneIn, wipeP, keepP, backs, PV.isCont, Op.makes, dIsBool, dEq, PV.cmpb, PV.flat, PV.dep, PV.eq]
set_option maxHeartbeats 4000000 in
/-- the program tells what the law asks, of every value that is reckoned with -/
theorem e_told (n : Nat) (v : PV) (hv : ok v = true) : callN T (n + 17) 38 [v] = some (.val (.bl true, false), []) := by
  rw [callN_succ (fn := F38) rfl]
  have e1 : callN T (n + 16) 30 [v, .int 4] = some (.val (.int (lsz 4 v), false), []) := e_layer_size 4 (n + 9) v hv
  have e2 : callN T (n + 16) 8 [v] = some (.val (.bl (treeB v), false), []) := e_is_tree (n + 4) v hv
  have e3 : callN T (n + 16) 29 [v, .int 6] = some (.val (.int (tsz 6 v), false), []) := e_tree_size 6 (n + 7) v hv
  have e4 : ∀ a b, callN T (n + 16) 23 [.bl a, .bl b] = some (.val (.bl (a == b), false), []) := e_is_bool (n + 15)
  have e5 : callN T (n + 16) 16 [v] = some (.val (.bl (layB v), false), []) := e_is_layer (n + 2) v hv
  have e6 : callN T (n + 16) 24 [v, .int 1, .int 6] = some (.val (.bl (wide v 1 6), false), []) := e_wide (n + 15) v 1 6
  have e7 : callN T (n + 16) 9 [v] = some (.val (.bl (nms v 6), false), []) := e_is_path (n + 12) v hv
  have e8 : callN T (n + 16) 19 [v] = some (.val (.bl (claimB v), false), []) := e_is_claim (n + 11) v hv
  have e9 : callN T (n + 16) 36 [v] = some (.val (.bl (claimB v), false), []) := e_good_claim (n + 12) v hv
  have e10 : callN T (n + 16) 37 [v] = some (.val (if layB v = true then .int (lsz 4 v) else .str [108, 97, 121, 101, 114, 33], false), []) := e_counted n v hv
  have ht : decide (tsz 6 v ≤ 40) = treeB v := rfl
  have hl : decide (lsz 4 v ≤ 16) = layB v := rfl
  unfold F38
  have key : den (callN T (n + 16)) (.and (.call 24 [false, false, false] (.cons (.var 0) (.cons (.lit (.int 1)) (.cons (.lit (.int 6)) .nil)))) (.op .eq (.cons F38c0 (.cons (.seq true .nil) .nil)))) [some (false, v), some (false, .int (lsz 4 v)), none, none] = some (.val (.bl (nms v 6), false), [some (false, v), some (false, .int (lsz 4 v)), none, none]) := by
    cases hw : wide v 1 6 with
    | false =>
      rw [hw] at e6
      rw [show nms v 6 = false by show (wide v 1 6 && _) = false; rw [hw]; rfl]
      simp [runFn, entry, lentIx, x_seq, x_ite, x_ret, x_skip, x_set, x_raise, x_ex, d_var, d_lit, d_or, d_not, d_and, d_ite, d_chain, d_op, d_seq, d_call, denL, denV, denB, looked, lent, places, nodupB, back, bind_val, mv, opDen, noneIn, wipeP, keepP, backs, PV.isCont, Op.makes, e6]
    | true =>
      rw [hw] at e6
      obtain ⟨xs, rfl, _, _⟩ := wide_shape hw
      obtain ⟨hlen, hx⟩ := ok_tup hv
      have hc : den (callN T (n + 16)) F38c0 [some (false, .tup xs), some (false, .int (lsz 4 (.tup xs))), none, none] = some (.val (.lst (xs.filter fun x => !isW x 4), true), [some (false, .tup xs), some (false, .int (lsz 4 (.tup xs))), none, none]) := by
        refine (den_compP (v := .tup xs) (b := false) (ρ1 := [some (false, .tup xs), some (false, .int (lsz 4 (.tup xs))), none, none]) (fun x => !isW x 4) (fun x => x) (by simp [runFn, entry, lentIx, x_seq, x_ite, x_ret, x_skip, x_set, x_raise, x_ex, d_var, d_lit, d_or, d_not, d_and, d_ite, d_chain, d_op, d_seq, d_call, denL, denV, denB, looked, lent, places, nodupB, back, bind_val, mv, opDen, noneIn, wipeP, keepP, backs, PV.isCont, Op.makes]) rfl (big60 hlen) fun y hy => ?_).trans (by rw [List.map_id']; rfl)
        refine ⟨_, rfl, rfl, ?_, ?_⟩
        · have e3 : callN T (n + 16) 27 [y, .int 4] = _ := e_is_text (n + 15) y 4 (ok_S (hx y hy))
          simp [F38t0, runFn, entry, lentIx, x_seq, x_ite, x_ret, x_skip, x_set, x_raise, x_ex, d_var, d_lit, d_or, d_not, d_and, d_ite, d_chain, d_op, d_seq, d_call, denL, denV, denB, looked, lent, places, nodupB, back, bind_val, mv, opDen, noneIn, wipeP, keepP, backs, PV.isCont, Op.makes, e3]
        · simp [F38e0, runFn, entry, lentIx, x_seq, x_ite, x_ret, x_skip, x_set, x_raise, x_ex, d_var, d_lit, d_or, d_not, d_and, d_ite, d_chain, d_op, d_seq, d_call, denL, denV, denB, looked, lent, places, nodupB, back, bind_val, mv, opDen, noneIn, wipeP, keepP, backs, PV.isCont, Op.makes]
      have he := fil_not (fun x => isW x 4) (xs := xs)
      have hf : PV.flatL (xs.filter fun x => !isW x 4) = true := flatL_fil (okL_flat xs (okL_of hx))
      rw [show nms (.tup xs) 6 = xs.all fun x => isW x 4 by show (wide (.tup xs) 1 6 && _) = _; rw [hw]; rfl]
      generalize (xs.filter fun x => !isW x 4) = qs at hc he hf
      simp [runFn, entry, lentIx, x_seq, x_ite, x_ret, x_skip, x_set, x_raise, x_ex, d_var, d_lit, d_or, d_not, d_and, d_ite, d_chain, d_op, d_seq, d_call, denL, denV, denB, looked, lent, places, nodupB, back, bind_val, mv, opDen, noneIn, wipeP, keepP, backs, PV.isCont, Op.makes, e6, hc, dEq, PV.cmpb, PV.flat, PV.flatL, PV.dep, PV.depL, PV.eq, hf, he]
  generalize nms v 6 = b at key e7
  generalize claimB v = c at e8 e9
  cases hlb : layB v <;> rw [hlb] at e5 hl e10
  · simp [runFn, entry, lentIx, x_seq, x_ite, x_ret, x_skip, x_set, x_raise, x_ex, d_var, d_lit, d_or, d_not, d_ite, d_chain, d_op, d_seq, d_call, denL, denV, denB, looked, lent, places, nodupB, back, bind_val, mv, opDen, noneIn, wipeP, keepP, backs, PV.isCont, Op.makes, key, e1, e2, e3, e4, e5, e7, e8, e9, e10, ht, hl, dLe, dEq, PV.cmpb, PV.flat, PV.dep, PV.eq]
  · simp [runFn, entry, lentIx, x_seq, x_ite, x_ret, x_skip, x_set, x_raise, x_ex, d_var, d_lit, d_or, d_not, d_ite, d_chain, d_op, d_seq, d_call, denL, denV, denB, looked, lent, places, nodupB, back, bind_val, mv, opDen, noneIn, wipeP, keepP, backs, PV.isCont, Op.makes, key, e1, e2, e3, e4, e5, e7, e8, e9, e10, ht, hl, dLe, dEq, PV.cmpb, PV.flat, PV.dep, PV.eq]
end K01
end
section
set_option linter.all false
set_option maxRecDepth 100000
namespace K01
open Tl
/-- the two numbers of a source -/
def Src (p : PV) : Prop := ∃ a b : Int, p = .lst [.int a, .int b]
theorem okMul_l {i j : Int} (h1 : -(18446744073709551616) < i) (h2 : i < 18446744073709551616) : okMul i j = true := by simp [okMul, h1, h2]
theorem okMul_r {i j : Int} (h1 : -(18446744073709551616) < j) (h2 : j < 18446744073709551616) : okMul i j = true := by simp [okMul, h1, h2]
theorem e_pick (n : Nat) {s : PV} (hs : Src s) {m : Int} (h0 : 0 < m) (h1 : m < 1073741824) : ∃ r s', callN T (n + 1) 21 [s, .int m] = some (.val (.int r, false), [s']) ∧ Src s' ∧ 0 ≤ r ∧ r < m := by
  obtain ⟨a, b, rfl⟩ := hs
  rw [callN_succ (fn := F21) rfl]
  unfold F21
  by_cases ha : (0 : Int) < a
  · refine ⟨a % m, .lst [.int (a / m), .int b], ?_, ⟨_, _, rfl⟩, Int.emod_nonneg _ (by omega), Int.emod_lt_of_pos _ h0⟩
    simp [runFn, entry, lentIx, x_seq, x_ite, x_ret, x_skip, x_set, x_raise, x_ex, d_var, d_lit, d_or, d_not, d_and, d_ite, d_chain, d_op, d_seq, d_call, denL, denV, denB, looked, lent, places, nodupB, back, bind_val, mv, opDen, noneIn, wipeP, keepP, backs, PV.isCont, Op.makes, x_ixset, setAt, putIx, dIdx, getAt, ixOf, dGt, dMod, dFdiv, dToInt, ha, h0, h1]
  · have hb : okMul b 44497 = true := okMul_r (by omega) (by omega)
    have hq : ∀ z : Int, okMul (z % 2147483647) (z % 2147483647) = true := fun z => okMul_l (by have := Int.emod_nonneg z (b := 2147483647) (by omega); omega) (by have := Int.emod_lt_of_pos z (b := 2147483647) (by omega); omega)
    refine ⟨((b * 44497 + 9973) % 2147483647 * ((b * 44497 + 9973) % 2147483647)) % 2147483399 / 11 % m, .lst [.int a, .int ((b * 44497 + 9973) % 2147483647)], ?_, ⟨_, _, rfl⟩, Int.emod_nonneg _ (by omega), Int.emod_lt_of_pos _ h0⟩
    simp [runFn, entry, lentIx, x_seq, x_ite, x_ret, x_skip, x_set, x_raise, x_ex, d_var, d_lit, d_or, d_not, d_and, d_ite, d_chain, d_op, d_seq, d_call, denL, denV, denB, looked, lent, places, nodupB, back, bind_val, mv, opDen, noneIn, wipeP, keepP, backs, PV.isCont, Op.makes, x_ixset, setAt, putIx, dIdx, getAt, ixOf, dGt, dMod, dFdiv, dToInt, dMul, dAdd, ha, h0, hb, hq]
theorem getAt_some {α : Type} {xs : List α} {r : Int} (h0 : 0 ≤ r) (h1 : r < xs.length) : ∃ x ∈ xs, getAt xs r = some x := by
  obtain ⟨k, rfl⟩ : ∃ k : Nat, r = k := ⟨r.toNat, by omega⟩
  rw [getAt_nat]
  have : k < xs.length := by omega
  exact ⟨xs[k], List.getElem_mem _, List.getElem?_eq_getElem this⟩
theorem e_chosen (n : Nat) {s : PV} (hs : Src s) {xs : List PV} (h0 : xs ≠ []) (h1 : xs.length ≤ 60) : ∃ x s', callN T (n + 2) 22 [s, .lst xs] = some (.val (x, false), [s']) ∧ Src s' ∧ x ∈ xs := by
  have hp : 0 < xs.length := by cases xs with | nil => exact absurd rfl h0 | cons _ _ => simp
  obtain ⟨r, s', e, hs', r0, r1⟩ := e_pick n hs (m := xs.length) (by omega) (by omega)
  obtain ⟨x, hx, ex⟩ := getAt_some r0 r1
  refine ⟨x, s', ?_, hs', hx⟩
  rw [callN_succ (fn := F22) rfl]
  unfold F22
  simp [runFn, entry, lentIx, x_seq, x_ite, x_ret, x_skip, x_set, x_raise, x_ex, d_var, d_lit, d_or, d_not, d_and, d_ite, d_chain, d_op, d_seq, d_call, denL, denV, denB, looked, lent, places, nodupB, back, bind_val, mv, opDen, noneIn, wipeP, keepP, backs, PV.isCont, Op.makes, dLen, dIdx, e, ex]
/-! ### how wide the data are -/
mutual
def okm (m : Nat) : PV → Bool
  | .str x => decide (x.length ≤ 60)
  | .tup xs => decide (xs.length ≤ m) && okmL m xs
  | .lst xs => decide (xs.length ≤ m) && okmL m xs
  | .dic _ _ => false
  | .scr _ => false
  | _ => true
def okmL (m : Nat) : List PV → Bool
  | [] => true
  | x :: xs => okm m x && okmL m xs
end
theorem okmL_iff {m : Nat} : ∀ {xs : List PV}, okmL m xs = true ↔ ∀ x ∈ xs, okm m x = true
  | [] => by simp [okmL]
  | x :: xs => by unfold okmL; rw [Bool.and_eq_true, okmL_iff (xs := xs)]; simp
theorem okm_tup {m : Nat} {xs : List PV} : okm m (.tup xs) = true ↔ xs.length ≤ m ∧ ∀ x ∈ xs, okm m x = true := by
  rw [show okm m (.tup xs) = (decide (xs.length ≤ m) && okmL m xs) by simp [okm], Bool.and_eq_true, decide_eq_true_eq, okmL_iff]
theorem okm_lst {m : Nat} {xs : List PV} : okm m (.lst xs) = true ↔ xs.length ≤ m ∧ ∀ x ∈ xs, okm m x = true := by
  rw [show okm m (.lst xs) = (decide (xs.length ≤ m) && okmL m xs) by simp [okm], Bool.and_eq_true, decide_eq_true_eq, okmL_iff]
mutual
theorem okm_mono {m k : Nat} (h : m ≤ k) : ∀ v : PV, okm m v = true → okm k v = true
  | .non, _ => rfl
  | .bl _, _ => rfl
  | .int _, _ => rfl
  | .str _, e => e
  | .tup xs, e => by
    unfold okm at e ⊢
    rw [Bool.and_eq_true, decide_eq_true_eq] at e ⊢
    exact ⟨Nat.le_trans e.1 h, okmL_mono h xs e.2⟩
  | .lst xs, e => by
    unfold okm at e ⊢
    rw [Bool.and_eq_true, decide_eq_true_eq] at e ⊢
    exact ⟨Nat.le_trans e.1 h, okmL_mono h xs e.2⟩
  | .dic _ _, e => e
  | .scr _, e => e
theorem okmL_mono {m k : Nat} (h : m ≤ k) : ∀ xs : List PV, okmL m xs = true → okmL k xs = true
  | [], _ => rfl
  | x :: xs, e => by
    unfold okmL at e ⊢
    rw [Bool.and_eq_true] at e ⊢
    exact ⟨okm_mono h x e.1, okmL_mono h xs e.2⟩
end
mutual
theorem ok_of : ∀ v : PV, okm 60 v = true → ok v = true
  | .non, _ => rfl
  | .bl _, _ => rfl
  | .int _, _ => rfl
  | .str _, e => e
  | .tup xs, e => by
    unfold okm at e; unfold ok
    rw [Bool.and_eq_true] at e ⊢
    exact ⟨e.1, okL_of' xs e.2⟩
  | .lst xs, e => by
    unfold okm at e; unfold ok
    rw [Bool.and_eq_true] at e ⊢
    exact ⟨e.1, okL_of' xs e.2⟩
  | .dic _ _, e => e
  | .scr _, e => e
theorem okL_of' : ∀ xs : List PV, okmL 60 xs = true → okL xs = true
  | [], _ => rfl
  | x :: xs, e => by
    unfold okmL at e; unfold okL
    rw [Bool.and_eq_true] at e ⊢
    exact ⟨ok_of x e.1, okL_of' xs e.2⟩
end
/-! ### values of any kind -/
theorem compLoop_gen {fc fe : Env → M (PV × Bool)} {tg own : List Nat} (P : PV → Prop) (I : Env → Prop) : ∀ {xs acc : List PV} {ρ : Env}, I ρ →
    (∀ x ∈ xs, ∀ ρ, I ρ → ∃ ρ1 b ρ2 v b' ρ3, bindT tg x ρ = some ρ1 ∧ fc ρ1 = some (.val (.bl true, b), ρ2) ∧ fe ρ2 = some (.val (v, b'), ρ3) ∧ P v ∧ I (wipeP ρ3 own)) →
    ∃ vs ρ', compLoop fc fe tg own xs acc ρ = some (.val (acc ++ vs), ρ') ∧ (∀ v ∈ vs, P v) ∧ vs.length = xs.length ∧ I ρ'
  | [], acc, ρ, h, _ => ⟨[], ρ, by unfold compLoop; simp, by simp, rfl, h⟩
  | x :: xs, acc, ρ, h, hs => by
    obtain ⟨ρ1, b, ρ2, v, b', ρ3, h1, h2, h3, h4, h5⟩ := hs x (by simp) ρ h
    obtain ⟨vs, ρ', g1, g2, g3, g4⟩ := compLoop_gen (xs := xs) (acc := acc ++ [v]) P I h5 fun y hy => hs y (by simp [hy])
    refine ⟨v :: vs, ρ', ?_, ?_, by simp [g3], g4⟩
    · unfold compLoop
      rw [h1]
      simp only [h2, h3, g1]
      simp
    · intro w hw
      rcases List.mem_cons.mp hw with rfl | hw
      · exact h4
      · exact g2 w hw
end K01
namespace K01
open Tl
theorem dRng1_nat {q : Nat} (h : q < 1000) : dRng1 [.int q] = some (.lst (rangeP 0 q)) := by
  have hsm : small (q : Int) = true := by simp only [small, Bool.and_eq_true, decide_eq_true_eq]; omega
  show (if small (q : Int) = true then some (PV.lst (rangeP 0 (q : Int).toNat)) else none) = _
  rw [if_pos hsm, Int.toNat_natCast]
end K01
end
section
set_option linter.all false
set_option maxRecDepth 100000
namespace K01
open Tl
abbrev simple : List PV := [.non, .bl true, .bl false, .int 0, .int 1, .int (-2), .str [], .str [97], .str [98], .str [120], .str [122, 122], .str [102, 105, 108, 101], .str [105, 115], .str [65], .tup [], .lst [], .tup [.str [97]], .tup [.bl false, .tup []]]
theorem simple_ok : ∀ x ∈ simple, okm 4 x = true := by decide
theorem opDen_rng1 : opDen .rng1 = dRng1 := rfl
theorem hit_rng {Φ : Fun} {s s2 : PV} {rest : Env} {q : Nat} (hq : q < 1000) (e : Φ 21 [s, .int 5] = some (.val (.int q, false), [s2])) :
    den Φ (.op .rng1 (.cons (.call 21 [true, false] (.cons (.var 0) (.cons (.lit (.int 5)) .nil))) .nil)) (some (true, s) :: rest) = some (.val (.lst (rangeP 0 q), true), some (true, s2) :: rest) := by
  have hr1 : opDen .rng1 [.int q] = some (.lst (rangeP 0 q)) := by rw [opDen_rng1]; exact dRng1_nat hq
  generalize rangeP 0 q = l at hr1 ⊢
  have h1 : denL Φ (.cons (.call 21 [true, false] (.cons (.var 0) (.cons (.lit (.int 5)) .nil))) .nil) (some (true, s) :: rest) = some (.val [.inr (.int q)], some (true, s2) :: rest) := by
    simp [denL, d_call, denB, d_lit, bind_val, lent, places, nodupB, back, e]
  rw [d_op, h1, bind_val]
  simp only [looked, Option.map_some, hr1, Op.makes, PV.isCont, Bool.and_self]
set_option maxHeartbeats 4000000 in
theorem e_any : ∀ (d n : Nat) {s : PV}, Src s → ∃ v b s', callN T (n + d + 3) 25 [s, .int d] = some (.val (v, b), [s']) ∧ Src s' ∧ okm 4 v = true
  | 0, n, s, hs => by
    obtain ⟨r, s1, e1, hs1, r0, r1⟩ := e_pick (n + 1) hs (m := 8) (by omega) (by omega)
    obtain ⟨x, s2, e2, hs2, hx⟩ := e_chosen n hs1 (xs := simple) (by simp) (by decide)
    refine ⟨x, false, s2, ?_, hs2, simple_ok x hx⟩
    rw [show n + 0 + 3 = (n + 2) + 1 from rfl, callN_succ (fn := F25) rfl]
    unfold F25
    rw [show n + 1 + 1 = n + 2 from rfl] at e1
    simp [runFn, entry, lentIx, x_seq, x_ite, x_ret, x_skip, x_set, x_raise, x_ex, d_var, d_lit, d_or, d_not, d_and, d_ite, d_chain, d_op, d_seq, d_call, denL, denV, denB, looked, lent, places, nodupB, back, bind_val, mv, opDen, noneIn, wipeP, keepP, backs, PV.isCont, Op.makes, dLt, dNeg, e1, e2]
  | d + 1, n, s, hs => by
    obtain ⟨r, s1, e1, hs1, r0, r1⟩ := e_pick (n + d + 2) hs (m := 8) (by omega) (by omega)
    rw [show n + d + 2 + 1 = n + d + 3 from rfl] at e1
    rw [show n + (d + 1) + 3 = (n + d + 3) + 1 from by omega, callN_succ (fn := F25) rfl]
    unfold F25
    have hd1 : ¬ ((d : Int) + 1 < 1) := by omega
    by_cases hr : r < 5
    · obtain ⟨x, s2, e2, hs2, hx⟩ := e_chosen (n + d + 1) hs1 (xs := simple) (by simp) (by decide)
      rw [show n + d + 1 + 2 = n + d + 3 from rfl] at e2
      refine ⟨x, false, s2, ?_, hs2, simple_ok x hx⟩
      simp [runFn, entry, lentIx, x_seq, x_ite, x_ret, x_skip, x_set, x_raise, x_ex, d_var, d_lit, d_or, d_not, d_and, d_ite, d_chain, d_op, d_seq, d_call, denL, denV, denB, looked, lent, places, nodupB, back, bind_val, mv, opDen, noneIn, wipeP, keepP, backs, PV.isCont, Op.makes, dLt, dNeg, hd1, hr, e1, e2]
    · obtain ⟨k, s2, e2, hs2, k0, k1⟩ := e_pick (n + d + 2) hs1 (m := 5) (by omega) (by omega)
      rw [show n + d + 2 + 1 = n + d + 3 from rfl] at e2
      obtain ⟨q, rfl⟩ : ∃ q : Nat, k = q := ⟨k.toNat, by omega⟩
      obtain ⟨vs, ρ', g1, g2, g3, s3, hs3, rfl⟩ := compLoop_gen (fc := fun ρ => den (callN T (n + d + 3)) (.lit (.bl true)) ρ) (fe := fun ρ => den (callN T (n + d + 3)) F25e0 ρ) (tg := [5]) (own := [5]) (fun v => okm 4 v = true)
        (fun ρ => ∃ s, Src s ∧ ρ = [some (true, s), some (false, .int (d + 1)), some (true, .lst simple), some (false, .int r), none, none]) (xs := rangeP 0 q) (acc := [])
        (ρ := [some (true, s2), some (false, .int (d + 1)), some (true, .lst simple), some (false, .int r), none, none]) ⟨s2, hs2, rfl⟩ fun x hx ρ ⟨s, hs, e⟩ => by
          subst e
          obtain ⟨v, b, s', e3, hs', hv⟩ := e_any d n hs
          have hd2 : (d : Int) + 1 - 1 = d := by omega
          refine ⟨_, false, _, v, b, [some (true, s'), some (false, .int (d + 1)), some (true, .lst simple), some (false, .int r), none, some (false, x)], rfl, d_lit, ?_, hv, s', hs', rfl⟩
          simp [F25e0, runFn, entry, lentIx, x_seq, x_ite, x_ret, x_skip, x_set, x_raise, x_ex, d_var, d_lit, d_or, d_not, d_and, d_ite, d_chain, d_op, d_seq, d_call, denL, denV, denB, looked, lent, places, nodupB, back, bind_val, mv, opDen, noneIn, wipeP, keepP, backs, PV.isCont, Op.makes, dSub, hd2, e3]
      have hvl : vs.length ≤ 4 := by rw [g3, rangeP_len]; omega
      have hc : den (callN T (n + d + 3)) F25c0 [some (true, s1), some (false, .int (d + 1)), some (true, .lst simple), some (false, .int r), none, none] = some (.val (.lst vs, true), [some (true, s3), some (false, .int (d + 1)), some (true, .lst simple), some (false, .int r), none, none]) := by
        refine (den_compG (v := .lst (rangeP 0 q)) (b := true) (ρ1 := [some (true, s2), some (false, .int (d + 1)), some (true, .lst simple), some (false, .int r), none, none]) ?_ rfl (by rw [rangeP_len]; unfold big; omega) g1).trans rfl
        exact hit_rng (by omega) e2
      have hr2 : (r == 5) = decide (r = 5) := by by_cases h : r = 5 <;> simp [h]
      by_cases h5 : r = 5
      · subst h5
        refine ⟨.lst vs, true, s3, ?_, hs3, okm_lst.mpr ⟨hvl, g2⟩⟩
        simp [runFn, entry, lentIx, x_seq, x_ite, x_ret, x_skip, x_set, x_raise, x_ex, d_var, d_lit, d_or, d_not, d_and, d_ite, d_chain, d_op, d_seq, d_call, denL, denV, denB, looked, lent, places, nodupB, back, bind_val, mv, opDen, noneIn, wipeP, keepP, backs, PV.isCont, Op.makes, dLt, dEq, dNeg, hd1, hr, e1, hc, PV.cmpb, PV.flat, PV.dep, PV.eq]
      · refine ⟨.tup vs, false, s3, ?_, hs3, okm_tup.mpr ⟨hvl, g2⟩⟩
        simp [runFn, entry, lentIx, x_seq, x_ite, x_ret, x_skip, x_set, x_raise, x_ex, d_var, d_lit, d_or, d_not, d_and, d_ite, d_chain, d_op, d_seq, d_call, denL, denV, denB, looked, lent, places, nodupB, back, bind_val, mv, opDen, noneIn, wipeP, keepP, backs, PV.isCont, Op.makes, dLt, dEq, dNeg, dToTup, hd1, hr, e1, hc, h5, hr2, PV.cmpb, PV.flat, PV.dep, PV.eq]
end K01
end
section
set_option linter.all false
set_option maxRecDepth 100000
namespace K01
open Tl
theorem cut_mem {xs : List PV} {lo hi : Option Int} {x : PV} (h : x ∈ cut xs lo hi) : x ∈ xs := List.mem_of_mem_drop (List.mem_of_mem_take h)
theorem cut_len (xs : List PV) (lo hi : Option Int) : (cut xs lo hi).length ≤ xs.length := by
  unfold cut
  rw [List.length_take, List.length_drop]
  omega
theorem ixOf_nat {n : Nat} {r : Int} (h0 : 0 ≤ r) (h1 : r < n) : ixOf n r = some r.toNat := by
  unfold ixOf
  rw [if_pos h0, if_pos h1]
abbrev near : List PV := [.non, .bl true, .bl false, .int 0, .str [], .str [97], .str [98], .str [122, 122], .str [120], .str [102, 105, 108, 101], .str [110, 111, 116, 104, 105, 110, 103], .str [105, 115], .str [66], .str [97, 98, 99, 100, 101], .tup [], .tup [.str [97], .str [120]]]
theorem near_ok : ∀ x ∈ near, okm 4 x = true := by decide
theorem okm_set {m : Nat} {xs : List PV} {k : Nat} {v : PV} (h : ∀ x ∈ xs, okm m x = true) (hv : okm m v = true) : ∀ x ∈ xs.set k v, okm m x = true := fun x hx => by
  rcases List.mem_or_eq_of_mem_set hx with h1 | rfl
  · exact h x h1
  · exact hv
/-- a value of either form, with parts from these -/
def Var (m : Nat) (v : PV) : Prop := okm (3 * m) v = true
theorem cat_ok {m : Nat} {xs : List PV} (h : ∀ x ∈ xs, okm m x = true) (hl : xs.length ≤ 3 * m) : okm (3 * m) (.tup xs) = true := okm_tup.mpr ⟨hl, fun x hx => okm_mono (by omega) x (h x hx)⟩
set_option maxHeartbeats 8000000 in
theorem e_variant : ∀ (d n m : Nat) {s : PV} (xs : List PV), Src s → 4 ≤ m → m ≤ 20 → xs.length ≤ m → (∀ x ∈ xs, okm m x = true) →
    ∃ v b s', callN T (n + d + 7) 26 [s, .tup xs, .int d] = some (.val (v, b), [s']) ∧ Src s' ∧ okm (3 * m) v = true
  | d, n, m, s, [], hs, hm, hm2, hl, hx => by
    obtain ⟨v, b, s1, e1, hs1, hv⟩ := e_any 1 (n + d + 2) hs
    have e1 : callN T (n + d + 6) 25 [s, .int 1] = some (.val (v, b), [s1]) := e1
    refine ⟨.tup [v], false, s1, ?_, hs1, okm_tup.mpr ⟨by simp; omega, fun x hx => by rw [List.mem_singleton.mp hx]; exact okm_mono (by omega) v hv⟩⟩
    rw [show n + d + 7 = (n + d + 6) + 1 from rfl, callN_succ (fn := F26) rfl]
    unfold F26
    simp [runFn, entry, lentIx, x_seq, x_ite, x_ret, x_skip, x_set, x_raise, x_ex, d_var, d_lit, d_or, d_not, d_and, d_ite, d_chain, d_op, d_seq, d_call, denL, denV, denB, looked, lent, places, nodupB, back, bind_val, mv, opDen, noneIn, wipeP, keepP, backs, PV.isCont, Op.makes, dToLst, dEq, PV.cmpb, PV.flat, PV.flatL, PV.dep, PV.depL, PV.eq, PV.eqL, e1]
  | d, n, m, s, x0 :: xr, hs, hm, hm2, hl, hx => by
    have hne : PV.eqL (x0 :: xr) [] = false := rfl
    have hfl : PV.flatL (x0 :: xr) = true := okL_flat _ (okL_of fun x hm => ok_of x (okm_mono (by omega) x (hx x hm)))
    generalize hxs : x0 :: xr = xs at hl hx hne hfl ⊢
    have hlen : 0 < xs.length := by rw [← hxs]; simp
    obtain ⟨r, s1, e1, hs1, r0, r1⟩ := e_pick (n + d + 5) hs (m := xs.length) (by omega) (by omega)
    obtain ⟨w, s2, e2, hs2, w0, w1⟩ := e_pick (n + d + 5) hs1 (m := 9) (by omega) (by omega)
    rw [show n + d + 5 + 1 = n + d + 6 from rfl] at e1 e2
    obtain ⟨inner, hin, ei⟩ := getAt_some r0 r1
    have oin := hx inner hin
    have cat3 : ∀ {l1 l2 l3 : List PV}, (∀ x ∈ l1, x ∈ xs) → (∀ x ∈ l2, okm (3 * m) x = true) → (∀ x ∈ l3, x ∈ xs) → l1.length + l2.length + l3.length ≤ 3 * m → okm (3 * m) (.tup (l1 ++ l2 ++ l3)) = true := fun h1 h2 h3 h4 => by
      refine okm_tup.mpr ⟨by simpa [Nat.add_assoc] using h4, fun x hx' => ?_⟩
      rcases List.mem_append.mp hx' with hx' | hx'
      · rcases List.mem_append.mp hx' with hx' | hx'
        · exact okm_mono (by omega) x (hx x (h1 x hx'))
        · exact h2 x hx'
      · exact okm_mono (by omega) x (hx x (h3 x hx'))
    rw [show n + d + 7 = (n + d + 6) + 1 from rfl, callN_succ (fn := F26) rfl]
    unfold F26
    by_cases hrec : (∃ ys, inner = .tup ys) ∧ (0 : Int) < d ∧ (2 : Int) < w
    · obtain ⟨⟨ys, rfl⟩, hd, hw⟩ := hrec
      obtain ⟨d', rfl⟩ : ∃ d', d = d' + 1 := ⟨d - 1, by omega⟩
      obtain ⟨hyl, hy⟩ := okm_tup.mp oin
      obtain ⟨v, b, s3, e3, hs3, hv⟩ := e_variant d' n m ys hs2 hm hm2 hyl hy
      rw [show n + d' + 7 = n + (d' + 1) + 6 from by omega] at e3
      have hd2 : ((d' : Int) + 1) - 1 = d' := by omega
      have c1 := cut_len xs none (some r)
      have c2 := cut_len xs (some (r + 1)) none
      have b1 : (cut xs none (some r)).length + 1 ≤ big := by unfold big; omega
      have b2 : (cut xs none (some r)).length + 1 + (cut xs (some (r + 1)) none).length ≤ big := by unfold big; omega
      refine ⟨_, false, s3, ?_, hs3, cat3 (l1 := cut xs none (some r)) (l2 := [v]) (l3 := cut xs (some (r + 1)) none) (fun x h => cut_mem h) (fun x h => by rw [List.mem_singleton.mp h]; exact hv) (fun x h => cut_mem h) (by simp; omega)⟩
      simp [runFn, entry, lentIx, x_seq, x_ite, x_ret, x_skip, x_set, x_raise, x_ex, d_var, d_lit, d_or, d_not, d_and, d_ite, d_chain, d_op, d_seq, d_call, denL, denV, denB, looked, lent, places, nodupB, back, bind_val, mv, opDen, noneIn, wipeP, keepP, backs, PV.isCont, Op.makes, dToLst, dToTup, dSl, dEq, dLen, dIdx, dIsTup, dGt, dAdd, dSub, denF, setAll, x_par, PV.cmpb, PV.flat, PV.flatL, PV.dep, PV.depL, PV.eq, hne, hfl, e1, e2, e3, ei, hd, hw, hd2, b1, b2]
    · have hcond : den (callN T (n + d + 6)) (.and (.op .isTup (.cons (.var 6) .nil)) (.and (.op .gt (.cons (.var 2) (.cons (.lit (.int 0)) .nil))) (.op .gt (.cons (.var 5) (.cons (.lit (.int 2)) .nil)))))
          [some (true, s2), some (false, .tup xs), some (false, .int d), some (true, .lst xs), some (false, .int r), some (false, .int w), some (false, inner), none] =
          some (.val (.bl false, false), [some (true, s2), some (false, .tup xs), some (false, .int d), some (true, .lst xs), some (false, .int r), some (false, .int w), some (false, inner), none]) := by
        by_cases hT : ∃ ys, inner = .tup ys
        · obtain ⟨ys, rfl⟩ := hT
          by_cases hd : (0 : Int) < d
          · have hw : ¬ (2 : Int) < w := fun h => hrec ⟨⟨ys, rfl⟩, hd, h⟩
            have hd' : 0 < d := by omega
            simp [runFn, entry, lentIx, x_seq, x_ite, x_ret, x_skip, x_set, x_raise, x_ex, d_var, d_lit, d_or, d_not, d_and, d_ite, d_chain, d_op, d_seq, d_call, denL, denV, denB, looked, lent, places, nodupB, back, bind_val, mv, opDen, noneIn, wipeP, keepP, backs, PV.isCont, Op.makes, dIsTup, dGt, hd, hd', hw]
          · have hd' : decide ((0 : Int) < d) = false := decide_eq_false hd
            obtain rfl : d = 0 := by omega
            simp [runFn, entry, lentIx, x_seq, x_ite, x_ret, x_skip, x_set, x_raise, x_ex, d_var, d_lit, d_or, d_not, d_and, d_ite, d_chain, d_op, d_seq, d_call, denL, denV, denB, looked, lent, places, nodupB, back, bind_val, mv, opDen, noneIn, wipeP, keepP, backs, PV.isCont, Op.makes, dIsTup, dGt]
        · have hT2 : dIsTup [inner] = some (.bl false) := by
            cases inner with
            | tup ys => exact absurd ⟨ys, rfl⟩ hT
            | _ => rfl
          simp [runFn, entry, lentIx, x_seq, x_ite, x_ret, x_skip, x_set, x_raise, x_ex, d_var, d_lit, d_or, d_not, d_and, d_ite, d_chain, d_op, d_seq, d_call, denL, denV, denB, looked, lent, places, nodupB, back, bind_val, mv, opDen, noneIn, wipeP, keepP, backs, PV.isCont, Op.makes, hT2]
      obtain rfl | rfl | rfl | rfl | h45 | h6 : w = 0 ∨ w = 1 ∨ w = 2 ∨ w = 3 ∨ (w = 4 ∨ w = 5) ∨ 6 ≤ w := by omega
      · have c1 := cut_len xs none (some r)
        have c2 := cut_len xs (some (r + 1)) none
        have b1 : (cut xs none (some r)).length + (cut xs (some (r + 1)) none).length ≤ big := by unfold big; omega
        refine ⟨_, false, s2, ?_, hs2, cat3 (l1 := cut xs none (some r)) (l2 := []) (l3 := cut xs (some (r + 1)) none) (fun x h => cut_mem h) (fun x h => by cases h) (fun x h => cut_mem h) (by simp; omega)⟩
        simp [runFn, entry, lentIx, x_seq, x_ite, x_ret, x_skip, x_set, x_raise, x_ex, d_var, d_lit, d_or, d_not, d_ite, d_chain, d_op, d_seq, d_call, denL, denV, denB, looked, lent, places, nodupB, back, bind_val, mv, opDen, noneIn, wipeP, keepP, backs, PV.isCont, Op.makes, hcond, dToLst, dToTup, dSl, dRev, dEq, dLt, dLen, dIdx, dAdd, denF, setAll, x_par, PV.cmpb, PV.flat, PV.flatL, PV.dep, PV.depL, PV.eq, hne, hfl, e1, e2, ei, b1]
      · have c1 := cut_len xs none (some (r + 1))
        have c2 := cut_len xs (some r) none
        have b1 : (cut xs none (some (r + 1))).length + (cut xs (some r) none).length ≤ big := by unfold big; omega
        refine ⟨_, false, s2, ?_, hs2, cat3 (l1 := cut xs none (some (r + 1))) (l2 := []) (l3 := cut xs (some r) none) (fun x h => cut_mem h) (fun x h => by cases h) (fun x h => cut_mem h) (by simp; omega)⟩
        simp [runFn, entry, lentIx, x_seq, x_ite, x_ret, x_skip, x_set, x_raise, x_ex, d_var, d_lit, d_or, d_not, d_ite, d_chain, d_op, d_seq, d_call, denL, denV, denB, looked, lent, places, nodupB, back, bind_val, mv, opDen, noneIn, wipeP, keepP, backs, PV.isCont, Op.makes, hcond, dToLst, dToTup, dSl, dRev, dEq, dLt, dLen, dIdx, dAdd, denF, setAll, x_par, PV.cmpb, PV.flat, PV.flatL, PV.dep, PV.depL, PV.eq, hne, hfl, e1, e2, ei, b1]
      · have c1 := cut_len xs none (some r)
        have c2 := cut_len xs (some r) (some (r + 2))
        have c3 := cut_len xs (some (r + 2)) none
        have b1 : (cut xs none (some r)).length + (cut xs (some r) (some (r + 2))).length ≤ big := by unfold big; omega
        have b2 : (cut xs none (some r)).length + (cut xs (some r) (some (r + 2))).length + (cut xs (some (r + 2)) none).length ≤ big := by unfold big; omega
        refine ⟨_, false, s2, ?_, hs2, cat3 (l1 := cut xs none (some r)) (l2 := (cut xs (some r) (some (r + 2))).reverse) (l3 := cut xs (some (r + 2)) none) (fun x h => cut_mem h) (fun x h => okm_mono (by omega) x (hx x (cut_mem (List.mem_reverse.mp h)))) (fun x h => cut_mem h) (by simp; omega)⟩
        simp [runFn, entry, lentIx, x_seq, x_ite, x_ret, x_skip, x_set, x_raise, x_ex, d_var, d_lit, d_or, d_not, d_ite, d_chain, d_op, d_seq, d_call, denL, denV, denB, looked, lent, places, nodupB, back, bind_val, mv, opDen, noneIn, wipeP, keepP, backs, PV.isCont, Op.makes, hcond, dToLst, dToTup, dSl, dRev, dEq, dLt, dLen, dIdx, dAdd, denF, setAll, x_par, PV.cmpb, PV.flat, PV.flatL, PV.dep, PV.depL, PV.eq, hne, hfl, e1, e2, ei, b1, b2]
      · refine ⟨.lst xs, true, s2, ?_, hs2, okm_lst.mpr ⟨by omega, fun x h => okm_mono (by omega) x (hx x h)⟩⟩
        simp [runFn, entry, lentIx, x_seq, x_ite, x_ret, x_skip, x_set, x_raise, x_ex, d_var, d_lit, d_or, d_not, d_ite, d_chain, d_op, d_seq, d_call, denL, denV, denB, looked, lent, places, nodupB, back, bind_val, mv, opDen, noneIn, wipeP, keepP, backs, PV.isCont, Op.makes, hcond, dToLst, dToTup, dSl, dRev, dEq, dLt, dLen, dIdx, dAdd, denF, setAll, x_par, PV.cmpb, PV.flat, PV.flatL, PV.dep, PV.depL, PV.eq, hne, hfl, e1, e2, ei]
      · obtain ⟨v, b, s3, e3, hs3, hv⟩ := e_any 2 (n + d + 1) hs2
        have e3 : callN T (n + d + 6) 25 [s2, .int 2] = some (.val (v, b), [s3]) := e3
        have hw3 : (w == 0) = false ∧ (w == 1) = false ∧ (w == 2) = false ∧ (w == 3) = false ∧ w < 6 := by rcases h45 with rfl | rfl <;> decide
        obtain ⟨k0, k1, k2, k3, k4⟩ := hw3
        refine ⟨.tup (xs.set r.toNat v), false, s3, ?_, hs3, cat_ok (okm_set hx (okm_mono (by omega) v hv)) (by simp; omega)⟩
        simp [runFn, entry, lentIx, x_seq, x_ite, x_ret, x_skip, x_set, x_raise, x_ex, d_var, d_lit, d_or, d_not, d_ite, d_chain, d_op, d_seq, d_call, denL, denV, denB, looked, lent, places, nodupB, back, bind_val, mv, opDen, noneIn, wipeP, keepP, backs, PV.isCont, Op.makes, hcond, dToLst, dToTup, dSl, dRev, dEq, dLt, dLen, dIdx, dAdd, denF, setAll, x_par, PV.cmpb, PV.flat, PV.flatL, PV.dep, PV.depL, PV.eq, hne, hfl, e1, e2, ei, x_ixset, setAt, putIx, ixOf_nat r0 r1, e3, k0, k1, k2, k3, k4]
      · obtain ⟨v, s3, e3, hs3, hv⟩ := e_chosen (n + d + 4) hs2 (xs := near) (by simp) (by decide)
        have e3 : callN T (n + d + 6) 22 [s2, .lst near] = some (.val (v, false), [s3]) := e3
        have k0 : (w == 0) = false := by simp; omega
        have k1 : (w == 1) = false := by simp; omega
        have k2 : (w == 2) = false := by simp; omega
        have k3 : (w == 3) = false := by simp; omega
        have k4 : ¬ w < 6 := by omega
        refine ⟨.tup (xs.set r.toNat v), false, s3, ?_, hs3, cat_ok (okm_set hx (okm_mono hm v (near_ok v hv))) (by simp; omega)⟩
        simp [runFn, entry, lentIx, x_seq, x_ite, x_ret, x_skip, x_set, x_raise, x_ex, d_var, d_lit, d_or, d_not, d_ite, d_chain, d_op, d_seq, d_call, denL, denV, denB, looked, lent, places, nodupB, back, bind_val, mv, opDen, noneIn, wipeP, keepP, backs, PV.isCont, Op.makes, hcond, dToLst, dToTup, dSl, dRev, dEq, dLt, dLen, dIdx, dAdd, denF, setAll, x_par, PV.cmpb, PV.flat, PV.flatL, PV.dep, PV.depL, PV.eq, hne, hfl, e1, e2, ei, x_ixset, setAt, putIx, ixOf_nat r0 r1, e3, k0, k1, k2, k3, k4]
end K01
end
section
set_option linter.all false
set_option maxRecDepth 100000
namespace K01
open Tl
def srcR : S := (.seq (.set 3 (.op .mod (.cons (.op .add (.cons (.op .add (.cons (.op .mul (.cons (.var 2) (.cons (.lit (.int 16807)) .nil))) (.cons (.op .mul (.cons (.lit (.int 60919)) (.cons (.var 1) .nil))) .nil))) (.cons (.lit (.int 31)) .nil))) (.cons (.lit (.int 2147481173)) .nil))))
  (.seq (.set 3 (.op .add (.cons (.op .add (.cons (.op .mod (.cons (.op .mul (.cons (.var 3) (.cons (.var 3) .nil))) (.cons (.lit (.int 2147481151)) .nil))) (.cons (.op .mul (.cons (.lit (.int 2)) (.cons (.var 1) .nil))) .nil))) (.cons (.lit (.int 5)) .nil))))
  (.ret (.seq true (.cons (.ite (.op .ge (.cons (.var 2) (.cons (.lit (.int 1000000000000000000)) .nil))) (.var 2) (.lit (.int 0))) (.cons (.var 3) .nil))))))
theorem src_rest (Φ : Fun) (sc : Slot) (k z : Int) (m1 : okMul z 16807 = true) (m2 : okMul 60919 k = true) (m3 : okMul 2 k = true)
    (h4 : ∀ z : Int, okMul (z % 2147481173) (z % 2147481173) = true) : ∃ a b t u, exe Φ [] srcR [sc, some (false, .int k), some (false, .int z), none] = some (.val (.rt (.lst [.int a, .int b]) true), [sc, some (false, .int k), t, u]) := by
  unfold srcR
  generalize (1000000000000000000 : Int) = G
  have hc : dGe [.int z, .int G] = some (.bl (decide (G ≤ z))) := rfl
  generalize decide (G ≤ z) = c at hc
  refine ⟨if c = true then z else 0, ((z * 16807 + 60919 * k + 31) % 2147481173) * ((z * 16807 + 60919 * k + 31) % 2147481173) % 2147481151 + 2 * k + 5, some (false, .int z), some (false, .int (((z * 16807 + 60919 * k + 31) % 2147481173) * ((z * 16807 + 60919 * k + 31) % 2147481173) % 2147481151 + 2 * k + 5)), ?_⟩
  cases c <;> simp [runFn, entry, lentIx, x_seq, x_ite, x_ret, x_skip, x_set, x_raise, x_ex, d_var, d_lit, d_or, d_not, d_and, d_ite, d_chain, d_op, d_seq, d_call, denL, denV, denB, looked, lent, places, nodupB, back, bind_val, mv, opDen, noneIn, wipeP, keepP, backs, PV.isCont, Op.makes, dMul, dAdd, dMod, hc, m1, m2, m3, h4]
theorem src_head (Φ : Fun) (R : S) (k : Nat) (ns : List Int) (s : PV) (t u : Slot) (sc : PV) (hsc : sc = .scr (ns.map .int))
    (e : ∀ z : Int, ∃ s t u, Src s ∧ exe Φ [] R [some (false, sc), some (false, .int k), some (false, .int z), none] = some (.val (.rt s true), [some (false, sc), some (false, .int k), t, u])) :
    ∃ s, runFn Φ ⟨4, [false, false], (.seq (.set 2 (.lit (.int 0))) (.seq (.ite (.op .gt (.cons (.op .len (.cons (.var 0) .nil)) (.cons (.var 1) .nil))) (.set 2 (.op .toInt (.cons (.op .idx (.cons (.var 0) (.cons (.var 1) .nil))) .nil))) .skip) R))⟩ [sc, .int k] = some (.val (s, true), []) ∧ Src s := by
  have hl : dLen [sc] = some (.int ns.length) := by subst hsc; simp [dLen]
  by_cases hk : k < ns.length
  · have hg : dIdx [sc, .int k] = some (.int ns[k]) := by
      subst hsc
      show getAt (ns.map PV.int) (k : Int) = _
      rw [getAt_nat, List.getElem?_map, List.getElem?_eq_getElem hk]; rfl
    generalize ns[k] = z at hg
    obtain ⟨s, t, u, hs, e⟩ := e z
    exact ⟨s, by simp [runFn, entry, lentIx, x_seq, x_ite, x_ret, x_skip, x_set, x_raise, x_ex, d_var, d_lit, d_or, d_not, d_and, d_ite, d_chain, d_op, d_seq, d_call, denL, denV, denB, looked, lent, places, nodupB, back, bind_val, mv, opDen, noneIn, wipeP, keepP, backs, PV.isCont, Op.makes, hl, dGt, hg, dToInt, hk, e], hs⟩
  · obtain ⟨s, t, u, hs, e⟩ := e 0
    exact ⟨s, by simp [runFn, entry, lentIx, x_seq, x_ite, x_ret, x_skip, x_set, x_raise, x_ex, d_var, d_lit, d_or, d_not, d_and, d_ite, d_chain, d_op, d_seq, d_call, denL, denV, denB, looked, lent, places, nodupB, back, bind_val, mv, opDen, noneIn, wipeP, keepP, backs, PV.isCont, Op.makes, hl, dGt, hk, e], hs⟩
theorem e_source (n k : Nat) (ns : List Int) : ∃ s, callN T (n + 1) 20 [.scr (ns.map .int), .int k] = some (.val (s, true), []) ∧ Src s := by
  have h1 : ∀ z : Int, okMul z 16807 = true := fun z => okMul_r (by omega) (by omega)
  have h2 : ∀ z : Int, okMul 60919 z = true := fun z => okMul_l (by omega) (by omega)
  have h3 : ∀ z : Int, okMul 2 z = true := fun z => okMul_l (by omega) (by omega)
  have h4 : ∀ z : Int, okMul (z % 2147481173) (z % 2147481173) = true := fun z => okMul_l (by have := Int.emod_nonneg z (b := 2147481173) (by omega); omega) (by have := Int.emod_lt_of_pos z (b := 2147481173) (by omega); omega)
  rw [callN_succ (fn := F20) rfl]
  exact src_head (callN T n) srcR k ns .non none none _ rfl fun z => by
    obtain ⟨a, b, t, u, e⟩ := src_rest (callN T n) (some (false, .scr (ns.map .int))) k z (h1 _) (h2 _) (h3 _) h4
    exact ⟨_, t, u, ⟨_, _, rfl⟩, e⟩
end K01
end
section
set_option linter.all false
set_option maxRecDepth 100000
namespace K01
open Tl
theorem okm_pair {x v : PV} (hx : okm 4 x = true) (hv : okm 4 v = true) : okm 4 (.tup [x, v]) = true :=
  okm_tup.mpr ⟨by simp, fun y hy => by
    rcases List.mem_cons.mp hy with rfl | hy
    · exact hx
    · rw [List.mem_singleton.mp hy]; exact hv⟩
theorem okm_app {m : Nat} {rs : List PV} {v : PV} (h : ∀ x ∈ rs, okm m x = true) (hv : okm m v = true) : ∀ x ∈ rs ++ [v], okm m x = true := fun x hx => by
  rcases List.mem_append.mp hx with hx | hx
  · exact h x hx
  · rw [List.mem_singleton.mp hx]; exact hv
theorem cut1 (x : PV) (xs : List PV) : cut (x :: xs) (some 1) none = xs := by
  simp [cut, sAt]
theorem mem_ok {all pre post : List PV} {x : PV} (h : ∀ y ∈ all, okm 4 y = true) (e : pre ++ x :: post = all) : okm 4 x = true := h x (by rw [← e]; simp)
theorem pre_len {all pre post : List PV} {x : PV} {k : Nat} (hk : all.length = k) (e : pre ++ x :: post = all) : pre.length < k := by
  have := congrArg List.length e
  simp at this; omega
theorem beq_no {r c : Int} (h : r ≠ c) : (r == c) = false := by simpa using h
/-! ### layers -/
theorem sheet_step (d n : Nat) (hrec : ∀ {s : PV}, Src s → (1 : Int) < d → ∃ v s', callN T (n + d + 2) 31 [s, .int ((d : Int) - 1)] = some (.val (v, false), [s']) ∧ Src s' ∧ okm 4 v = true) {s : PV} (hs : Src s) :
    ∃ b xs s', callN T (n + d + 3) 31 [s, .int d] = some (.val (.tup [.bl b, .tup xs], false), [s']) ∧ Src s' ∧ xs.length ≤ 3 ∧ ∀ x ∈ xs, okm 4 x = true := by
  rw [show n + d + 3 = (n + d + 2) + 1 from rfl, callN_succ (fn := F31) rfl]
  unfold F31
  have step : ∀ pre x post ρ, pre ++ x :: post = [.str [97], .str [98], .str [99, 99]] → (∃ s rs s3 s4, ρ = [some (true, s), some (false, .int d), some (true, .lst rs), s3, s4] ∧ Src s ∧ rs.length ≤ pre.length ∧ ∀ x ∈ rs, okm 4 x = true) →
      ∃ ρ1 ρ2, bindT [3] x ρ = some ρ1 ∧ exe (callN T (n + d + 2)) [0] F31b0 ρ1 = some (.val .nx, ρ2) ∧ ∃ s rs s3 s4, ρ2 = [some (true, s), some (false, .int d), some (true, .lst rs), s3, s4] ∧ Src s ∧ rs.length ≤ (pre ++ [x]).length ∧ ∀ x ∈ rs, okm 4 x = true := by
    rintro pre x post ρ he ⟨s, rs, s3, s4, rfl, hs, hl, ho⟩
    have hp := pre_len (k := 3) rfl he
    have hbig : rs.length < big := by unfold big; omega
    have ox : okm 4 x = true := mem_ok (by decide) he
    obtain ⟨r, s2, e2, hs2, r0, r1⟩ := e_pick (n + d + 1) hs (m := 8) (by omega) (by omega)
    rw [show n + d + 1 + 1 = n + d + 2 from rfl] at e2
    have app : ∀ v, okm 4 v = true → ∀ s', Src s' → ∃ s rs' s3 s4, ([some (true, s'), some (false, .int d), some (true, .lst (rs ++ [.tup [x, v]])), some (false, x), some (false, .int r)] : Env) = [some (true, s), some (false, .int d), some (true, .lst rs'), s3, s4] ∧ Src s ∧ rs'.length ≤ (pre ++ [x]).length ∧ ∀ x ∈ rs', okm 4 x = true := fun v hv s' hs' =>
      ⟨_, _, _, _, rfl, hs', by simp; omega, okm_app ho (okm_pair ox hv)⟩
    by_cases c0 : r = 0
    · subst c0
      refine ⟨_, _, rfl, ?_, app .non rfl s2 hs2⟩
      simp [F31b0, runFn, entry, lentIx, x_seq, x_ite, x_ret, x_skip, x_set, x_raise, x_ex, d_var, d_lit, d_or, d_not, d_and, d_ite, d_chain, d_op, d_seq, d_call, denL, denV, denB, looked, lent, places, nodupB, back, bind_val, mv, opDen, noneIn, wipeP, keepP, backs, PV.isCont, Op.makes, x_app, lstAt, e2, dEq, PV.cmpb, PV.flat, PV.flatL, PV.dep, PV.depL, PV.eq, hbig]
    · by_cases c1 : r = 1
      · subst c1
        obtain ⟨v, s3, e3, hs3, hv⟩ := e_chosen (n + d) hs2 (xs := [.str [120], .str [121, 121]]) (by simp) (by decide)
        refine ⟨_, _, rfl, ?_, app v (by simp at hv; rcases hv with rfl | rfl <;> rfl) s3 hs3⟩
        simp [F31b0, runFn, entry, lentIx, x_seq, x_ite, x_ret, x_skip, x_set, x_raise, x_ex, d_var, d_lit, d_or, d_not, d_and, d_ite, d_chain, d_op, d_seq, d_call, denL, denV, denB, looked, lent, places, nodupB, back, bind_val, mv, opDen, noneIn, wipeP, keepP, backs, PV.isCont, Op.makes, x_app, lstAt, e2, e3, dEq, PV.cmpb, PV.flat, PV.flatL, PV.dep, PV.depL, PV.eq, hbig]
      · by_cases c5 : r < 5 ∧ (1 : Int) < d
        · obtain ⟨v, s3, e3, hs3, hv⟩ := hrec hs2 c5.2
          refine ⟨_, _, rfl, ?_, app v hv s3 hs3⟩
          have q1 := c5.2
          simp [F31b0, runFn, entry, lentIx, x_seq, x_ite, x_ret, x_skip, x_set, x_raise, x_ex, d_var, d_lit, d_or, d_not, d_and, d_ite, d_chain, d_op, d_seq, d_call, denL, denV, denB, looked, lent, places, nodupB, back, bind_val, mv, opDen, noneIn, wipeP, keepP, backs, PV.isCont, Op.makes, x_app, lstAt, e2, e3, dEq, dLt, dGt, dSub, PV.cmpb, PV.flat, PV.flatL, PV.dep, PV.depL, PV.eq, hbig, beq_no c0, beq_no c1, c5.1, q1]
        · refine ⟨_, [some (true, s2), some (false, .int d), some (true, .lst rs), some (false, x), some (false, .int r)], rfl, ?_, _, _, _, _, rfl, hs2, by simp; omega, ho⟩
          by_cases q : r < 5
          · have q1 : ¬ (1 : Int) < d := fun h => c5 ⟨q, h⟩
            simp [F31b0, runFn, entry, lentIx, x_seq, x_ite, x_ret, x_skip, x_set, x_raise, x_ex, d_var, d_lit, d_or, d_not, d_and, d_ite, d_chain, d_op, d_seq, d_call, denL, denV, denB, looked, lent, places, nodupB, back, bind_val, mv, opDen, noneIn, wipeP, keepP, backs, PV.isCont, Op.makes, x_app, lstAt, e2, dEq, dLt, dGt, PV.cmpb, PV.flat, PV.flatL, PV.dep, PV.depL, PV.eq, beq_no c0, beq_no c1, q, q1]
          · simp [F31b0, runFn, entry, lentIx, x_seq, x_ite, x_ret, x_skip, x_set, x_raise, x_ex, d_var, d_lit, d_or, d_not, d_and, d_ite, d_chain, d_op, d_seq, d_call, denL, denV, denB, looked, lent, places, nodupB, back, bind_val, mv, opDen, noneIn, wipeP, keepP, backs, PV.isCont, Op.makes, x_app, lstAt, e2, dEq, dLt, dGt, PV.cmpb, PV.flat, PV.flatL, PV.dep, PV.depL, PV.eq, beq_no c0, beq_no c1, q]
  obtain ⟨ρ', h1, s1, rs, s3, s4, rfl, hs1, hl, ho⟩ := forLoop_pre (f := fun ρ => exe (callN T (n + d + 2)) [0] F31b0 ρ) (tg := [3])
    (fun pre ρ => ∃ s rs s3 s4, ρ = [some (true, s), some (false, .int d), some (true, .lst rs), s3, s4] ∧ Src s ∧ rs.length ≤ pre.length ∧ ∀ x ∈ rs, okm 4 x = true) [.str [97], .str [98], .str [99, 99]] (xs := [.str [97], .str [98], .str [99, 99]]) (done := []) (ρ := [some (true, s), some (false, .int d), some (true, .lst []), none, none]) rfl ⟨s, [], none, none, rfl, hs, by simp, by simp⟩ step
  obtain ⟨r, s2, e2, hs2, _, _⟩ := e_pick (n + d + 1) hs1 (m := 6) (by omega) (by omega)
  rw [show n + d + 1 + 1 = n + d + 2 from rfl] at e2
  refine ⟨r == 0, rs, s2, ?_, hs2, by simpa using hl, ho⟩
  simp [runFn, entry, lentIx, x_seq, x_ite, x_ret, x_skip, x_set, x_raise, x_ex, d_var, d_lit, d_or, d_not, d_and, d_ite, d_chain, d_op, d_seq, d_call, denL, denV, denB, looked, lent, places, nodupB, back, bind_val, mv, opDen, noneIn, wipeP, keepP, backs, PV.isCont, Op.makes, x_for, itemsOf, h1, e2, dEq, dToTup, PV.cmpb, PV.flat, PV.flatL, PV.dep, PV.depL, PV.eq]
theorem e_sheet : ∀ (d n : Nat) {s : PV}, Src s → ∃ b xs s', callN T (n + d + 3) 31 [s, .int d] = some (.val (.tup [.bl b, .tup xs], false), [s']) ∧ Src s' ∧ xs.length ≤ 3 ∧ ∀ x ∈ xs, okm 4 x = true
  | 0, n, s, hs => sheet_step 0 n (fun _ h => absurd h (by simp)) hs
  | d + 1, n, s, hs => sheet_step (d + 1) n (fun {s} hs _ => by
      obtain ⟨b, xs, s', e, h1, h2, h3⟩ := e_sheet d n hs
      rw [show ((d + 1 : Nat) : Int) - 1 = d by omega]
      exact ⟨_, s', e, h1, okm_pair rfl (okm_tup.mpr ⟨by omega, h3⟩)⟩) hs
theorem lay_ok {b : Bool} {xs : List PV} (h : xs.length ≤ 3) (ho : ∀ x ∈ xs, okm 4 x = true) : okm 4 (.tup [.bl b, .tup xs]) = true := okm_pair rfl (okm_tup.mpr ⟨by omega, ho⟩)
theorem while_layer (N : Nat) (s : PV) (b : Bool) : ∀ (xs : List PV) (m : Nat), xs.length < m → xs.length ≤ 3 → (∀ x ∈ xs, okm 4 x = true) →
    ∃ ys, whileLoop (fun ρ => den (callN T (N + 7)) F32w0 ρ) (fun ρ => exe (callN T (N + 7)) [0] F32b0 ρ) m [some (true, s), some (false, .tup [.bl b, .tup xs])] = some (.val .nx, [some (true, s), some (false, .tup [.bl b, .tup ys])]) ∧ layB (.tup [.bl b, .tup ys]) = true ∧ ys.length ≤ 3 ∧ ∀ y ∈ ys, okm 4 y = true
  | xs, 0, h, _, _ => absurd h (by omega)
  | xs, m + 1, hm, h3, ho => by
    have ov : okm 4 (.tup [.bl b, .tup xs]) = true := lay_ok h3 ho
    have e1 : callN T (N + 7) 30 [.tup [.bl b, .tup xs], .int 4] = _ := e_layer_size 4 N _ (ok_of _ (okm_mono (by omega) _ ov))
    unfold whileLoop
    by_cases h : lsz 4 (.tup [.bl b, .tup xs]) ≤ 16
    · refine ⟨xs, ?_, decide_eq_true h, h3, ho⟩
      have h' : ¬ 16 < lsz 4 (.tup [.bl b, .tup xs]) := by omega
      simp [F32w0, runFn, entry, lentIx, x_seq, x_ite, x_ret, x_skip, x_set, x_raise, x_ex, d_var, d_lit, d_or, d_not, d_and, d_ite, d_chain, d_op, d_seq, d_call, denL, denV, denB, looked, lent, places, nodupB, back, bind_val, mv, opDen, noneIn, wipeP, keepP, backs, PV.isCont, Op.makes, e1, dGt, h']
    · cases xs with
      | nil => exact absurd (show lsz 4 (.tup [.bl b, .tup []]) ≤ 16 by cases b <;> decide) h
      | cons x xs =>
        obtain ⟨ys, g1, g2⟩ := while_layer N s b xs m (by simp at hm; omega) (by simp at h3; omega) fun y hy => ho y (by simp [hy])
        refine ⟨ys, ?_, g2⟩
        have h' : 16 < lsz 4 (.tup [.bl b, .tup (x :: xs)]) := by omega
        have hw : den (callN T (N + 7)) F32w0 [some (true, s), some (false, .tup [.bl b, .tup (x :: xs)])] = some (.val (.bl true, false), [some (true, s), some (false, .tup [.bl b, .tup (x :: xs)])]) := by
          simp [F32w0, runFn, entry, lentIx, x_seq, x_ite, x_ret, x_skip, x_set, x_raise, x_ex, d_var, d_lit, d_or, d_not, d_and, d_ite, d_chain, d_op, d_seq, d_call, denL, denV, denB, looked, lent, places, nodupB, back, bind_val, mv, opDen, noneIn, wipeP, keepP, backs, PV.isCont, Op.makes, e1, dGt, h']
        have hb : exe (callN T (N + 7)) [0] F32b0 [some (true, s), some (false, .tup [.bl b, .tup (x :: xs)])] = some (.val .nx, [some (true, s), some (false, .tup [.bl b, .tup xs])]) := by
          simp [F32b0, runFn, entry, lentIx, x_seq, x_ite, x_ret, x_skip, x_set, x_raise, x_ex, d_var, d_lit, d_or, d_not, d_and, d_ite, d_chain, d_op, d_seq, d_call, denL, denV, denB, looked, lent, places, nodupB, back, bind_val, mv, opDen, noneIn, wipeP, keepP, backs, PV.isCont, Op.makes, dIdx, getAt, ixOf, dSl, cut1]
        simp only [hw, hb, bind_val, g1]
theorem e_layer (n : Nat) {s : PV} (hs : Src s) : ∃ b xs s', callN T (n + 8) 32 [s] = some (.val (.tup [.bl b, .tup xs], false), [s']) ∧ Src s' ∧ layB (.tup [.bl b, .tup xs]) = true ∧ xs.length ≤ 3 ∧ ∀ x ∈ xs, okm 4 x = true := by
  obtain ⟨b, xs, s1, e1, hs1, h3, ho⟩ := e_sheet 3 (n + 1) hs
  have e1 : callN T (n + 7) 31 [s, .int 3] = _ := e1
  obtain ⟨ys, g1, g2⟩ := while_layer n s1 b xs 64 (by omega) h3 ho
  refine ⟨b, ys, s1, ?_, hs1, g2⟩
  rw [show n + 8 = (n + 7) + 1 from rfl, callN_succ (fn := F32) rfl]
  unfold F32
  simp [runFn, entry, lentIx, x_seq, x_ite, x_ret, x_skip, x_set, x_raise, x_ex, d_var, d_lit, d_or, d_not, d_and, d_ite, d_chain, d_op, d_seq, d_call, denL, denV, denB, looked, lent, places, nodupB, back, bind_val, mv, opDen, noneIn, wipeP, keepP, backs, PV.isCont, Op.makes, x_while, e1, g1]
/-! ### trees -/
theorem node_step (d n : Nat) (hrec : ∀ {s : PV}, Src s → (1 : Int) < d → ∃ v s', callN T (n + d + 2) 33 [s, .int ((d : Int) - 1)] = some (.val (v, false), [s']) ∧ Src s' ∧ okm 4 v = true) {s : PV} (hs : Src s) :
    ∃ xs s', callN T (n + d + 3) 33 [s, .int d] = some (.val (.tup xs, false), [s']) ∧ Src s' ∧ xs.length ≤ 4 ∧ ∀ x ∈ xs, okm 4 x = true := by
  rw [show n + d + 3 = (n + d + 2) + 1 from rfl, callN_succ (fn := F33) rfl]
  unfold F33
  have step : ∀ pre x post ρ, pre ++ x :: post = [.str [97], .str [98], .str [99, 99], .str [100]] → (∃ s rs s3 s4, ρ = [some (true, s), some (false, .int d), some (true, .lst rs), s3, s4] ∧ Src s ∧ rs.length ≤ pre.length ∧ ∀ x ∈ rs, okm 4 x = true) →
      ∃ ρ1 ρ2, bindT [3] x ρ = some ρ1 ∧ exe (callN T (n + d + 2)) [0] F33b0 ρ1 = some (.val .nx, ρ2) ∧ ∃ s rs s3 s4, ρ2 = [some (true, s), some (false, .int d), some (true, .lst rs), s3, s4] ∧ Src s ∧ rs.length ≤ (pre ++ [x]).length ∧ ∀ x ∈ rs, okm 4 x = true := by
    rintro pre x post ρ he ⟨s, rs, s3, s4, rfl, hs, hl, ho⟩
    have hp := pre_len (k := 4) rfl he
    have hbig : rs.length < big := by unfold big; omega
    have ox : okm 4 x = true := mem_ok (by decide) he
    obtain ⟨r, s2, e2, hs2, r0, r1⟩ := e_pick (n + d + 1) hs (m := 5) (by omega) (by omega)
    rw [show n + d + 1 + 1 = n + d + 2 from rfl] at e2
    have app : ∀ v, okm 4 v = true → ∀ s', Src s' → ∃ s rs' s3 s4, ([some (true, s'), some (false, .int d), some (true, .lst (rs ++ [.tup [x, v]])), some (false, x), some (false, .int r)] : Env) = [some (true, s), some (false, .int d), some (true, .lst rs'), s3, s4] ∧ Src s ∧ rs'.length ≤ (pre ++ [x]).length ∧ ∀ x ∈ rs', okm 4 x = true := fun v hv s' hs' =>
      ⟨_, _, _, _, rfl, hs', by simp; omega, okm_app ho (okm_pair ox hv)⟩
    by_cases c0 : r = 0
    · subst c0
      obtain ⟨v, s3, e3, hs3, hv⟩ := e_chosen (n + d) hs2 (xs := [.str [120], .str [121, 121], .str [117]]) (by simp) (by decide)
      refine ⟨_, _, rfl, ?_, app v (by simp at hv; rcases hv with rfl | rfl | rfl <;> rfl) s3 hs3⟩
      simp [F33b0, runFn, entry, lentIx, x_seq, x_ite, x_ret, x_skip, x_set, x_raise, x_ex, d_var, d_lit, d_or, d_not, d_and, d_ite, d_chain, d_op, d_seq, d_call, denL, denV, denB, looked, lent, places, nodupB, back, bind_val, mv, opDen, noneIn, wipeP, keepP, backs, PV.isCont, Op.makes, x_app, lstAt, e2, e3, dEq, PV.cmpb, PV.flat, PV.flatL, PV.dep, PV.depL, PV.eq, hbig]
    · by_cases c5 : r < 3 ∧ (1 : Int) < d
      · obtain ⟨v, s3, e3, hs3, hv⟩ := hrec hs2 c5.2
        refine ⟨_, _, rfl, ?_, app v hv s3 hs3⟩
        have q1 := c5.2
        simp [F33b0, runFn, entry, lentIx, x_seq, x_ite, x_ret, x_skip, x_set, x_raise, x_ex, d_var, d_lit, d_or, d_not, d_and, d_ite, d_chain, d_op, d_seq, d_call, denL, denV, denB, looked, lent, places, nodupB, back, bind_val, mv, opDen, noneIn, wipeP, keepP, backs, PV.isCont, Op.makes, x_app, lstAt, e2, e3, dEq, dLt, dGt, dSub, PV.cmpb, PV.flat, PV.flatL, PV.dep, PV.depL, PV.eq, hbig, beq_no c0, c5.1, q1]
      · refine ⟨_, [some (true, s2), some (false, .int d), some (true, .lst rs), some (false, x), some (false, .int r)], rfl, ?_, _, _, _, _, rfl, hs2, by simp; omega, ho⟩
        by_cases q : r < 3
        · have q1 : ¬ (1 : Int) < d := fun h => c5 ⟨q, h⟩
          simp [F33b0, runFn, entry, lentIx, x_seq, x_ite, x_ret, x_skip, x_set, x_raise, x_ex, d_var, d_lit, d_or, d_not, d_and, d_ite, d_chain, d_op, d_seq, d_call, denL, denV, denB, looked, lent, places, nodupB, back, bind_val, mv, opDen, noneIn, wipeP, keepP, backs, PV.isCont, Op.makes, x_app, lstAt, e2, dEq, dLt, dGt, PV.cmpb, PV.flat, PV.flatL, PV.dep, PV.depL, PV.eq, beq_no c0, q, q1]
        · simp [F33b0, runFn, entry, lentIx, x_seq, x_ite, x_ret, x_skip, x_set, x_raise, x_ex, d_var, d_lit, d_or, d_not, d_and, d_ite, d_chain, d_op, d_seq, d_call, denL, denV, denB, looked, lent, places, nodupB, back, bind_val, mv, opDen, noneIn, wipeP, keepP, backs, PV.isCont, Op.makes, x_app, lstAt, e2, dEq, dLt, dGt, PV.cmpb, PV.flat, PV.flatL, PV.dep, PV.depL, PV.eq, beq_no c0, q]
  obtain ⟨ρ', h1, s1, rs, s3, s4, rfl, hs1, hl, ho⟩ := forLoop_pre (f := fun ρ => exe (callN T (n + d + 2)) [0] F33b0 ρ) (tg := [3])
    (fun pre ρ => ∃ s rs s3 s4, ρ = [some (true, s), some (false, .int d), some (true, .lst rs), s3, s4] ∧ Src s ∧ rs.length ≤ pre.length ∧ ∀ x ∈ rs, okm 4 x = true) [.str [97], .str [98], .str [99, 99], .str [100]] (xs := [.str [97], .str [98], .str [99, 99], .str [100]]) (done := []) (ρ := [some (true, s), some (false, .int d), some (true, .lst []), none, none]) rfl ⟨s, [], none, none, rfl, hs, by simp, by simp⟩ step
  refine ⟨rs, s1, ?_, hs1, by simpa using hl, ho⟩
  simp [runFn, entry, lentIx, x_seq, x_ite, x_ret, x_skip, x_set, x_raise, x_ex, d_var, d_lit, d_or, d_not, d_and, d_ite, d_chain, d_op, d_seq, d_call, denL, denV, denB, looked, lent, places, nodupB, back, bind_val, mv, opDen, noneIn, wipeP, keepP, backs, PV.isCont, Op.makes, x_for, itemsOf, h1, dToTup]
theorem e_node : ∀ (d n : Nat) {s : PV}, Src s → ∃ xs s', callN T (n + d + 3) 33 [s, .int d] = some (.val (.tup xs, false), [s']) ∧ Src s' ∧ xs.length ≤ 4 ∧ ∀ x ∈ xs, okm 4 x = true
  | 0, n, s, hs => node_step 0 n (fun _ h => absurd h (by simp)) hs
  | d + 1, n, s, hs => node_step (d + 1) n (fun {s} hs _ => by
      obtain ⟨xs, s', e, h1, h2, h3⟩ := e_node d n hs
      rw [show ((d + 1 : Nat) : Int) - 1 = d by omega]
      exact ⟨_, s', e, h1, okm_tup.mpr ⟨h2, h3⟩⟩) hs
theorem while_tree (N : Nat) (s : PV) : ∀ (xs : List PV) (m : Nat), xs.length < m → xs.length ≤ 4 → (∀ x ∈ xs, okm 4 x = true) →
    ∃ ys, whileLoop (fun ρ => den (callN T (N + 9)) F34w0 ρ) (fun ρ => exe (callN T (N + 9)) [0] F34b0 ρ) m [some (true, s), some (false, .tup xs)] = some (.val .nx, [some (true, s), some (false, .tup ys)]) ∧ treeB (.tup ys) = true ∧ ys.length ≤ 4 ∧ ∀ y ∈ ys, okm 4 y = true
  | xs, 0, h, _, _ => absurd h (by omega)
  | xs, m + 1, hm, h3, ho => by
    have ov : okm 4 (.tup xs) = true := okm_tup.mpr ⟨h3, ho⟩
    have e1 : callN T (N + 9) 29 [.tup xs, .int 6] = _ := e_tree_size 6 N _ (ok_of _ (okm_mono (by omega) _ ov))
    unfold whileLoop
    by_cases h : tsz 6 (.tup xs) ≤ 40
    · refine ⟨xs, ?_, decide_eq_true h, h3, ho⟩
      have h' : ¬ 40 < tsz 6 (.tup xs) := by omega
      simp [F34w0, runFn, entry, lentIx, x_seq, x_ite, x_ret, x_skip, x_set, x_raise, x_ex, d_var, d_lit, d_or, d_not, d_and, d_ite, d_chain, d_op, d_seq, d_call, denL, denV, denB, looked, lent, places, nodupB, back, bind_val, mv, opDen, noneIn, wipeP, keepP, backs, PV.isCont, Op.makes, e1, dGt, h']
    · cases xs with
      | nil => exact absurd (show tsz 6 (.tup []) ≤ 40 by decide) h
      | cons x xs =>
        obtain ⟨ys, g1, g2⟩ := while_tree N s xs m (by simp at hm; omega) (by simp at h3; omega) fun y hy => ho y (by simp [hy])
        refine ⟨ys, ?_, g2⟩
        have h' : 40 < tsz 6 (.tup (x :: xs)) := by omega
        have hw : den (callN T (N + 9)) F34w0 [some (true, s), some (false, .tup (x :: xs))] = some (.val (.bl true, false), [some (true, s), some (false, .tup (x :: xs))]) := by
          simp [F34w0, runFn, entry, lentIx, x_seq, x_ite, x_ret, x_skip, x_set, x_raise, x_ex, d_var, d_lit, d_or, d_not, d_and, d_ite, d_chain, d_op, d_seq, d_call, denL, denV, denB, looked, lent, places, nodupB, back, bind_val, mv, opDen, noneIn, wipeP, keepP, backs, PV.isCont, Op.makes, e1, dGt, h']
        have hb : exe (callN T (N + 9)) [0] F34b0 [some (true, s), some (false, .tup (x :: xs))] = some (.val .nx, [some (true, s), some (false, .tup xs)]) := by
          simp [F34b0, runFn, entry, lentIx, x_seq, x_ite, x_ret, x_skip, x_set, x_raise, x_ex, d_var, d_lit, d_or, d_not, d_and, d_ite, d_chain, d_op, d_seq, d_call, denL, denV, denB, looked, lent, places, nodupB, back, bind_val, mv, opDen, noneIn, wipeP, keepP, backs, PV.isCont, Op.makes, dSl, cut1]
        simp only [hw, hb, bind_val, g1]
theorem e_tree (n : Nat) {s : PV} (hs : Src s) : ∃ xs s', callN T (n + 10) 34 [s] = some (.val (.tup xs, false), [s']) ∧ Src s' ∧ treeB (.tup xs) = true ∧ xs.length ≤ 4 ∧ ∀ x ∈ xs, okm 4 x = true := by
  obtain ⟨xs, s1, e1, hs1, h3, ho⟩ := e_node 4 (n + 2) hs
  have e1 : callN T (n + 9) 33 [s, .int 4] = _ := e1
  obtain ⟨ys, g1, g2⟩ := while_tree n s1 xs 64 (by omega) h3 ho
  refine ⟨ys, s1, ?_, hs1, g2⟩
  rw [show n + 10 = (n + 9) + 1 from rfl, callN_succ (fn := F34) rfl]
  unfold F34
  simp [runFn, entry, lentIx, x_seq, x_ite, x_ret, x_skip, x_set, x_raise, x_ex, d_var, d_lit, d_or, d_not, d_and, d_ite, d_chain, d_op, d_seq, d_call, denL, denV, denB, looked, lent, places, nodupB, back, bind_val, mv, opDen, noneIn, wipeP, keepP, backs, PV.isCont, Op.makes, x_while, e1, g1]
/-! ### a chain -/
theorem chain_loop (n : Nat) (p : PV) : ∀ (xs : List PV) (v : PV) (s : Slot), ∃ s', forLoop (fun ρ => exe (callN T n) [] F35b0 ρ) [2] xs [some (false, p), some (false, v), s] = some (.val .nx, [some (false, p), some (false, xs.foldl (fun v x => .tup [.tup [x, v]]) v), s'])
  | [], v, s => ⟨s, by unfold forLoop; rfl⟩
  | x :: xs, v, s => by
    obtain ⟨s', e⟩ := chain_loop n p xs (.tup [.tup [x, v]]) (some (false, x))
    refine ⟨s', ?_⟩
    unfold forLoop
    rw [show bindT [2] x [some (false, p), some (false, v), s] = some [some (false, p), some (false, v), some (false, x)] from rfl]
    have hb : exe (callN T n) [] F35b0 [some (false, p), some (false, v), some (false, x)] = some (.val .nx, [some (false, p), some (false, .tup [.tup [x, v]]), some (false, x)]) := by
      simp [F35b0, runFn, entry, lentIx, x_seq, x_ite, x_ret, x_skip, x_set, x_raise, x_ex, d_var, d_lit, d_or, d_not, d_and, d_ite, d_chain, d_op, d_seq, d_call, denL, denV, denB, looked, lent, places, nodupB, back, bind_val, mv, opDen, noneIn, wipeP, keepP, backs, PV.isCont, Op.makes]
    simp only [hb, bind_val, e, List.foldl_cons]
theorem e_chain (n : Nat) (ps : List PV) (v : PV) : callN T (n + 1) 35 [.tup ps, v] = some (.val (ps.reverse.foldl (fun v x => .tup [.tup [x, v]]) v, false), []) := by
  rw [callN_succ (fn := F35) rfl]
  unfold F35
  obtain ⟨s', e⟩ := chain_loop n (.tup ps) ps.reverse v none
  simp [runFn, entry, lentIx, x_seq, x_ite, x_ret, x_skip, x_set, x_raise, x_ex, d_var, d_lit, d_or, d_not, d_and, d_ite, d_chain, d_op, d_seq, d_call, denL, denV, denB, looked, lent, places, nodupB, back, bind_val, mv, opDen, noneIn, wipeP, keepP, backs, PV.isCont, Op.makes, x_for, itemsOf, dRev, e]
end K01
end
section
set_option linter.all false
set_option maxRecDepth 100000
namespace K01
open Tl
abbrev claimV : PV := .tup [.tup [.str [97], .str [98]], .tup [.str [105, 115], .str [120]]]
abbrev otherV : PV := .tup [.tup [.str [97]], .tup [.str [102, 105, 108, 101], .str [102, 111, 108, 100, 101, 114]]]
abbrev dSt (sc kk : Slot) (tr la : List PV) (s : PV) (vs : List PV) (t8 t9 t10 t11 : Slot) : Env :=
  [sc, kk, some (true, s), some (false, .tup tr), some (false, .tup la), some (false, claimV), some (false, otherV), some (true, .lst vs), t8, t9, t10, t11, none, none, none, none]
theorem four_of {tr la : List PV} (htr : okm 4 (.tup tr) = true) (hla : okm 4 (.tup la) = true) {v : PV} (h : v ∈ [PV.tup tr, .tup la, claimV, otherV]) : ∃ zs, v = .tup zs ∧ zs.length ≤ 4 ∧ ∀ z ∈ zs, okm 4 z = true := by
  simp only [List.mem_cons, List.not_mem_nil, or_false] at h
  rcases h with rfl | rfl | rfl | rfl
  · exact ⟨_, rfl, okm_tup.mp htr⟩
  · exact ⟨_, rfl, okm_tup.mp hla⟩
  · exact ⟨_, rfl, okm_tup.mp (by decide)⟩
  · exact ⟨_, rfl, okm_tup.mp (by decide)⟩
set_option maxHeartbeats 8000000 in
theorem draw_step (sc kk : Slot) {tr la : List PV} (htr : okm 4 (.tup tr) = true) (hla : okm 4 (.tup la) = true) {s : PV} (hs : Src s) {vs : List PV} (hl : vs.length < 100) (hv : ∀ v ∈ vs, okm 60 v = true) (t8 t9 t10 t11 : Slot) :
    ∃ s' vs' t9' t10', exe (callN T 60) [] F39b0 (dSt sc kk tr la s vs t8 t9 t10 t11) = some (.val .nx, dSt sc kk tr la s' vs' t8 t9' t10' t11) ∧ Src s' ∧ vs'.length ≤ vs.length + 2 ∧ ∀ v ∈ vs', okm 60 v = true := by
  obtain ⟨v, s1, e1, hs1, hin⟩ := e_chosen 58 hs (xs := [.tup tr, .tup la, claimV, otherV]) (by simp) (by simp)
  obtain ⟨zs, rfl, hz1, hz2⟩ := four_of htr hla hin
  obtain ⟨odd, fb, s2, e2, hs2, ho⟩ := e_variant 4 49 4 zs hs1 (Nat.le_refl _) (by omega) hz1 hz2
  have e1 : callN T 60 22 _ = _ := e1
  have e2 : callN T 60 26 [s1, .tup zs, .int 4] = _ := e2
  have b1 : vs.length < big := by unfold big; omega
  have b2 : vs.length + 1 < big := by unfold big; omega
  have ho60 := okm_mono (show 3 * 4 ≤ 60 by omega) odd ho
  by_cases hT : ∃ ys, odd = .tup ys
  · obtain ⟨ys, rfl⟩ := hT
    obtain ⟨hy1, hy2⟩ := okm_tup.mp ho
    obtain ⟨r, s3, e3, hs3, r0, r1⟩ := e_pick 59 hs2 (m := 3) (by omega) (by omega)
    have e3 : callN T 60 21 [s2, .int 3] = _ := e3
    by_cases c0 : r = 0
    · subst c0
      obtain ⟨w, fw, s4, e4, hs4, hw⟩ := e_variant 4 49 12 ys hs3 (by omega) (by omega) hy1 hy2
      have e4 : callN T 60 26 [s3, .tup ys, .int 4] = _ := e4
      refine ⟨s4, vs ++ [.tup ys] ++ [w], some (false, .tup zs), some (false, .tup ys), ?_, hs4, by simp, okm_app (okm_app hv ho60) (okm_mono (by omega) w hw)⟩
      cases fb <;> simp [F39b0, runFn, entry, lentIx, x_seq, x_ite, x_ret, x_skip, x_set, x_raise, x_ex, d_var, d_lit, d_or, d_not, d_and, d_ite, d_chain, d_op, d_seq, d_call, denL, denV, denB, looked, lent, places, nodupB, back, bind_val, mv, opDen, noneIn, wipeP, keepP, backs, PV.isCont, Op.makes, x_app, lstAt, e1, e2, e3, e4, b1, b2, dIsTup, dEq, PV.cmpb, PV.flat, PV.flatL, PV.dep, PV.depL, PV.eq]
    · refine ⟨s3, vs ++ [.tup ys], some (false, .tup zs), some (false, .tup ys), ?_, hs3, by simp, okm_app hv ho60⟩
      cases fb <;> simp [F39b0, runFn, entry, lentIx, x_seq, x_ite, x_ret, x_skip, x_set, x_raise, x_ex, d_var, d_lit, d_or, d_not, d_and, d_ite, d_chain, d_op, d_seq, d_call, denL, denV, denB, looked, lent, places, nodupB, back, bind_val, mv, opDen, noneIn, wipeP, keepP, backs, PV.isCont, Op.makes, x_app, lstAt, e1, e2, e3, b1, dIsTup, dEq, PV.cmpb, PV.flat, PV.flatL, PV.dep, PV.depL, PV.eq, beq_no c0]
  · have hT2 : dIsTup [odd] = some (.bl false) := by
      cases odd with
      | tup ys => exact absurd ⟨ys, rfl⟩ hT
      | _ => rfl
    refine ⟨s2, vs ++ [odd], some (false, .tup zs), some (false, odd), ?_, hs2, by simp, okm_app hv ho60⟩
    cases fb <;> simp [F39b0, runFn, entry, lentIx, x_seq, x_ite, x_ret, x_skip, x_set, x_raise, x_ex, d_var, d_lit, d_or, d_not, d_and, d_ite, d_chain, d_op, d_seq, d_call, denL, denV, denB, looked, lent, places, nodupB, back, bind_val, mv, opDen, noneIn, wipeP, keepP, backs, PV.isCont, Op.makes, x_app, lstAt, e1, e2, b1, hT2]
end K01
end
section
set_option linter.all false
set_option maxRecDepth 100000
namespace K01
open Tl
theorem x_seq_nx {Φ : Fun} {fx : List Nat} {a b : S} {ρ ρ1 : Env} (h : exe Φ fx a ρ = some (.val .nx, ρ1)) : exe Φ fx (.seq a b) ρ = exe Φ fx b ρ1 := by
  rw [x_seq, h]; rfl
theorem span (lo hi n : Nat) : ∃ m q : Nat, q ≤ max lo hi ∧ dMin2 [.int hi, .int n] = some (.int m) ∧ dMax2 [.int lo, .int m] = some (.int q) := by
  obtain ⟨m, h1, h2⟩ : ∃ m : Nat, m ≤ hi ∧ dMin2 [.int hi, .int n] = some (.int m) := by
    by_cases h : (n : Int) < hi
    · exact ⟨n, by omega, by simp only [dMin2]; rw [if_pos h]⟩
    · exact ⟨hi, by omega, by simp only [dMin2]; rw [if_neg h]⟩
  by_cases h : (lo : Int) < m
  · exact ⟨m, m, by omega, h2, by simp only [dMax2]; rw [if_pos h]⟩
  · exact ⟨m, lo, by omega, h2, by simp only [dMax2]; rw [if_neg h]⟩
theorem mem_rng : ∀ {n k : Nat} {x : PV}, x ∈ rangeP (k : Int) n → ∃ j : Nat, x = .int j
  | 0, _, _, h => by cases h
  | n + 1, k, x, h => by
    unfold rangeP at h
    rcases List.mem_cons.mp h with rfl | h
    · exact ⟨k, rfl⟩
    · exact mem_rng (n := n) (k := k + 1) (by rw [Int.natCast_add]; exact h)
abbrev v9 (tr la : List PV) : List PV := [.tup tr, .tup la, claimV, .lst tr, .lst la, .tup [.str [97], .str [97], .str [97], .str [97], .str [97], .str [97]], .tup [.str [97], .str [97], .str [97], .str [97], .str [97], .str [97], .str [97]], .tup [], .non]
abbrev vAll (tr : List PV) (b : Bool) (la : List PV) : List PV := v9 tr [.bl b, .tup la] ++ [.str [97], .tup [.str [97], .str [98]], .tup la]
def R2 (sc : Slot) (ρ : Env) : Prop := ∃ t1 t2 t3 t4 t5 t6 t7 t8 t9 t10 t11 : Slot, ρ = [sc, t1, t2, t3, t4, t5, t6, t7, t8, t9, t10, t11, none, none, none, none]
theorem draws (sc kk : Slot) {tr la : List PV} (htr : okm 4 (.tup tr) = true) (hla : okm 4 (.tup la) = true) {s : PV} (hs : Src s) {vs : List PV} (hl : vs.length ≤ 12) (hv : ∀ v ∈ vs, okm 60 v = true) (u8 u9 u10 u11 : Slot) :
    ∃ s' vs' t8 t9 t10, forLoop (fun ρ => exe (callN T 60) [] F39b0 ρ) [8] (rangeP 0 30) (dSt sc kk tr la s vs u8 u9 u10 u11) = some (.val .nx, dSt sc kk tr la s' vs' t8 t9 t10 u11) ∧ Src s' ∧ vs'.length ≤ 72 ∧ ∀ v ∈ vs', okm 60 v = true := by
  obtain ⟨ρ', h1, s', vs', t8, t9, t10, rfl, h2, h3, h4⟩ := forLoop_pre (f := fun ρ => exe (callN T 60) [] F39b0 ρ) (tg := [8])
    (fun pre ρ => ∃ s' vs' t8 t9 t10, ρ = dSt sc kk tr la s' vs' t8 t9 t10 u11 ∧ Src s' ∧ vs'.length ≤ 12 + 2 * pre.length ∧ ∀ v ∈ vs', okm 60 v = true) (rangeP 0 30) (xs := rangeP 0 30) (done := [])
    (ρ := dSt sc kk tr la s vs u8 u9 u10 u11) rfl ⟨s, vs, u8, u9, u10, rfl, hs, by simpa using hl, hv⟩ fun pre x post ρ he ⟨s', vs', t8, t9, t10, e, h2, h3, h4⟩ => by
      subst e
      have hp := pre_len (k := 30) rfl he
      obtain ⟨s2, vs2, t9', t10', g1, g2, g3, g4⟩ := draw_step sc kk htr hla h2 (vs := vs') (by omega) h4 (some (false, x)) t9 t10 u11
      exact ⟨_, _, rfl, g1, s2, vs2, _, _, _, rfl, g2, by simp; omega, g4⟩
  refine ⟨s', vs', t8, t9, t10, h1, h2, ?_, h4⟩
  have : (rangeP 0 30).length = 30 := rfl
  omega
theorem told_loop (ρr : List Slot) : ∀ {xs : List PV} (t : Slot) (a0 a1 a2 a3 a4 a5 a6 a7 a8 a9 a10 : Slot), (∀ v ∈ xs, okm 60 v = true) → ∃ t', forLoop (fun ρ => exe (callN T 60) [] F39b1 ρ) [11] xs [a0, a1, a2, a3, a4, a5, a6, a7, a8, a9, a10, t, none, none, none, none] = some (.val .nx, [a0, a1, a2, a3, a4, a5, a6, a7, a8, a9, a10, t', none, none, none, none])
  | [], t, _, _, _, _, _, _, _, _, _, _, _, _ => ⟨t, by unfold forLoop; rfl⟩
  | x :: xs, t, a0, a1, a2, a3, a4, a5, a6, a7, a8, a9, a10, h => by
    obtain ⟨t', e⟩ := told_loop ρr (xs := xs) (some (false, x)) a0 a1 a2 a3 a4 a5 a6 a7 a8 a9 a10 fun y hy => h y (by simp [hy])
    refine ⟨t', ?_⟩
    have e1 : callN T 60 38 [x] = _ := e_told 43 x (ok_of x (h x (by simp)))
    unfold forLoop
    rw [show bindT [11] x [a0, a1, a2, a3, a4, a5, a6, a7, a8, a9, a10, t, none, none, none, none] = some [a0, a1, a2, a3, a4, a5, a6, a7, a8, a9, a10, some (false, x), none, none, none, none] from rfl]
    have hb : exe (callN T 60) [] F39b1 [a0, a1, a2, a3, a4, a5, a6, a7, a8, a9, a10, some (false, x), none, none, none, none] = some (.val .nx, [a0, a1, a2, a3, a4, a5, a6, a7, a8, a9, a10, some (false, x), none, none, none, none]) := by
      simp [F39b1, runFn, entry, lentIx, x_seq, x_ite, x_ret, x_skip, x_set, x_raise, x_ex, d_var, d_lit, d_or, d_not, d_and, d_ite, d_chain, d_op, d_seq, d_call, denL, denV, denB, looked, lent, places, nodupB, back, bind_val, mv, opDen, noneIn, wipeP, keepP, backs, PV.isCont, Op.makes, e1]
    simp only [hb, bind_val, e]
theorem all_ok {tr la : List PV} {b : Bool} (htr : okm 4 (.tup tr) = true) (hla : ∀ x ∈ la, okm 4 x = true) (hll : la.length ≤ 3) : ∀ v ∈ vAll tr b la, okm 60 v = true := by
  have hA : okm 4 (.tup [.bl b, .tup la]) = true := lay_ok hll hla
  have up : ∀ v, okm 4 v = true → okm 60 v = true := fun v h => okm_mono (by omega) v h
  have hlt : okm 60 (.lst tr) = true := by
    obtain ⟨h1, h2⟩ := okm_tup.mp htr
    exact okm_lst.mpr ⟨by omega, fun x hx => up x (h2 x hx)⟩
  have hlA : okm 60 (.lst [.bl b, .tup la]) = true := by
    obtain ⟨h1, h2⟩ := okm_tup.mp hA
    exact okm_lst.mpr ⟨by simp, fun x hx => up x (h2 x hx)⟩
  have hla' : okm 60 (.tup la) = true := okm_tup.mpr ⟨by omega, fun x hx => up x (hla x hx)⟩
  intro v hv
  simp only [vAll, v9, List.cons_append, List.nil_append, List.mem_cons, List.not_mem_nil, or_false] at hv
  rcases hv with rfl | rfl | rfl | rfl | rfl | rfl | rfl | rfl | rfl | rfl | rfl | rfl
  · exact up _ htr
  · exact up _ hA
  · decide
  · exact hlt
  · exact hlA
  · decide
  · decide
  · decide
  · decide
  · decide
  · decide
  · exact hla'
set_option maxHeartbeats 8000000 in
theorem turn (ns : List Int) (k : Nat) {ρ : Env} (h : R2 (some (false, .scr (ns.map .int))) ρ) : ∃ ρ1 ρ2, bindT [1] (.int k) ρ = some ρ1 ∧ exe (callN T 60) [] F39b2 ρ1 = some (.val .nx, ρ2) ∧ R2 (some (false, .scr (ns.map .int))) ρ2 := by
  obtain ⟨t1, t2, t3, t4, t5, t6, t7, t8, t9, t10, t11, rfl⟩ := h
  obtain ⟨s0, e0, hs0⟩ := e_source 59 k ns
  obtain ⟨tr, s1, e1, hs1, _, htl, hto⟩ := e_tree 50 hs0
  obtain ⟨b, la, s2, e2, hs2, _, hll, hlo⟩ := e_layer 52 hs1
  have e0 : callN T 60 20 _ = _ := e0
  have e1 : callN T 60 34 _ = _ := e1
  have e2 : callN T 60 32 _ = _ := e2
  have htr : okm 4 (.tup tr) = true := okm_tup.mpr ⟨htl, hto⟩
  have hla : okm 4 (.tup [.bl b, .tup la]) = true := lay_ok hll hlo
  obtain ⟨s3, vs, u8, u9, u10, e3, hs3, hvl, hv⟩ := draws (some (false, .scr (ns.map .int))) (some (false, .int k)) htr hla hs2 (vs := vAll tr b la) (by simp) (all_ok htr hlo hll) t8 t9 t10 t11
  obtain ⟨w, fw, s4, e4, hs4, hw⟩ := e_any 3 54 hs3
  have e4 : callN T 60 25 [s3, .int 3] = _ := e4
  obtain ⟨t', e5⟩ := told_loop [] (xs := vs ++ [w]) t11 (some (false, .scr (ns.map .int))) (some (false, .int k)) (some (true, s4)) (some (false, .tup tr)) (some (false, .tup [.bl b, .tup la])) (some (false, claimV)) (some (false, otherV)) (some (true, .lst vs)) u8 u9 u10 (okm_app hv (okm_mono (by omega) w hw))
  have m6 : dMul [.tup [.str [97]], .int 6] = some (.tup [.str [97], .str [97], .str [97], .str [97], .str [97], .str [97]]) := rfl
  have m7 : dMul [.tup [.str [97]], .int 7] = some (.tup [.str [97], .str [97], .str [97], .str [97], .str [97], .str [97], .str [97]]) := rfl
  have a1 : dAdd [.lst (v9 tr [.bl b, .tup la]), .lst [.str [97], .tup [.str [97], .str [98]], .tup la]] = some (.lst (vAll tr b la)) := rfl
  have a2 : dAdd [.lst vs, .lst [w]] = some (.lst (vs ++ [w])) := by
    show (if vs.length + 1 ≤ big then _ else _) = _
    rw [if_pos (by unfold big; omega)]
  have r30 : dRng1 [.int 30] = some (.lst (rangeP 0 30)) := dRng1_nat (q := 30) (by omega)
  generalize hV : vAll tr b la = V at a1 e3
  generalize rangeP 0 30 = L30 at r30 e3
  refine ⟨_, [some (false, .scr (ns.map .int)), some (false, .int k), some (true, s4), some (false, .tup tr), some (false, .tup [.bl b, .tup la]), some (false, claimV), some (false, otherV), some (true, .lst vs), u8, u9, u10, t', none, none, none, none], rfl, ?_, _, _, _, _, _, _, _, _, _, _, _, rfl⟩
  unfold F39b2
  refine (x_seq_nx (ρ1 := [some (false, .scr (ns.map .int)), some (false, .int k), some (true, s0), t3, t4, t5, t6, t7, t8, t9, t10, t11, none, none, none, none]) ?_).trans ?_
  · simp [runFn, entry, lentIx, x_seq, x_ite, x_ret, x_skip, x_set, x_raise, x_ex, d_var, d_lit, d_or, d_not, d_and, d_ite, d_chain, d_op, d_seq, d_call, denL, denV, denB, looked, lent, places, nodupB, back, bind_val, mv, opDen, noneIn, wipeP, keepP, backs, PV.isCont, Op.makes, e0]
  refine (x_seq_nx (ρ1 := [some (false, .scr (ns.map .int)), some (false, .int k), some (true, s2), some (false, .tup tr), some (false, .tup [.bl b, .tup la]), t5, t6, t7, t8, t9, t10, t11, none, none, none, none]) ?_).trans ?_
  · simp [runFn, entry, lentIx, x_seq, x_ite, x_ret, x_skip, x_set, x_raise, x_ex, d_var, d_lit, d_or, d_not, d_and, d_ite, d_chain, d_op, d_seq, d_call, denL, denV, denB, looked, lent, places, nodupB, back, bind_val, mv, opDen, noneIn, wipeP, keepP, backs, PV.isCont, Op.makes, x_par, denF, setAll, e1, e2]
  refine (x_seq_nx (ρ1 := [some (false, .scr (ns.map .int)), some (false, .int k), some (true, s2), some (false, .tup tr), some (false, .tup [.bl b, .tup la]), some (false, claimV), some (false, otherV), t7, t8, t9, t10, t11, none, none, none, none]) ?_).trans ?_
  · simp [runFn, entry, lentIx, x_seq, x_ite, x_ret, x_skip, x_set, x_raise, x_ex, d_var, d_lit, d_or, d_not, d_and, d_ite, d_chain, d_op, d_seq, d_call, denL, denV, denB, looked, lent, places, nodupB, back, bind_val, mv, opDen, noneIn, wipeP, keepP, backs, PV.isCont, Op.makes, x_setT, bindT, allIn]
  refine (x_seq_nx (ρ1 := [some (false, .scr (ns.map .int)), some (false, .int k), some (true, s2), some (false, .tup tr), some (false, .tup [.bl b, .tup la]), some (false, claimV), some (false, otherV), some (true, .lst (v9 tr [.bl b, .tup la])), t8, t9, t10, t11, none, none, none, none]) ?_).trans ?_
  · simp [runFn, entry, lentIx, x_seq, x_ite, x_ret, x_skip, x_set, x_raise, x_ex, d_var, d_lit, d_or, d_not, d_and, d_ite, d_chain, d_op, d_seq, d_call, denL, denV, denB, looked, lent, places, nodupB, back, bind_val, mv, opDen, noneIn, wipeP, keepP, backs, PV.isCont, Op.makes, dToLst, m6, m7]
  refine (x_seq_nx (ρ1 := [some (false, .scr (ns.map .int)), some (false, .int k), some (true, s2), some (false, .tup tr), some (false, .tup [.bl b, .tup la]), some (false, claimV), some (false, otherV), some (true, .lst V), t8, t9, t10, t11, none, none, none, none]) ?_).trans ?_
  · simp [runFn, entry, lentIx, x_seq, x_ite, x_ret, x_skip, x_set, x_raise, x_ex, d_var, d_lit, d_or, d_not, d_and, d_ite, d_chain, d_op, d_seq, d_call, denL, denV, denB, looked, lent, places, nodupB, back, bind_val, mv, opDen, noneIn, wipeP, keepP, backs, PV.isCont, Op.makes, dIdx, getAt, ixOf, a1]
  refine (x_seq_nx (ρ1 := dSt (some (false, .scr (ns.map .int))) (some (false, .int k)) tr [.bl b, .tup la] s3 vs u8 u9 u10 t11) ?_).trans ?_
  · simp [runFn, entry, lentIx, x_seq, x_ite, x_ret, x_skip, x_set, x_raise, x_ex, d_var, d_lit, d_or, d_not, d_and, d_ite, d_chain, d_op, d_seq, d_call, denL, denV, denB, looked, lent, places, nodupB, back, bind_val, mv, opDen, noneIn, wipeP, keepP, backs, PV.isCont, Op.makes, x_for, itemsOf, r30, e3]
  · simp [runFn, entry, lentIx, x_seq, x_ite, x_ret, x_skip, x_set, x_raise, x_ex, d_var, d_lit, d_or, d_not, d_and, d_ite, d_chain, d_op, d_seq, d_call, denL, denV, denB, looked, lent, places, nodupB, back, bind_val, mv, opDen, noneIn, wipeP, keepP, backs, PV.isCont, Op.makes, x_for, itemsOf, e4, a2, e5]
end K01
end
section
set_option linter.all false
set_option maxRecDepth 100000
namespace K01
open Tl
def manyL : List PV := ([97, 98, 99, 100, 101, 102, 103, 104, 105, 106, 107, 108, 109, 110, 111, 112, 113] : List Nat).map fun c => .tup [.str [97, c], .str [120]]
def d0 : PV := .tup [.bl false, .tup []]
def wrp (v : PV) : PV := .tup [.bl false, .tup [.tup [.str [97], v]]]
def deepL : List PV := [d0, wrp d0, wrp (wrp d0), wrp (wrp (wrp d0)), wrp (wrp (wrp (wrp d0)))]
def as5 : List PV := [.str [97], .str [97], .str [97], .str [97], .str [97]]
def as6 : List PV := [.str [97], .str [97], .str [97], .str [97], .str [97], .str [97]]
def chn (ps : List PV) (v : PV) : PV := ps.reverse.foldl (fun v x => .tup [.tup [x, v]]) v
def rowsA : List PV := deepL ++ [.tup [.bl false, .tup manyL], .tup [.bl false, .tup (manyL.tail)], .tup [.bl true, .tup [.tup [.str [98], .non], .tup [.str [97], .non]]]]
def rowsB : List PV := rowsA ++ [.tup [.int 0, .tup []], .tup [.bl false, .tup [.tup [.str [97, 98, 49], .non]]], .tup [.tup [.str [97], .str [120, 120, 120, 120, 120, 120, 120, 120, 120]]], .tup [.tup [.str [97], .str [120, 120, 120, 120, 120, 120, 120, 120]]]]
def rowsC : List PV := rowsB ++ [.tup [.tup [.str [97], .tup []], .tup [.str [97], .tup []]], .tup [.tup [.str [113], .tup [.tup [.str [98], .tup manyL], .tup [.str [99], .tup manyL]]]]]
def rowsD : List PV := rowsC ++ [.tup [.bl false, .tup [.tup [.str [97], .tup [.bl false, .tup (manyL.take 8)]], .tup [.str [98], .tup [.bl true, .tup (manyL.take 7)]]]]]
def rowsE : List PV := rowsD ++ [.tup [.tup [.str [113], .tup [.tup [.str [98], .tup manyL], .tup [.str [99], .tup manyL], .tup [.str [100], .tup (manyL.take 3)]]]], chn as5 (.tup [])]
def rowsF : List PV := rowsE ++ [chn as6 (.tup []), chn as6 (.str [120]), .tup [.tup as5, .tup [.str [102, 105, 108, 101]]]]
def rowsG : List PV := rowsF ++ [.tup [.tup [.str [97]], .tup [.str [102, 111, 108, 100, 101, 114], .str [102, 105, 108, 101]]], .tup [.tup [.str [97]], .tup [.str [105, 115]]], .tup [.tup [.str [97]], .tup [.str [105, 115], .str [102, 105, 108, 101]]]]
theorem rowsG_ok : ∀ v ∈ rowsG, ok v = true := by
  have : rowsG.all ok = true := by decide +kernel
  exact fun v hv => List.all_eq_true.mp this v hv
theorem rowsG_len : rowsG.length ≤ 60 := by decide +kernel
theorem c_many (Φ : Fun) (ρ : Env) (h : 13 < ρ.length) (hn : ρ[13]? = some none) : den Φ F39c0 ρ = some (.val (.lst manyL, true), ρ) := by
  have hw : wipeP ρ [13] = ρ := by
    show ρ.set 13 none = ρ
    refine List.ext_getElem? fun j => ?_
    by_cases hj : 13 = j
    · subst hj; rw [List.getElem?_set_self h, hn]
    · rw [List.getElem?_set_ne hj]
  have hk : keepP ρ ρ [13] = ρ := by
    show ρ.set 13 (ρ[13]?.getD none) = ρ
    rw [hn]; exact hw
  refine (den_mapP (v := .str [97, 98, 99, 100, 101, 102, 103, 104, 105, 106, 107, 108, 109, 110, 111, 112, 113]) (b := false) (ρ1 := ρ) (fun v => match v with | .str [c] => .tup [.str [97, c], .str [120]] | _ => .non) (by simp [d_lit]) rfl (by decide) fun y hy => ?_).trans (by rw [hw, hk]; rfl)
  obtain ⟨c, _, rfl⟩ := List.mem_map.mp hy
  rw [hw]
  refine ⟨ρ.set 13 (some (false, .str [c])), ?_, ?_, false, ?_⟩
  · simp [bindT, allIn, h]
  · show (ρ.set 13 _).set 13 none = ρ
    rw [List.set_set]; exact hw
  · have e : (ρ.set 13 (some (false, .str [c])))[13]? = some (some (false, .str [c])) := List.getElem?_set_self h
    simp [F39e0, runFn, entry, lentIx, x_seq, x_ite, x_ret, x_skip, x_set, x_raise, x_ex, d_var, d_lit, d_or, d_not, d_and, d_ite, d_chain, d_op, d_seq, d_call, denL, denV, denB, looked, lent, places, nodupB, back, bind_val, mv, opDen, noneIn, wipeP, keepP, backs, PV.isCont, Op.makes, e, dAdd, big]
theorem c_odd (Φ : Fun) (hΦ : ∀ v, ok v = true → Φ 38 [v] = some (.val (.bl true, false), [])) (t0 t1 t2 t3 t4 t5 t6 t7 t8 t9 t10 t11 t12 t13 t14 : Slot) :
    den Φ F39c1 [t0, t1, t2, t3, t4, t5, t6, t7, t8, t9, t10, t11, t12, t13, t14, some (true, .lst rowsG)] = some (.val (.lst [], true), [t0, t1, t2, t3, t4, t5, t6, t7, t8, t9, t10, t11, t12, t13, t14, some (false, .lst rowsG)]) := by
  refine (den_compP (v := .lst rowsG) (b := false) (ρ1 := [t0, t1, t2, t3, t4, t5, t6, t7, t8, t9, t10, t11, t12, t13, t14, some (false, .lst rowsG)]) (fun _ => false) (fun v => v) (by simp [d_var]) rfl (big60 rowsG_len) fun y hy => ?_).trans ?_
  rotate_left
  · rw [show rowsG.filter (fun _ => false) = [] from List.filter_eq_nil_iff.mpr fun _ _ => by simp]; rfl
  · refine ⟨_, rfl, rfl, ?_, ?_⟩
    · have e := hΦ y (rowsG_ok y hy)
      simp [F39t0, runFn, entry, lentIx, x_seq, x_ite, x_ret, x_skip, x_set, x_raise, x_ex, d_var, d_lit, d_or, d_not, d_and, d_ite, d_chain, d_op, d_seq, d_call, denL, denV, denB, looked, lent, places, nodupB, back, bind_val, mv, opDen, noneIn, wipeP, keepP, backs, PV.isCont, Op.makes, e]
    · simp [F39e1, runFn, entry, lentIx, x_seq, x_ite, x_ret, x_skip, x_set, x_raise, x_ex, d_var, d_lit, d_or, d_not, d_and, d_ite, d_chain, d_op, d_seq, d_call, denL, denV, denB, looked, lent, places, nodupB, back, bind_val, mv, opDen, noneIn, wipeP, keepP, backs, PV.isCont, Op.makes]
theorem runFn_ret {Φ : Fun} {fn : Fn} {vs : List PV} {v : PV} {f : Bool} {ρ : Env} (h0 : lentIx 0 fn.lent = []) (h1 : vs.length = fn.lent.length ∧ vs.length ≤ fn.names) (h2 : exe Φ [] fn.body (entry fn vs) = some (.val (.rt v f), ρ)) : runFn Φ fn vs = some (.val (v, f), []) := by
  unfold runFn
  rw [if_pos h1, h0, h2]
  rfl
set_option maxHeartbeats 8000000 in
theorem tail_body (Φ : Fun) (hΦ : ∀ v, ok v = true → Φ 38 [v] = some (.val (.bl true, false), [])) (hC : ∀ ps v, Φ 35 [.tup ps, v] = some (.val (chn ps v, false), []))
    (sc t1 t2 t3 t4 t5 t6 t7 t8 t9 t10 t11 : Slot) (L : C) (hL : exe Φ [] (.for [1] L F39b2) [sc, none, none, none, none, none, none, none, none, none, none, none, none, none, none, none] = some (.val .nx, [sc, t1, t2, t3, t4, t5, t6, t7, t8, t9, t10, t11, none, none, none, none]))
    (hB : ∃ r, F39.body = .seq (.for [1] L F39b2) r) : ∃ ρ, exe Φ [] F39.body [sc, none, none, none, none, none, none, none, none, none, none, none, none, none, none, none] = some (.val (.rt (.bl true) false), ρ) := by
  obtain ⟨r, hB⟩ := hB
  have hr := hB
  rw [hB]
  unfold F39 at hr
  dsimp only at hr
  injection hr with _ hr
  subst hr
  rw [x_seq_nx hL]
  have m5 : dMul [.tup [.str [97]], .int 5] = some (.tup as5) := rfl
  have m6 : dMul [.tup [.str [97]], .int 6] = some (.tup as6) := rfl
  have m8 : dMul [.str [120], .int 8] = some (.str [120, 120, 120, 120, 120, 120, 120, 120]) := rfl
  have m9 : dMul [.str [120], .int 9] = some (.str [120, 120, 120, 120, 120, 120, 120, 120, 120]) := rfl
  have s1 : dSl true false [.tup manyL, .int 1] = some (.tup (manyL.tail)) := rfl
  have s3 : dSl false true [.tup manyL, .int 3] = some (.tup (manyL.take 3)) := rfl
  have s7 : dSl false true [.tup manyL, .int 7] = some (.tup (manyL.take 7)) := rfl
  have s8 : dSl false true [.tup manyL, .int 8] = some (.tup (manyL.take 8)) := rfl
  have pA : dAdd [.lst deepL, .lst [.tup [.bl false, .tup manyL], .tup [.bl false, .tup (manyL.tail)], .tup [.bl true, .tup [.tup [.str [98], .non], .tup [.str [97], .non]]]]] = some (.lst rowsA) := rfl
  have pB : dAdd [.lst rowsA, .lst [.tup [.int 0, .tup []], .tup [.bl false, .tup [.tup [.str [97, 98, 49], .non]]], .tup [.tup [.str [97], .str [120, 120, 120, 120, 120, 120, 120, 120, 120]]], .tup [.tup [.str [97], .str [120, 120, 120, 120, 120, 120, 120, 120]]]]] = some (.lst rowsB) := rfl
  have pC : dAdd [.lst rowsB, .lst [.tup [.tup [.str [97], .tup []], .tup [.str [97], .tup []]], .tup [.tup [.str [113], .tup [.tup [.str [98], .tup manyL], .tup [.str [99], .tup manyL]]]]]] = some (.lst rowsC) := rfl
  have bD : rowsC.length < big := by decide +kernel
  have pE : dAdd [.lst rowsD, .lst [.tup [.tup [.str [113], .tup [.tup [.str [98], .tup manyL], .tup [.str [99], .tup manyL], .tup [.str [100], .tup (manyL.take 3)]]]], chn as5 (.tup [])]] = some (.lst rowsE) := rfl
  have pF : dAdd [.lst rowsE, .lst [chn as6 (.tup []), chn as6 (.str [120]), .tup [.tup as5, .tup [.str [102, 105, 108, 101]]]]] = some (.lst rowsF) := rfl
  have pG : dAdd [.lst rowsF, .lst [.tup [.tup [.str [97]], .tup [.str [102, 111, 108, 100, 101, 114], .str [102, 105, 108, 101]]], .tup [.tup [.str [97]], .tup [.str [105, 115]]], .tup [.tup [.str [97]], .tup [.str [105, 115], .str [102, 105, 108, 101]]]]] = some (.lst rowsG) := rfl
  have r4 : dRng1 [.int 4] = some (.lst [.int 0, .int 1, .int 2, .int 3]) := rfl
  have hz := c_odd Φ hΦ sc t1 t2 t3 t4 t5 t6 t7 (some (false, .int 3)) t9 t10 t11 (some (false, .tup manyL)) none (some (true, .lst deepL))
  refine ⟨[sc, t1, t2, t3, t4, t5, t6, t7, some (false, .int 3), t9, t10, t11, some (false, .tup manyL), none, some (true, .lst deepL), some (false, .lst rowsG)], ?_⟩
  refine (x_seq_nx (ρ1 := [sc, t1, t2, t3, t4, t5, t6, t7, t8, t9, t10, t11, some (false, .tup manyL), none, none, none]) ?_).trans ?_
  · have hc := c_many Φ [sc, t1, t2, t3, t4, t5, t6, t7, t8, t9, t10, t11, none, none, none, none] (by simp) rfl
    simp [runFn, entry, lentIx, x_seq, x_ite, x_ret, x_skip, x_set, x_raise, x_ex, d_var, d_lit, d_or, d_not, d_and, d_ite, d_chain, d_op, d_seq, d_call, denL, denV, denB, looked, lent, places, nodupB, back, bind_val, mv, opDen, noneIn, wipeP, keepP, backs, PV.isCont, Op.makes, hc, dToTup]
  refine (x_seq_nx (ρ1 := [sc, t1, t2, t3, t4, t5, t6, t7, t8, t9, t10, t11, some (false, .tup manyL), none, some (true, .lst [d0]), none]) ?_).trans ?_
  · simp [runFn, entry, lentIx, x_seq, x_ite, x_ret, x_skip, x_set, x_raise, x_ex, d_var, d_lit, d_or, d_not, d_and, d_ite, d_chain, d_op, d_seq, d_call, denL, denV, denB, looked, lent, places, nodupB, back, bind_val, mv, opDen, noneIn, wipeP, keepP, backs, PV.isCont, Op.makes, d0]
  refine (x_seq_nx (ρ1 := [sc, t1, t2, t3, t4, t5, t6, t7, some (false, .int 3), t9, t10, t11, some (false, .tup manyL), none, some (true, .lst deepL), none]) ?_).trans ?_
  · have hb : ∀ (t8 : Slot) (xs : List PV) (v : PV), xs.length < 10 → dIdx [.lst (xs ++ [v]), .int (-1)] = some v → exe Φ [] F39b3 [sc, t1, t2, t3, t4, t5, t6, t7, t8, t9, t10, t11, some (false, .tup manyL), none, some (true, .lst (xs ++ [v])), none] = some (.val .nx, [sc, t1, t2, t3, t4, t5, t6, t7, t8, t9, t10, t11, some (false, .tup manyL), none, some (true, .lst (xs ++ [v] ++ [wrp v])), none]) := fun t8 xs v hl hi => by
      have hbig : xs.length + 1 < big := by unfold big; omega
      simp [F39b3, runFn, entry, lentIx, x_seq, x_ite, x_ret, x_skip, x_set, x_raise, x_ex, d_var, d_lit, d_or, d_not, d_and, d_ite, d_chain, d_op, d_seq, d_call, denL, denV, denB, looked, lent, places, nodupB, back, bind_val, mv, opDen, noneIn, wipeP, keepP, backs, PV.isCont, Op.makes, x_app, lstAt, dNeg, hi, hbig, wrp]
    have h0 := hb (some (false, .int 0)) [] d0 (by simp) rfl
    have h1 := hb (some (false, .int 1)) [d0] (wrp d0) (by simp) rfl
    have h2 := hb (some (false, .int 2)) [d0, wrp d0] (wrp (wrp d0)) (by simp) rfl
    have h3 := hb (some (false, .int 3)) [d0, wrp d0, wrp (wrp d0)] (wrp (wrp (wrp d0))) (by simp) rfl
    simp only [List.nil_append, List.cons_append] at h0 h1 h2 h3
    rw [x_for]
    simp [runFn, entry, lentIx, x_seq, x_ite, x_ret, x_skip, x_set, x_raise, x_ex, d_var, d_lit, d_or, d_not, d_and, d_ite, d_chain, d_op, d_seq, d_call, denL, denV, denB, looked, lent, places, nodupB, back, bind_val, mv, opDen, noneIn, wipeP, keepP, backs, PV.isCont, Op.makes, r4, itemsOf, forLoop, bindT, allIn, h0, h1, h2, h3, deepL]
  refine (x_seq_nx (ρ1 := [sc, t1, t2, t3, t4, t5, t6, t7, some (false, .int 3), t9, t10, t11, some (false, .tup manyL), none, some (true, .lst deepL), some (true, .lst rowsA)]) ?_).trans ?_
  · simp [runFn, entry, lentIx, x_seq, x_ite, x_ret, x_skip, x_set, x_raise, x_ex, d_var, d_lit, d_or, d_not, d_and, d_ite, d_chain, d_op, d_seq, d_call, denL, denV, denB, looked, lent, places, nodupB, back, bind_val, mv, opDen, noneIn, wipeP, keepP, backs, PV.isCont, Op.makes, s1, pA]
  refine (x_seq_nx (ρ1 := [sc, t1, t2, t3, t4, t5, t6, t7, some (false, .int 3), t9, t10, t11, some (false, .tup manyL), none, some (true, .lst deepL), some (true, .lst rowsB)]) ?_).trans ?_
  · simp [runFn, entry, lentIx, x_seq, x_ite, x_ret, x_skip, x_set, x_raise, x_ex, d_var, d_lit, d_or, d_not, d_and, d_ite, d_chain, d_op, d_seq, d_call, denL, denV, denB, looked, lent, places, nodupB, back, bind_val, mv, opDen, noneIn, wipeP, keepP, backs, PV.isCont, Op.makes, m8, m9, pB]
  refine (x_seq_nx (ρ1 := [sc, t1, t2, t3, t4, t5, t6, t7, some (false, .int 3), t9, t10, t11, some (false, .tup manyL), none, some (true, .lst deepL), some (true, .lst rowsC)]) ?_).trans ?_
  · simp [runFn, entry, lentIx, x_seq, x_ite, x_ret, x_skip, x_set, x_raise, x_ex, d_var, d_lit, d_or, d_not, d_and, d_ite, d_chain, d_op, d_seq, d_call, denL, denV, denB, looked, lent, places, nodupB, back, bind_val, mv, opDen, noneIn, wipeP, keepP, backs, PV.isCont, Op.makes, pC]
  refine (x_seq_nx (ρ1 := [sc, t1, t2, t3, t4, t5, t6, t7, some (false, .int 3), t9, t10, t11, some (false, .tup manyL), none, some (true, .lst deepL), some (true, .lst rowsD)]) ?_).trans ?_
  · simp [runFn, entry, lentIx, x_seq, x_ite, x_ret, x_skip, x_set, x_raise, x_ex, d_var, d_lit, d_or, d_not, d_and, d_ite, d_chain, d_op, d_seq, d_call, denL, denV, denB, looked, lent, places, nodupB, back, bind_val, mv, opDen, noneIn, wipeP, keepP, backs, PV.isCont, Op.makes, x_app, lstAt, s7, s8, bD, rowsD]
  refine (x_seq_nx (ρ1 := [sc, t1, t2, t3, t4, t5, t6, t7, some (false, .int 3), t9, t10, t11, some (false, .tup manyL), none, some (true, .lst deepL), some (true, .lst rowsE)]) ?_).trans ?_
  · simp [runFn, entry, lentIx, x_seq, x_ite, x_ret, x_skip, x_set, x_raise, x_ex, d_var, d_lit, d_or, d_not, d_and, d_ite, d_chain, d_op, d_seq, d_call, denL, denV, denB, looked, lent, places, nodupB, back, bind_val, mv, opDen, noneIn, wipeP, keepP, backs, PV.isCont, Op.makes, s3, m5, hC, pE]
  refine (x_seq_nx (ρ1 := [sc, t1, t2, t3, t4, t5, t6, t7, some (false, .int 3), t9, t10, t11, some (false, .tup manyL), none, some (true, .lst deepL), some (true, .lst rowsF)]) ?_).trans ?_
  · simp [runFn, entry, lentIx, x_seq, x_ite, x_ret, x_skip, x_set, x_raise, x_ex, d_var, d_lit, d_or, d_not, d_and, d_ite, d_chain, d_op, d_seq, d_call, denL, denV, denB, looked, lent, places, nodupB, back, bind_val, mv, opDen, noneIn, wipeP, keepP, backs, PV.isCont, Op.makes, m5, m6, hC, pF]
  refine (x_seq_nx (ρ1 := [sc, t1, t2, t3, t4, t5, t6, t7, some (false, .int 3), t9, t10, t11, some (false, .tup manyL), none, some (true, .lst deepL), some (true, .lst rowsG)]) ?_).trans ?_
  · simp [runFn, entry, lentIx, x_seq, x_ite, x_ret, x_skip, x_set, x_raise, x_ex, d_var, d_lit, d_or, d_not, d_and, d_ite, d_chain, d_op, d_seq, d_call, denL, denV, denB, looked, lent, places, nodupB, back, bind_val, mv, opDen, noneIn, wipeP, keepP, backs, PV.isCont, Op.makes, pG]
  simp [runFn, entry, lentIx, x_seq, x_ite, x_ret, x_skip, x_set, x_raise, x_ex, d_var, d_lit, d_or, d_not, d_and, d_ite, d_chain, d_op, d_seq, d_call, denL, denV, denB, looked, lent, places, nodupB, back, bind_val, mv, opDen, noneIn, wipeP, keepP, backs, PV.isCont, Op.makes, hz, dEq, PV.cmpb, PV.flat, PV.flatL, PV.dep, PV.depL, PV.eq, PV.eqL]
theorem law_true (ns : List Int) (hns : ns.length ≤ 63) : callN T 61 39 [.scr (ns.map .int)] = some (.val (.bl true, false), []) := by
  obtain ⟨m, q, hq, h1, h2⟩ := span 6 20 ns.length
  have h1 : dMin2 [.int 20, .int ns.length] = some (.int m) := h1
  have h2 : dMax2 [.int 6, .int m] = some (.int q) := h2
  have hr := dRng1_nat (q := q) (by omega)
  obtain ⟨ρ', e, t1, t2, t3, t4, t5, t6, t7, t8, t9, t10, t11, rfl⟩ := forLoop_ok (f := fun ρ => exe (callN T 60) [] F39b2 ρ) (tg := [1]) (fun _ ρ => R2 (some (false, .scr (ns.map .int))) ρ) (xs := rangeP 0 q) (done := [])
    (ρ := [some (false, .scr (ns.map .int)), none, none, none, none, none, none, none, none, none, none, none, none, none, none, none]) ⟨none, none, none, none, none, none, none, none, none, none, none, rfl⟩ fun x pre ρ hR hx => by
      obtain ⟨j, rfl⟩ := mem_rng (k := 0) hx
      exact turn ns j hR
  obtain ⟨ρ, hb⟩ := tail_body (callN T 60) (fun v hv => e_told 43 v hv) (fun ps v => e_chain 59 ps v) (some (false, .scr (ns.map .int))) t1 t2 t3 t4 t5 t6 t7 t8 t9 t10 t11 _
    (by
      rw [x_for]
      rw [show den (callN T 60) (.op .rng1 (.cons (.op .max2 (.cons (.lit (.int 6)) (.cons (.op .min2 (.cons (.lit (.int 20)) (.cons (.op .len (.cons (.var 0) .nil)) .nil))) .nil))) .nil)) [some (false, .scr (ns.map .int)), none, none, none, none, none, none, none, none, none, none, none, none, none, none, none] = some (.val (.lst (rangeP 0 q), true), [some (false, .scr (ns.map .int)), none, none, none, none, none, none, none, none, none, none, none, none, none, none, none]) by
        generalize rangeP 0 q = L at hr
        simp [runFn, entry, lentIx, x_seq, x_ite, x_ret, x_skip, x_set, x_raise, x_ex, d_var, d_lit, d_or, d_not, d_and, d_ite, d_chain, d_op, d_seq, d_call, denL, denV, denB, looked, lent, places, nodupB, back, bind_val, mv, opDen, noneIn, wipeP, keepP, backs, PV.isCont, Op.makes, dLen, h1, h2, hr]]
      simp only [bind_val, itemsOf, noneIn, List.all_cons, List.all_nil, List.contains_nil, Bool.not_false, Bool.and_self, if_true]
      exact e) ⟨_, rfl⟩
  rw [callN_succ (fn := F39) rfl]
  exact runFn_ret rfl ⟨rfl, show 1 ≤ 16 by decide⟩ hb
end K01
end
theorem PySem.Challenge.cw_treelayers_k01_trees_layers_and_claims_r_holds : PySem.Challenge.rw_treelayers_k01_trees_layers_and_claims_r.Holds := by
  exact K01.holds K01.law_true
