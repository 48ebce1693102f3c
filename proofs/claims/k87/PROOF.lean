import PyProof.Rows.All
import Wide.All
import OpenK.AllK
import Wide.FinOn
import HandS.ForMost
import HandS.More
import HandS.Wide
import HandS.Style
import HandS.WordsExc
import HandS.Defaults
import HandS.IsInst
import HandS.HeadHook1
import HandS.HeadHook2
import KE.DataCmp
import KE.SortData
import KE.DataMinMax
import HandS.ExcIs
import HandS.ExcField
import HandS.Head0
import HandS.Head1
import HandS.Head2
import HandS.HeadEnd
import KE.KStateDown
import PySem.Challenge.RW_valleywatch_k87_numbers_of_rows
set_option Elab.async false
set_option linter.all false
/-! VD: what the program's text computes, over plain data: no heap, no machine. -/
namespace VD
open PySem
abbrev Ky := Sum Int Str
/-- data: what a value stands for -/
inductive D where
  | non | bl (b : Bool) | int (i : Int) | str (x : Str)
  | lst (xs : List D) | tup (xs : List D)
  | dic (ks : List Ky) (xs : List D) | dit (ks : List (List Ky)) (xs : List D)
  | obj (c : Str) (ns : List Str) (xs : List D)
  | scr (ns : List Int)
  deriving Inhabited
/-- an outcome: a value, an own exception (its class, its field), or nothing that is told -/
inductive XR (α : Type) where
  | ok (a : α) | ex (c : Str) (x : Option (Str × D)) | bad
def XR.bind {α β : Type} (r : XR α) (f : α → XR β) : XR β := match r with
  | .ok a => f a
  | .ex c x => .ex c x
  | .bad => .bad
theorem XR.bind_ok {α β : Type} {a : α} {f : α → XR β} : (XR.ok a).bind f = f a := rfl
theorem XR.bind_ex {α β : Type} {c : Str} {x : Option (Str × D)} {f : α → XR β} : (XR.ex c x).bind f = .ex c x := rfl
theorem XR.bind_bad {α β : Type} {f : α → XR β} : (XR.bad).bind f = .bad := rfl
/-- what stands in a slot: nothing that is told; the exception that a suite holds; data; a list or dict of the def's own, that may still change -/
inductive B where
  | nil | exo | d (x : D) | own (x : D)
abbrev Env := List B
def frz : B → XR D
  | .nil => .bad
  | .exo => .bad
  | .d x => .ok x
  | .own x => .ok x
theorem frz_d {x : D} : frz (.d x) = .ok x := rfl
theorem frz_own {x : D} : frz (.own x) = .ok x := rfl
/-- a bound on the lengths of lists -/
def LIM : Nat := 100000

/-! ### operations on data -/
def opAdd : D → D → XR B
  | .int i, .int j => .ok (.d (.int (i + j)))
  | .str x, .str y => if x.length + y.length ≤ LIM then .ok (.d (.str (x ++ y))) else .bad
  | .lst xs, .lst ys => if xs.length + ys.length ≤ LIM then .ok (.own (.lst (xs ++ ys))) else .bad
  | _, _ => .bad
def opSub : D → D → XR B
  | .int i, .int j => .ok (.d (.int (i - j)))
  | _, _ => .bad
def mulB (i j : Int) : Bool := decide (i.natAbs < 2 ^ 64) || decide (j.natAbs < 2 ^ 64) || decide (i.natAbs.log2 + j.natAbs.log2 < 1000000)
def opMul : D → D → XR B
  | .int i, .int j => if mulB i j then .ok (.d (.int (i * j))) else .bad
  | .lst xs, .int k => if xs.length * k.toNat ≤ LIM ∧ k.natAbs < 1000000 then .ok (.own (.lst (List.replicate k.toNat xs).flatten)) else .bad
  | _, _ => .bad
def divB (j : Int) : Bool := decide (0 < j ∧ j.natAbs.log2 < 9000)
def opDiv : D → D → XR B
  | .int i, .int j => if divB j then .ok (.d (.int (i / j))) else .bad
  | _, _ => .bad
def opMod : D → D → XR B
  | .int i, .int j => if 0 < j then .ok (.d (.int (i % j))) else .bad
  | _, _ => .bad
def powB (i j : Int) : Bool := decide (0 ≤ j ∧ j.natAbs ≤ 1000000 ∧ i.natAbs < 2 ^ 64)
def opPow : D → D → XR B
  | .int i, .int j => if powB i j then .ok (.d (.int (i ^ j.toNat))) else .bad
  | _, _ => .bad
def opNeg : D → XR B
  | .int i => .ok (.d (.int (-i)))
  | _ => .bad
/-- texts by their signs -/
def sLt (x y : Str) : Bool := decide (x.cps.toList < y.cps.toList)
def strOkD (x : Str) : Bool := x.cps.all (· < 0x110000)
mutual
def plain : D → Bool
  | .non => true
  | .bl _ => true
  | .int _ => true
  | .str x => strOkD x
  | .lst xs => plainL xs
  | .tup xs => plainL xs
  | _ => false
def plainL : List D → Bool
  | [] => true
  | x :: xs => plain x && plainL xs
end
mutual
def depth : D → Nat
  | .lst xs => depthL xs + 1
  | .tup xs => depthL xs + 1
  | _ => 0
def depthL : List D → Nat
  | [] => 0
  | x :: xs => max (depth x) (depthL xs)
end
def bI : Bool → Int
  | true => 1
  | false => 0
mutual
def eqD : D → D → Bool
  | .non, .non => true
  | .bl a, .bl b => a == b
  | .bl a, .int j => bI a == j
  | .int i, .bl b => i == bI b
  | .int i, .int j => i == j
  | .str x, .str y => x == y
  | .lst xs, .lst ys => eqL xs ys
  | .tup xs, .tup ys => eqL xs ys
  | _, _ => false
def eqL : List D → List D → Bool
  | [], [] => true
  | x :: xs, y :: ys => eqD x y && eqL xs ys
  | _, _ => false
end
mutual
/-- the two can be put in order -/
def alikeD : D → D → Bool
  | .bl _, .bl _ => true
  | .int _, .int _ => true
  | .str _, .str _ => true
  | .lst xs, .lst ys => alikeL xs ys
  | .tup xs, .tup ys => alikeL xs ys
  | _, _ => false
def alikeL : List D → List D → Bool
  | [], _ => true
  | _ :: _, [] => true
  | x :: xs, y :: ys => alikeD x y && alikeL xs ys
end
mutual
def ltD : D → D → Bool
  | .bl a, .bl b => decide (bI a < bI b)
  | .int i, .int j => decide (i < j)
  | .str x, .str y => sLt x y
  | .lst xs, .lst ys => ltL xs ys
  | .tup xs, .tup ys => ltL xs ys
  | _, _ => false
def ltL : List D → List D → Bool
  | [], [] => false
  | [], _ :: _ => true
  | _ :: _, [] => false
  | x :: xs, y :: ys => if eqD x y = true then ltL xs ys else ltD x y
end
def ltOk (a b : D) : Bool := alikeD a b && plain a && plain b && decide (depth a ≤ 60)
def cmpD (a b : D) (r : Bool) : XR B := if ltOk a b then .ok (.d (.bl r)) else .bad
def opLt : D → D → XR B
  | .int i, .int j => .ok (.d (.bl (decide (i < j))))
  | .str x, .str y => .ok (.d (.bl (sLt x y)))
  | .lst xs, .lst ys => cmpD (.lst xs) (.lst ys) (ltD (.lst xs) (.lst ys))
  | .tup xs, .tup ys => cmpD (.tup xs) (.tup ys) (ltD (.tup xs) (.tup ys))
  | _, _ => .bad
def opLe : D → D → XR B
  | .int i, .int j => .ok (.d (.bl (decide (i ≤ j))))
  | .str x, .str y => .ok (.d (.bl (!sLt y x)))
  | .lst xs, .lst ys => cmpD (.lst ys) (.lst xs) (!ltD (.lst ys) (.lst xs))
  | .tup xs, .tup ys => cmpD (.tup ys) (.tup xs) (!ltD (.tup ys) (.tup xs))
  | _, _ => .bad
def opGt : D → D → XR B
  | .int i, .int j => .ok (.d (.bl (decide (j < i))))
  | .str x, .str y => .ok (.d (.bl (sLt y x)))
  | .lst xs, .lst ys => cmpD (.lst ys) (.lst xs) (ltD (.lst ys) (.lst xs))
  | .tup xs, .tup ys => cmpD (.tup ys) (.tup xs) (ltD (.tup ys) (.tup xs))
  | _, _ => .bad
def opGe : D → D → XR B
  | .int i, .int j => .ok (.d (.bl (decide (j ≤ i))))
  | .str x, .str y => .ok (.d (.bl (!sLt x y)))
  | .lst xs, .lst ys => cmpD (.lst xs) (.lst ys) (!ltD (.lst xs) (.lst ys))
  | .tup xs, .tup ys => cmpD (.tup xs) (.tup ys) (!ltD (.tup xs) (.tup ys))
  | _, _ => .bad
def eqOk (a b : D) : Bool := plain a && plain b && decide (depth a ≤ 60) && decide (depth b ≤ 60)
/-- two scalars that == tells apart as they stand -/
def scalP : D → D → Bool
  | .non, .non => true | .non, .int _ => true | .int _, .non => true | .non, .bl _ => true | .bl _, .non => true | .non, .str _ => true | .str _, .non => true
  | .int _, .int _ => true | .bl _, .bl _ => true | .str _, .str _ => true
  | .int _, .str _ => true | .str _, .int _ => true | .bl _, .str _ => true | .str _, .bl _ => true
  | _, _ => false
def opEq (a b : D) : XR B := if scalP a b || eqOk a b then .ok (.d (.bl (eqD a b))) else .bad
def opNe (a b : D) : XR B := if scalP a b || eqOk a b then .ok (.d (.bl (!eqD a b))) else .bad
def isNon : D → Bool
  | .non => true
  | _ => false
def opIs (a b : D) : XR B := match b with
  | .non => .ok (.d (.bl (isNon a)))
  | .bl y => (match a with
    | .bl x => .ok (.d (.bl (x == y)))
    | _ => .bad)
  | _ => .bad
def opIsNot (a b : D) : XR B := match b with
  | .non => .ok (.d (.bl (!isNon a)))
  | .bl y => (match a with
    | .bl x => .ok (.d (.bl (!(x == y))))
    | _ => .bad)
  | _ => .bad
/-- flat data: numbers, texts, truth values, None -/
def flat : D → Bool
  | .non => true
  | .bl _ => true
  | .int _ => true
  | .str _ => true
  | _ => false
/-- one sign within a text -/
def signIn (c : Nat) (z : Str) : Bool := decide (c ∈ z.cps.toList)
def oneSign (x : Str) : Option Nat := match x.cps.toList with
  | [c] => some c
  | _ => none
def inD (x y : D) : XR Bool := match y with
  | .str z => (match x with
    | .str w => (match oneSign w with
      | some c => .ok (signIn c z)
      | none => .bad)
    | _ => .bad)
  | .lst ys => if flat x && ys.all flat then .ok (ys.any fun y => eqD y x) else .bad
  | .tup ys => if flat x && ys.all flat then .ok (ys.any fun y => eqD y x) else .bad
  | _ => .bad
def opIn (x y : D) : XR B := (inD x y).bind fun b => .ok (.d (.bl b))
def opNotIn (x y : D) : XR B := (inD x y).bind fun b => .ok (.d (.bl (!b)))
/-- a place: 0 or more from the front, below 0 from the end -/
def atD {α : Type} (xs : List α) (i : Int) : Option α := if 0 ≤ i then (if i < xs.length then xs[i.toNat]? else none) else if -(xs.length : Int) ≤ i then xs[(i + xs.length).toNat]? else none
def opIx (x y : D) : XR B := match y with
  | .int i => (match x with
    | .lst xs => (match atD xs i with
      | some v => .ok (.d v)
      | none => .bad)
    | .tup xs => (match atD xs i with
      | some v => .ok (.d v)
      | none => .bad)
    | .str z => if z.length ≤ LIM then (match atD z.cps.toList i with
      | some c => .ok (.d (.str ⟨#[c]⟩))
      | none => .bad) else .bad
    | .scr ns => (match atD ns i with
      | some n => .ok (.d (.int n))
      | none => .bad)
    | _ => .bad)
  | _ => .bad
/-- the ends of a slice -/
def sEnd (n d : Nat) : Option Int → Nat
  | none => d
  | some i => if 0 ≤ i then min i.toNat n else (i + n).toNat
def cut {α : Type} (xs : List α) (lo hi : Option Int) : List α := (xs.drop (sEnd xs.length 0 lo)).take (sEnd xs.length xs.length hi - sEnd xs.length 0 lo)
def opSl (x : D) (lo hi : Option Int) : XR B := match x with
  | .lst xs => .ok (.own (.lst (cut xs lo hi)))
  | _ => .bad
def opRev : D → XR B
  | .lst xs => .ok (.own (.lst xs.reverse))
  | _ => .bad

/-! ### built-ins -/
def cLen : List D → XR B
  | [.lst xs] => .ok (.d (.int xs.length))
  | [.tup xs] => .ok (.d (.int xs.length))
  | [.str z] => if z.length ≤ LIM then .ok (.d (.int z.length)) else .bad
  | [.scr ns] => .ok (.d (.int ns.length))
  | [.dic ks _] => .ok (.d (.int ks.length))
  | _ => .bad
def cList : List D → XR B
  | [.lst xs] => .ok (.own (.lst xs))
  | [.tup xs] => .ok (.own (.lst xs))
  | _ => .bad
def cTuple : List D → XR B
  | [.lst xs] => .ok (.d (.tup xs))
  | [.tup xs] => .ok (.d (.tup xs))
  | _ => .bad
def cInt : List D → XR B
  | [.int i] => .ok (.d (.int i))
  | [.bl b] => .ok (.d (.int (if b then 1 else 0)))
  | _ => .bad
def allB : List D → Option (List Bool)
  | [] => some []
  | .bl b :: r => (allB r).map (b :: ·)
  | _ :: _ => none
def cAll : List D → XR B
  | [.lst xs] => (match allB xs with
    | some bs => .ok (.d (.bl (bs.all id)))
    | none => .bad)
  | _ => .bad
def cAny : List D → XR B
  | [.lst xs] => (match allB xs with
    | some bs => .ok (.d (.bl (bs.any id)))
    | none => .bad)
  | _ => .bad
def allI : List D → Option (List Int)
  | [] => some []
  | .int b :: r => (allI r).map (b :: ·)
  | _ :: _ => none
def allS : List D → Option (List Str)
  | [] => some []
  | .str b :: r => (allS r).map (b :: ·)
  | _ :: _ => none
def cSum : List D → XR B
  | [.lst xs] => (match allI xs with
    | some bs => .ok (.d (.int bs.sum))
    | none => .bad)
  | _ => .bad
/-- texts in their order: put in one after another, from the last on -/
def putS (x : Str) : List Str → List Str
  | [] => [x]
  | y :: r => if sLt y x then y :: putS x r else x :: y :: r
def sortS (xs : List Str) : List Str := xs.foldr putS []
def cSorted : List D → XR B
  | [.lst xs] => (match allS xs with
    | some ss => if ss.length < 64 then .ok (.own (.lst ((sortS ss).map D.str))) else .bad
    | none => .bad)
  | _ => .bad
inductive Ty where
  | int | bool | str | list | tuple | dict
def isTy : D → Ty → Option Bool
  | .non, _ => some false
  | .bl _, .bool => some true
  | .bl _, .int => some true
  | .bl _, _ => some false
  | .int _, .int => some true
  | .int _, _ => some false
  | .str _, .str => some true
  | .str _, _ => some false
  | .lst _, .list => some true
  | .lst _, _ => some false
  | .tup _, .tuple => some true
  | .tup _, _ => some false
  | .dic _ _, .dict => some true
  | .dic _ _, _ => some false
  | .dit _ _, .dict => some true
  | .dit _ _, _ => some false
  | _, _ => none
def opIsi (t : Ty) (x : D) : XR B := match isTy x t with
  | some b => .ok (.d (.bl b))
  | none => .bad
def idxD (y : D) : List D → Option Nat
  | [] => none
  | x :: r => if eqD x y then some 0 else (idxD y r).map (· + 1)
def mIndex (x : D) (ys : List D) : XR B := match x, ys with
  | .lst xs, [y] => if flat y && xs.all flat then (match idxD y xs with
    | some j => .ok (.d (.int j))
    | none => .bad) else .bad
  | _, _ => .bad

/-! ### expressions: of the slots -/
abbrev Ex := Env → XR D
abbrev ExO := Env → XR B
abbrev ExT := Env → XR Bool
abbrev ExA := Env → XR (List D)
abbrev ExP := Env → XR (Option Int)
def eVar (i : Nat) : Ex := fun ρ => match ρ[i]? with
  | some (.d x) => .ok x
  | _ => .bad
/-- a slot that is only looked at -/
def eLook (i : Nat) : Ex := fun ρ => match ρ[i]? with
  | some (.d x) => .ok x
  | some (.own x) => .ok x
  | _ => .bad
def eC (d : D) : Ex := fun _ => .ok d
def eFz (f : ExO) : Ex := fun ρ => (f ρ).bind frz
def oE (f : Ex) : ExO := fun ρ => (f ρ).bind fun d => .ok (.d d)
def oOp (g : D → D → XR B) (a b : Ex) : ExO := fun ρ => (a ρ).bind fun x => (b ρ).bind fun y => g x y
def oUn (g : D → XR B) (a : Ex) : ExO := fun ρ => (a ρ).bind g
def oCall (g : List D → XR B) (a : ExA) : ExO := fun ρ => (a ρ).bind g
def oCallN (n : Nat) (g : List D → XR B) (a : ExA) : ExO := fun ρ => (a ρ).bind fun xs => if xs.length = n then g xs else .bad
/-- a list's, a text's method -/
def oMethL (g : D → List D → XR B) (o : Ex) (a : ExA) : ExO := fun ρ => (o ρ).bind fun x => match x with
  | .lst xs => (a ρ).bind fun ys => g (.lst xs) ys
  | _ => .bad
def oMethS (g : D → List D → XR B) (o : Ex) (a : ExA) : ExO := fun ρ => (o ρ).bind fun x => match x with
  | .str z => (a ρ).bind fun ys => g (.str z) ys
  | _ => .bad
def oSl (e : Ex) (lo hi : ExP) : ExO := fun ρ => (e ρ).bind fun x => (lo ρ).bind fun l => (hi ρ).bind fun h => opSl x l h
def pNone : ExP := fun _ => .ok none
def pSome (e : Ex) : ExP := fun ρ => (e ρ).bind fun x => match x with
  | .int i => .ok (some i)
  | _ => .bad
def aNil : ExA := fun _ => .ok []
def aCons (e : Ex) (a : ExA) : ExA := fun ρ => (e ρ).bind fun x => (a ρ).bind fun xs => .ok (x :: xs)
def oTup (a : ExA) : ExO := fun ρ => (a ρ).bind fun xs => if xs.length ≤ LIM then .ok (.d (.tup xs)) else .bad
def oLst (a : ExA) : ExO := fun ρ => (a ρ).bind fun xs => if xs.length ≤ LIM then .ok (.own (.lst xs)) else .bad
def eAnd (a b : Ex) : Ex := fun ρ => (a ρ).bind fun x => match x with
  | .bl true => b ρ
  | .bl false => .ok (.bl false)
  | _ => .bad
def eOr (a b : Ex) : Ex := fun ρ => (a ρ).bind fun x => match x with
  | .bl true => .ok (.bl true)
  | .bl false => b ρ
  | _ => .bad
def eNot (a : Ex) : Ex := fun ρ => (a ρ).bind fun x => match x with
  | .bl c => .ok (.bl (!c))
  | _ => .bad
def eIf (t : ExT) (a b : Ex) : Ex := fun ρ => (t ρ).bind fun c => if c = true then a ρ else b ρ
/-- a op1 b op2 c -/
def oChain (g h : D → D → XR B) (a b c : Ex) : ExO := fun ρ => (a ρ).bind fun x => (b ρ).bind fun y => (g x y).bind fun z => match z with
  | .d (.bl true) => (c ρ).bind fun w => h y w
  | .d (.bl false) => .ok (.d (.bl false))
  | _ => .bad
def bOf (e : ExO) : ExT := fun ρ => (e ρ).bind fun x => match x with
  | .d (.bl c) => .ok c
  | _ => .bad
def bAnd (a b : ExT) : ExT := fun ρ => (a ρ).bind fun c => if c = true then b ρ else .ok false
def bOr (a b : ExT) : ExT := fun ρ => (a ρ).bind fun c => if c = true then .ok true else b ρ
def bNot (a : ExT) : ExT := fun ρ => (a ρ).bind fun c => .ok (!c)
def bYes : ExT := fun _ => .ok true

/-! ### what is walked; targets -/
abbrev ExI := Env → XR (List D)
def wList (e : Ex) : ExI := fun ρ => (e ρ).bind fun x => match x with
  | .lst xs => .ok xs
  | _ => .bad
def wTup (e : Ex) : ExI := fun ρ => (e ρ).bind fun x => match x with
  | .tup xs => .ok xs
  | _ => .bad
def wStr (e : Ex) : ExI := fun ρ => (e ρ).bind fun x => match x with
  | .str z => .ok (z.cps.toList.map fun c => .str ⟨#[c]⟩)
  | _ => .bad
def rng (lo : Int) (n : Nat) : List D := (List.range n).map fun k => .int (lo + (k : Nat))
def eI (x : D) : XR Int := match x with
  | .int i => .ok i
  | _ => .bad
def wRange1 (e : Ex) : ExI := fun ρ => (e ρ).bind fun x => (eI x).bind fun j => if j.natAbs < 1000000 then .ok (rng 0 j.toNat) else .bad
def wRange2 (a b : Ex) : ExI := fun ρ => (a ρ).bind fun x => (b ρ).bind fun y => (eI x).bind fun i => (eI y).bind fun j => if i.natAbs < 1000000 ∧ j.natAbs < 1000000 then .ok (rng i (j - i).toNat) else .bad
def wZip (a : ExA) : ExI := fun ρ => (a ρ).bind fun xs => match xs with
  | [.lst xs, .lst ys] => .ok ((xs.zip ys).map fun p => .tup [p.1, p.2])
  | _ => .bad
def wEnum (a : ExA) : ExI := fun ρ => (a ρ).bind fun xs => match xs with
  | [.lst xs] => .ok (xs.zipIdx.map fun p => .tup [.int (p.2 : Nat), p.1])
  | _ => .bad
abbrev Tg := D → Env → XR Env
def nName (i : Nat) : Tg := fun d ρ => .ok (ρ.set i (.d d))
abbrev Tgs := List D → Env → XR Env
def nNil : Tgs := fun ds ρ => match ds with
  | [] => .ok ρ
  | _ => .bad
def nCons (g : Tg) (gs : Tgs) : Tgs := fun ds ρ => match ds with
  | [] => .bad
  | d :: r => (g d ρ).bind fun ρ' => gs r ρ'
def nTup (n : Nat) (gs : Tgs) : Tg := fun d ρ => match d with
  | .tup ds => if ds.length = n then gs ds ρ else .bad
  | _ => .bad

/-! ### comprehensions -/
def wipeB (ρ : Env) : List Nat → Env
  | [] => ρ
  | v :: vs => (wipeB ρ vs).set v .nil
/-- the items of a comprehension, one after another -/
def lcGo (g : Tg) (t : ExT) (e : Ex) (ρ : Env) : List D → XR (List D)
  | [] => .ok []
  | x :: r => (g x ρ).bind fun ρ1 => (t ρ1).bind fun c => if c = true then (e ρ1).bind fun y => (lcGo g t e ρ r).bind fun ys => .ok (y :: ys) else lcGo g t e ρ r
/-- no exception leaves a comprehension -/
def noX {α : Type} : XR α → XR α
  | .ex _ _ => .bad
  | r => r
def oLc (i : ExI) (g : Tg) (t : ExT) (e : Ex) (vs : List Nat) : ExO := fun ρ => (i ρ).bind fun xs => if xs.length ≤ LIM then (noX (lcGo g t e (wipeB ρ vs) xs)).bind fun ys => .ok (.own (.lst ys)) else .bad

/-! ### statements -/
inductive Out where
  | nx (ρ : Env) | bk (ρ : Env) | ct (ρ : Env) | rt (b : B) | ex (c : Str) (x : Option (Str × D)) (ρ : Env) | bad
abbrev Sm := Env → Out
def Out.thn (o : Out) (f : Sm) : Out := match o with
  | .nx ρ => f ρ
  | o => o
/-- an expression's outcome within a statement -/
def got {α : Type} (r : XR α) (ρ : Env) (f : α → Out) : Out := match r with
  | .ok a => f a
  | .ex c x => .ex c x ρ
  | .bad => .bad
theorem got_ok {α : Type} {a : α} {ρ : Env} {f : α → Out} : got (.ok a) ρ f = f a := rfl
theorem got_ex {α : Type} {c : Str} {x : Option (Str × D)} {ρ : Env} {f : α → Out} : got (.ex c x : XR α) ρ f = .ex c x ρ := rfl
theorem got_bad {α : Type} {ρ : Env} {f : α → Out} : got (.bad : XR α) ρ f = .bad := rfl
def sNext : Sm := fun ρ => .nx ρ
def sSeq (a b : Sm) : Sm := fun ρ => (a ρ).thn b
def setB (i : Nat) (ρ : Env) : B → Out
  | .nil => .bad
  | .exo => .bad
  | .d x => .nx (ρ.set i (.d x))
  | .own x => .nx (ρ.set i (.own x))
def sSet (i : Nat) (e : ExO) : Sm := fun ρ => got (e ρ) ρ (setB i ρ)
def sAsg (g : Tg) (e : Ex) : Sm := fun ρ => got (e ρ) ρ fun d => got (noX (g d ρ)) ρ fun ρ' => .nx ρ'
def sRet (e : ExO) : Sm := fun ρ => got (e ρ) ρ fun b => .rt b
/-- return x, x a slot -/
def sRetV (i : Nat) : Sm := fun ρ => match ρ[i]? with
  | some (.d x) => .rt (.d x)
  | some (.own x) => .rt (.own x)
  | _ => .bad
def sRetN : Sm := fun _ => .rt (.d .non)
def sIf (t : ExT) (a b : Sm) : Sm := fun ρ => got (t ρ) ρ fun c => if c = true then a ρ else b ρ
def sBk : Sm := fun ρ => .bk ρ
def sCt : Sm := fun ρ => .ct ρ
def sDrop (e : Ex) : Sm := fun ρ => got (e ρ) ρ fun _ => .nx ρ
/-- what was the def's own is data from here on -/
def fz1 (i : Nat) (ρ : Env) : Env := match ρ[i]? with
  | some (.own x) => ρ.set i (.d x)
  | _ => ρ
def sFz (i : Nat) (s : Sm) : Sm := fun ρ => s (fz1 i ρ)
/-- the slot is forgotten -/
def sGone (i : Nat) (s : Sm) : Sm := fun ρ => s (ρ.set i .nil)
/-- x.append(e), x a slot of the def's own -/
def sApp (i : Nat) (e : Ex) : Sm := fun ρ => match ρ[i]? with
  | some (.own (.lst xs)) => got (e ρ) ρ fun d => if xs.length < LIM then .nx (ρ.set i (.own (.lst (xs ++ [d])))) else .bad
  | _ => .bad
def sRev (i : Nat) : Sm := fun ρ => match ρ[i]? with
  | some (.own (.lst xs)) => .nx (ρ.set i (.own (.lst xs.reverse)))
  | _ => .bad
/-- x += e, x a slot with a number -/
def sAug (i : Nat) (f : Int → Int → Int) (e : Ex) : Sm := fun ρ => match ρ[i]? with
  | some (.d (.int a)) => got (e ρ) ρ fun d => (match d with
    | .int b => .nx (ρ.set i (.d (.int (f a b))))
    | _ => .bad)
  | _ => .bad
def forGo (g : Tg) (b : Sm) : List D → Env → Out
  | [], ρ => .nx ρ
  | x :: r, ρ => got (noX (g x ρ)) ρ fun ρ1 => match b ρ1 with
    | .nx ρ2 => forGo g b r ρ2
    | .ct ρ2 => forGo g b r ρ2
    | .bk ρ2 => .nx ρ2
    | .rt v => .rt v
    | .ex c x ρ2 => .ex c x ρ2
    | .bad => .bad
def sFor (i : ExI) (g : Tg) (b : Sm) : Sm := fun ρ => got (i ρ) ρ fun xs => forGo g b xs ρ
def whGo (t : ExT) (b : Sm) : Nat → Env → Out
  | 0, _ => .bad
  | n + 1, ρ => got (t ρ) ρ fun c => if c = true then (match b ρ with
    | .nx ρ2 => whGo t b n ρ2
    | .ct ρ2 => whGo t b n ρ2
    | .bk ρ2 => .nx ρ2
    | .rt v => .rt v
    | .ex c x ρ2 => .ex c x ρ2
    | .bad => .bad) else .nx ρ
def sWhile (n : Nat) (t : ExT) (b : Sm) : Sm := whGo t b n
def sRaise (c : Str) : Sm := fun ρ => .ex c none ρ
/-- held exceptions are forgotten -/
def clr (ρ : Env) : Env := ρ.map fun b => match b with
  | .exo => .nil
  | b => b
/-- try: b except .. as the slot i: h tells of an own exception's class and field: the suite, some none where it goes on, none where nothing is told -/
def sTry (i : Nat) (b : Sm) (h : Str → Option (Str × D) → Option (Option Sm)) : Sm := fun ρ => match b ρ with
  | .ex c x ρ1 => (match h c x with
    | none => .bad
    | some none => .ex c x ρ1
    | some (some s) => (match s ((clr ρ1).set i .exo) with
      | .nx ρ2 => .nx (clr (ρ2.set i .nil))
      | .bk ρ2 => .bk (clr (ρ2.set i .nil))
      | .ct ρ2 => .ct (clr (ρ2.set i .nil))
      | .rt v => .rt v
      | _ => .bad))
  | o => o
/-- isinstance of the held exception in slot i: known by its class -/
def oIsX (i : Nat) (b : Bool) : ExO := fun ρ => match ρ[i]? with
  | some .exo => .ok (.d (.bl b))
  | _ => .bad
/-- a def: its slots at the entry, its body -/
def begin0 (n : Nat) (ds : List D) : Env := ds.map B.d ++ List.replicate (n - ds.length) .nil
def run (n : Nat) (b : Sm) (ds : List D) : XR B := match b (begin0 n ds) with
  | .nx _ => .ok (.d .non)
  | .rt v => .ok v
  | .ex c x _ => .ex c x
  | _ => .bad
end VD

set_option Elab.async false
set_option linter.all false
/-! VM0: texts in their order -/
namespace VD
open PySem
theorem str_ext {x y : Str} (h : x.cps.toList = y.cps.toList) : x = y := by
  obtain ⟨⟨l⟩⟩ := x
  obtain ⟨⟨m⟩⟩ := y
  have e : l = m := h
  rw [e]
theorem sLt_irr (x : Str) : sLt x x = false := decide_eq_false (List.lt_irrefl _)
theorem sLt_trans {x y z : Str} (h : sLt x y = true) (g : sLt y z = true) : sLt x z = true := decide_eq_true (List.lt_trans (of_decide_eq_true h) (of_decide_eq_true g))
theorem sLt_asymm {x y : Str} (h : sLt x y = true) : sLt y x = false := decide_eq_false (List.lt_asymm (of_decide_eq_true h))
theorem sLt_tri {x y : Str} (h : sLt x y = false) (g : sLt y x = false) : x = y := str_ext (List.le_antisymm (List.not_lt.mp (of_decide_eq_false g)) (List.not_lt.mp (of_decide_eq_false h)))
theorem sLt_ne {x y : Str} (h : sLt x y = true) : x ≠ y := fun e => by rw [e, sLt_irr] at h; cases h
theorem sLe_trans {x y z : Str} (h : sLt y x = false) (g : sLt z y = false) : sLt z x = false := by
  cases q : sLt z x with
  | false => rfl
  | true =>
    cases p : sLt y z with
    | true => have := sLt_trans p q; rw [h] at this; cases this
    | false => rw [sLt_tri p g, q] at h; cases h
/-- in their order, equal ones beside each other -/
def Up (l : List Str) : Prop := l.Pairwise fun a b => sLt b a = false
/-- in their order, each once -/
def Asc (l : List Str) : Prop := l.Pairwise fun a b => sLt a b = true
theorem Asc.up {l : List Str} (h : Asc l) : Up l := List.Pairwise.imp (fun h => sLt_asymm h) h
theorem Asc.nodup {l : List Str} (h : Asc l) : l.Nodup := List.Pairwise.imp (fun h => sLt_ne h) h
theorem Up.asc {l : List Str} (h : Up l) (n : l.Nodup) : Asc l := by
  have := List.Pairwise.and h n
  refine List.Pairwise.imp (fun {a b} ⟨h1, h2⟩ => ?_) this
  cases q : sLt a b with
  | true => rfl
  | false => exact absurd (sLt_tri q h1) h2
theorem mem_putS {x y : Str} : ∀ {l : List Str}, y ∈ putS x l ↔ y = x ∨ y ∈ l
  | [] => by simp [putS]
  | z :: r => by
    unfold putS
    by_cases h : sLt z x = true
    · rw [if_pos h]
      simp only [List.mem_cons, mem_putS (l := r)]
      constructor
      · rintro (h | h | h)
        · exact .inr (.inl h)
        · exact .inl h
        · exact .inr (.inr h)
      · rintro (h | h | h)
        · exact .inr (.inl h)
        · exact .inl h
        · exact .inr (.inr h)
    · rw [if_neg h]; simp only [List.mem_cons]
theorem putS_perm (x : Str) : ∀ l : List Str, (putS x l).Perm (x :: l)
  | [] => .refl _
  | z :: r => by
    unfold putS
    by_cases h : sLt z x = true
    · rw [if_pos h]
      exact ((putS_perm x r).cons z).trans (List.Perm.swap x z r)
    · rw [if_neg h]
theorem putS_up (x : Str) : ∀ {l : List Str}, Up l → Up (putS x l)
  | [], _ => List.pairwise_singleton _ _
  | z :: r, h => by
    obtain ⟨h1, h2⟩ := List.pairwise_cons.mp h
    unfold putS
    by_cases c : sLt z x = true
    · rw [if_pos c]
      refine List.pairwise_cons.mpr ⟨fun y hy => ?_, putS_up x h2⟩
      rcases mem_putS.mp hy with rfl | hy
      · exact sLt_asymm c
      · exact h1 y hy
    · rw [if_neg c]
      have c : sLt z x = false := by simpa using c
      refine List.pairwise_cons.mpr ⟨fun y hy => ?_, h⟩
      rcases List.mem_cons.mp hy with rfl | hy
      · exact c
      · exact sLe_trans c (h1 y hy)
theorem sortS_perm : ∀ l : List Str, (sortS l).Perm l
  | [] => .refl _
  | x :: r => (putS_perm x (sortS r)).trans ((sortS_perm r).cons x)
theorem sortS_up : ∀ l : List Str, Up (sortS l)
  | [] => List.Pairwise.nil
  | x :: r => putS_up x (sortS_up r)
theorem up_unique {l m : List Str} (h : Up l) (g : Up m) (p : l.Perm m) : l = m := List.Perm.eq_of_pairwise (fun _ _ _ _ h1 h2 => sLt_tri h2 h1) h g p
theorem sortS_of_up {l : List Str} (h : Up l) : sortS l = l := up_unique (sortS_up l) h (sortS_perm l)
theorem sortS_asc {l : List Str} (n : l.Nodup) : Asc (sortS l) := (sortS_up l).asc ((sortS_perm l).nodup_iff.mpr n)
theorem mem_sortS {x : Str} {l : List Str} : x ∈ sortS l ↔ x ∈ l := (sortS_perm l).mem_iff
theorem length_sortS (l : List Str) : (sortS l).length = l.length := (sortS_perm l).length_eq
theorem allS_map : ∀ l : List Str, allS (l.map D.str) = some l
  | [] => rfl
  | x :: r => by
    show (allS (r.map D.str)).map (x :: ·) = _
    rw [allS_map r]; rfl
theorem allI_map : ∀ l : List Int, allI (l.map D.int) = some l
  | [] => rfl
  | x :: r => by
    show (allI (r.map D.int)).map (x :: ·) = _
    rw [allI_map r]; rfl
theorem allB_map : ∀ l : List Bool, allB (l.map D.bl) = some l
  | [] => rfl
  | x :: r => by
    show (allB (r.map D.bl)).map (x :: ·) = _
    rw [allB_map r]; rfl
end VD

set_option Elab.async false
set_option linter.all false
/-! VM1: loops, comprehensions, lists of texts -/
namespace VD
open PySem
theorem forGo_inv {g : Tg} {b : Sm} : ∀ (xs : List D) (P : Nat → Env → Prop) (ρ : Env), P 0 ρ →
    (∀ k x ρ, xs[k]? = some x → P k ρ → ∃ ρ1 ρ2, g x ρ = .ok ρ1 ∧ b ρ1 = .nx ρ2 ∧ P (k + 1) ρ2) → ∃ ρ', forGo g b xs ρ = .nx ρ' ∧ P xs.length ρ'
  | [], P, ρ, h0, _ => ⟨ρ, rfl, h0⟩
  | x :: r, P, ρ, h0, st => by
    obtain ⟨ρ1, ρ2, e1, e2, h1⟩ := st 0 x ρ rfl h0
    obtain ⟨ρ', e, h⟩ := forGo_inv r (fun k => P (k + 1)) ρ2 h1 (fun k y ρ hy hp => st (k + 1) y ρ hy hp)
    refine ⟨ρ', ?_, h⟩
    unfold forGo
    rw [e1]
    simp only [noX, got_ok, e2]
    exact e
theorem sFor_inv {i : ExI} {g : Tg} {b : Sm} {ρ : Env} (xs : List D) (P : Nat → Env → Prop) (hx : i ρ = .ok xs) (h0 : P 0 ρ)
    (st : ∀ k x ρ, xs[k]? = some x → P k ρ → ∃ ρ1 ρ2, g x ρ = .ok ρ1 ∧ b ρ1 = .nx ρ2 ∧ P (k + 1) ρ2) : ∃ ρ', sFor i g b ρ = .nx ρ' ∧ P xs.length ρ' := by
  obtain ⟨ρ', h1, h2⟩ := forGo_inv xs P ρ h0 st
  refine ⟨ρ', ?_, h2⟩
  unfold sFor
  rw [hx]
  exact h1
theorem rng_len (m : Nat) : (rng 0 m).length = m := by simp [rng]
theorem rng_get {m k : Nat} {x : D} (h : (rng 0 m)[k]? = some x) : k < m ∧ x = .int (k : Nat) := by
  unfold rng at h
  rw [List.getElem?_map] at h
  by_cases c : k < m
  · rw [List.getElem?_range c] at h
    refine ⟨c, ?_⟩
    simp only [Option.map_some, Option.some.injEq] at h
    rw [← h]
    simp
  · rw [List.getElem?_eq_none (by simpa using Nat.le_of_not_lt c)] at h
    cases h
theorem range1_eq {e : Ex} {ρ : Env} {j : Int} (m : Nat) (he : e ρ = .ok (.int j)) (hj : j = m) (hm : m < 1000000) : wRange1 e ρ = .ok (rng 0 m) := by
  subst hj
  unfold wRange1
  rw [he]
  simp only [XR.bind_ok, eI]
  rw [if_pos (by simpa using hm), Int.toNat_natCast]
theorem wList_eq {e : Ex} {ρ : Env} {xs : List D} (he : e ρ = .ok (.lst xs)) : wList e ρ = .ok xs := by
  unfold wList
  rw [he]
  rfl
theorem lcGo_eq {g : Tg} {t : ExT} {e : Ex} {ρ : Env} (p : D → Bool) (f : D → D) : ∀ xs : List D, (∀ x, x ∈ xs → ∃ ρ1, g x ρ = .ok ρ1 ∧ t ρ1 = .ok (p x) ∧ (p x = true → e ρ1 = .ok (f x))) → lcGo g t e ρ xs = .ok ((xs.filter p).map f)
  | [], _ => rfl
  | x :: r, h => by
    obtain ⟨ρ1, h1, h2, h3⟩ := h x (List.mem_cons_self ..)
    have ih := lcGo_eq p f r fun y hy => h y (List.mem_cons_of_mem _ hy)
    unfold lcGo
    rw [h1]
    simp only [XR.bind_ok, h2]
    by_cases c : p x = true
    · rw [if_pos c, h3 c, XR.bind_ok, ih, XR.bind_ok, List.filter_cons_of_pos c]
      rfl
    · rw [if_neg c, ih, List.filter_cons_of_neg c]
theorem oLc_eq {i : ExI} {g : Tg} {t : ExT} {e : Ex} {vs : List Nat} {ρ : Env} (xs : List D) (p : D → Bool) (f : D → D) (hx : i ρ = .ok xs) (hl : xs.length ≤ LIM)
    (h : ∀ x, x ∈ xs → ∃ ρ1, g x (wipeB ρ vs) = .ok ρ1 ∧ t ρ1 = .ok (p x) ∧ (p x = true → e ρ1 = .ok (f x))) : oLc i g t e vs ρ = .ok (.own (.lst ((xs.filter p).map f))) := by
  unfold oLc
  rw [hx, XR.bind_ok, if_pos hl, lcGo_eq p f xs h]
  rfl
theorem oLc_map {i : ExI} {g : Tg} {e : Ex} {vs : List Nat} {ρ : Env} (xs : List D) (f : D → D) (hx : i ρ = .ok xs) (hl : xs.length ≤ LIM)
    (h : ∀ x, x ∈ xs → ∃ ρ1, g x (wipeB ρ vs) = .ok ρ1 ∧ e ρ1 = .ok (f x)) : oLc i g bYes e vs ρ = .ok (.own (.lst (xs.map f))) := by
  have := oLc_eq (i := i) (g := g) (t := bYes) (e := e) (vs := vs) (ρ := ρ) xs (fun _ => true) f hx hl fun x hx => by
    obtain ⟨ρ1, h1, h2⟩ := h x hx
    exact ⟨ρ1, h1, rfl, fun _ => h2⟩
  rw [this, List.filter_eq_self.mpr fun _ _ => rfl]
/-! ### lists of texts -/
abbrev DS (l : List Str) : D := .lst (l.map .str)
abbrev OB (b : Bool) : XR B := .ok (.d (.bl b))
abbrev DI (l : List Int) : D := .lst (l.map .int)
theorem eqD_str (a b : Str) : eqD (.str a) (.str b) = (a == b) := by rw [eqD]
theorem eqD_int (a b : Int) : eqD (.int a) (.int b) = (a == b) := by rw [eqD]
theorem eqL_str : ∀ a b : List Str, eqL (a.map .str) (b.map .str) = decide (a = b)
  | [], [] => by simp [eqL]
  | [], _ :: _ => by simp [eqL]
  | _ :: _, [] => by simp [eqL]
  | x :: xs, y :: ys => by
    simp only [List.map_cons, eqL, eqD_str, eqL_str xs ys]
    by_cases h : x = y
    · subst h
      by_cases g : xs = ys
      · subst g; simp
      · simp [g]
    · simp [h]
theorem eqD_DS (a b : List Str) : eqD (DS a) (DS b) = decide (a = b) := by rw [eqD, eqL_str]
abbrev StrOk (l : List Str) : Prop := ∀ x, x ∈ l → strOkD x = true
theorem plainL_str : ∀ {l : List Str}, StrOk l → plainL (l.map .str) = true
  | [], _ => rfl
  | x :: r, h => by
    rw [List.map_cons, plainL, plain, h x (List.mem_cons_self ..), plainL_str fun y hy => h y (List.mem_cons_of_mem _ hy)]
    rfl
theorem depthL_str : ∀ l : List Str, depthL (l.map .str) = 0
  | [] => rfl
  | x :: r => by simp [depthL, depth, depthL_str r]
theorem plain_DS {l : List Str} (h : StrOk l) : plain (DS l) = true := by rw [plain]; exact plainL_str h
theorem depth_DS (l : List Str) : depth (DS l) = 1 := by rw [depth, depthL_str]
theorem eqOk_DS {a b : List Str} (h : StrOk a) (g : StrOk b) : eqOk (DS a) (DS b) = true := by
  unfold eqOk
  rw [plain_DS h, plain_DS g, depth_DS, depth_DS]
  rfl
theorem opNe_DS {a b : List Str} (h : StrOk a) (g : StrOk b) : opNe (DS a) (DS b) = OB (!decide (a = b)) := by
  unfold opNe
  rw [eqOk_DS h g, Bool.or_true, if_pos rfl, eqD_DS]
theorem opEq_DS {a b : List Str} (h : StrOk a) (g : StrOk b) : opEq (DS a) (DS b) = OB (decide (a = b)) := by
  unfold opEq
  rw [eqOk_DS h g, Bool.or_true, if_pos rfl, eqD_DS]
theorem opNe_int (a b : Int) : opNe (.int a) (.int b) = OB (!decide (a = b)) := by
  unfold opNe
  rw [eqD_int]
  have : (a == b) = decide (a = b) := by by_cases h : a = b <;> simp [h]
  rw [this]
  rfl
theorem opEq_int (a b : Int) : opEq (.int a) (.int b) = OB (decide (a = b)) := by
  unfold opEq
  rw [eqD_int]
  have : (a == b) = decide (a = b) := by by_cases h : a = b <;> simp [h]
  rw [this]
  rfl
theorem atD_nat {α : Type} {xs : List α} {i : Nat} (h : i < xs.length) : atD xs (i : Int) = some xs[i] := by
  unfold atD
  rw [if_pos (by omega), if_pos (by omega)]
  simp
theorem opIx_DS {l : List Str} {i : Nat} (h : i < l.length) : opIx (DS l) (.int (i : Int)) = .ok (.d (.str l[i])) := by
  unfold opIx
  simp only [DS]
  rw [atD_nat (by simpa using h)]
  simp
theorem opIx_DI {l : List Int} {i : Nat} (h : i < l.length) : opIx (DI l) (.int (i : Int)) = .ok (.d (.int l[i])) := by
  unfold opIx
  simp only [DI]
  rw [atD_nat (by simpa using h)]
  simp
theorem flat_strs (l : List Str) : (l.map D.str).all flat = true := by
  rw [List.all_eq_true]
  intro x hx
  obtain ⟨y, _, rfl⟩ := List.mem_map.mp hx
  rfl
theorem any_str (x : Str) : ∀ l : List Str, ((l.map D.str).any fun y => eqD y (.str x)) = decide (x ∈ l)
  | [] => by simp
  | y :: r => by
    rw [List.map_cons, List.any_cons, any_str x r, eqD_str]
    by_cases h : y = x
    · subst h; simp
    · have : ¬ x = y := fun e => h e.symm
      simp [h, this]
theorem inD_DS (x : Str) (l : List Str) : inD (.str x) (DS l) = .ok (decide (x ∈ l)) := by
  simp only [inD, DS, flat, flat_strs, Bool.and_self, if_true]
  rw [any_str]
theorem opIn_DS (x : Str) (l : List Str) : opIn (.str x) (DS l) = OB (decide (x ∈ l)) := by
  unfold opIn
  rw [inD_DS]
  rfl
theorem opNotIn_DS (x : Str) (l : List Str) : opNotIn (.str x) (DS l) = OB (!decide (x ∈ l)) := by
  unfold opNotIn
  rw [inD_DS]
  rfl
theorem idxD_str (x : Str) : ∀ l : List Str, x ∈ l → idxD (.str x) (l.map .str) = some (l.idxOf x)
  | [], h => by cases h
  | y :: r, h => by
    rw [List.map_cons, idxD, eqD_str]
    by_cases e : y = x
    · subst e
      simp
    · have h' : x ∈ r := by
        rcases List.mem_cons.mp h with h | h
        · exact absurd h.symm e
        · exact h
      have e2 : (y == x) = false := by simp [e]
      rw [e2, idxD_str x r h', List.idxOf_cons, e2]
      rfl
theorem mIndex_DS {x : Str} {l : List Str} (h : x ∈ l) : mIndex (DS l) [.str x] = .ok (.d (.int (l.idxOf x : Nat))) := by
  simp only [mIndex, DS, flat, flat_strs, Bool.and_self, if_true]
  rw [idxD_str x l h]
theorem mulB_l {i j : Int} (h : i.natAbs < 2 ^ 64) : mulB i j = true := by
  unfold mulB
  rw [decide_eq_true h]
  rfl
theorem mulB_r {i j : Int} (h : j.natAbs < 2 ^ 64) : mulB i j = true := by
  unfold mulB
  rw [decide_eq_true h, Bool.or_true]
  rfl
theorem cAll_bl (l : List Bool) : cAll [.lst (l.map .bl)] = OB (l.all id) := by
  unfold cAll
  simp only [allB_map]
theorem cLen_DS (l : List Str) : cLen [DS l] = .ok (.d (.int (l.length : Nat))) := by
  simp [cLen, DS]
theorem ltD_str (x y : Str) : ltD (.str x) (.str y) = sLt x y := by rw [ltD]
/-- lists of texts in their order -/
def ltS : List Str → List Str → Bool
  | [], [] => false
  | [], _ :: _ => true
  | _ :: _, [] => false
  | x :: xs, y :: ys => if x = y then ltS xs ys else sLt x y
theorem ltL_str : ∀ a b : List Str, ltL (a.map .str) (b.map .str) = ltS a b
  | [], [] => rfl
  | [], _ :: _ => rfl
  | _ :: _, [] => rfl
  | x :: xs, y :: ys => by
    rw [List.map_cons, List.map_cons, ltL, ltS, eqD_str, ltL_str xs ys, ltD_str]
    simp only [beq_iff_eq]
theorem alikeL_str : ∀ a b : List Str, alikeL (a.map .str) (b.map .str) = true
  | [], _ => by rw [List.map_nil, alikeL]
  | _ :: _, [] => by rw [List.map_nil, List.map_cons, alikeL]
  | x :: xs, y :: ys => by rw [List.map_cons, List.map_cons, alikeL, alikeL_str xs ys, alikeD]; rfl
theorem ltOk_DS {a b : List Str} (h : StrOk a) (g : StrOk b) : ltOk (DS a) (DS b) = true := by
  unfold ltOk
  rw [plain_DS h, plain_DS g, depth_DS, alikeD, alikeL_str]
  rfl
theorem opGt_DS {a b : List Str} (h : StrOk a) (g : StrOk b) : opGt (DS a) (DS b) = OB (ltS b a) := by
  show cmpD (DS b) (DS a) (ltD (DS b) (DS a)) = _
  unfold cmpD
  rw [ltOk_DS g h, if_pos rfl, ltD, ltL_str]
theorem opLt_DS {a b : List Str} (h : StrOk a) (g : StrOk b) : opLt (DS a) (DS b) = OB (ltS a b) := by
  show cmpD (DS a) (DS b) (ltD (DS a) (DS b)) = _
  unfold cmpD
  rw [ltOk_DS h g, if_pos rfl, ltD, ltL_str]
end VD

set_option Elab.async false
set_option linter.all false
/-! VN: rows of texts, counted in their order -/
namespace VD
open PySem
def nth (l : List Str) (i : Nat) : Str := l.getD i ⟨#[]⟩
theorem nth_eq {l : List Str} {i : Nat} (h : i < l.length) : l[i] = nth l i := by simp [nth, h]
theorem nth_mem {l : List Str} {i : Nat} (h : i < l.length) : nth l i ∈ l := by rw [← nth_eq h]; exact List.getElem_mem h
theorem idx_nth {l : List Str} (n : l.Nodup) {i : Nat} (h : i < l.length) : l.idxOf (nth l i) = i := by
  rw [← nth_eq h]; exact List.Nodup.idxOf_getElem n i h
theorem nth_idx {l : List Str} {x : Str} (h : x ∈ l) : nth l (l.idxOf x) = x := by
  rw [← nth_eq (List.idxOf_lt_length_of_mem h)]
  exact List.getElem_idxOf (List.idxOf_lt_length_of_mem h)
/-- the last places first -/
def revN (l : List Str) : Nat → Nat → List Str
  | 0, _ => []
  | m + 1, k => nth l (k % l.length) :: revN l m (k / l.length)
def rowN (l : List Str) (m k : Nat) : List Str := (revN l m k).reverse
def numN (l r : List Str) : Nat := r.foldl (fun a s => a * l.length + l.idxOf s) 0
theorem revN_snoc (l : List Str) : ∀ (m k : Nat), revN l (m + 1) k = revN l m k ++ [nth l (k / l.length ^ m % l.length)]
  | 0, k => by simp [revN]
  | m + 1, k => by
    have ih := revN_snoc l m (k / l.length)
    rw [revN, ih]
    rw [revN, Nat.div_div_eq_div_mul, Nat.pow_succ', List.cons_append]
theorem rowN_succ (l : List Str) (m k : Nat) : rowN l (m + 1) k = rowN l m (k / l.length) ++ [nth l (k % l.length)] := by
  unfold rowN
  rw [revN, List.reverse_cons]
theorem rowN_zero (l : List Str) (k : Nat) : rowN l 0 k = [] := rfl
theorem rowN_len (l : List Str) : ∀ m k, (rowN l m k).length = m
  | 0, _ => rfl
  | m + 1, k => by rw [rowN_succ, List.length_append, rowN_len l m]; rfl
theorem rowN_mem {l : List Str} (h : 0 < l.length) : ∀ m k x, x ∈ rowN l m k → x ∈ l
  | 0, _, _, g => by cases g
  | m + 1, k, x, g => by
    rw [rowN_succ, List.mem_append] at g
    rcases g with g | g
    · exact rowN_mem h m _ x g
    · rw [List.mem_singleton.mp g]; exact nth_mem (Nat.mod_lt _ h)
theorem numN_snoc (l r : List Str) (x : Str) : numN l (r ++ [x]) = numN l r * l.length + l.idxOf x := by
  unfold numN
  rw [List.foldl_append]
  rfl
theorem num_row {l : List Str} (n : l.Nodup) (h : 0 < l.length) : ∀ m k, k < l.length ^ m → numN l (rowN l m k) = k
  | 0, k, g => by
    have : k = 0 := by simpa using g
    subst this; rfl
  | m + 1, k, g => by
    rw [rowN_succ, numN_snoc, idx_nth n (Nat.mod_lt _ h), num_row n h m _ (by rw [Nat.pow_succ'] at g; exact Nat.div_lt_of_lt_mul g)]
    have := Nat.div_add_mod k l.length
    rw [Nat.mul_comm] at this
    exact this
theorem snoc_ind {P : List Str → Prop} (h0 : P []) (h1 : ∀ r x, P r → P (r ++ [x])) (r : List Str) : P r := by
  have : ∀ s : List Str, P s.reverse := by
    intro s
    induction s with
    | nil => exact h0
    | cons x s ih => rw [List.reverse_cons]; exact h1 _ _ ih
  have q := this r.reverse
  rwa [List.reverse_reverse] at q
theorem num_lt {l : List Str} (r : List Str) : (∀ x ∈ r, x ∈ l) → numN l r < l.length ^ r.length := by
  induction r using snoc_ind with
  | h0 => intro _; simp [numN]
  | h1 r x ih =>
    intro h
    have h1 := ih fun y hy => h y (List.mem_append_left _ hy)
    have h2 := List.idxOf_lt_length_of_mem (h x (by simp))
    rw [numN_snoc, List.length_append, List.length_singleton, Nat.pow_succ]
    have h3 : (numN l r + 1) * l.length ≤ l.length ^ r.length * l.length := Nat.mul_le_mul_right _ h1
    rw [Nat.add_mul] at h3
    omega
theorem row_num {l : List Str} (r : List Str) : (∀ x ∈ r, x ∈ l) → rowN l r.length (numN l r) = r := by
  induction r using snoc_ind with
  | h0 => intro _; rfl
  | h1 r x ih =>
    intro h
    have h1 := ih fun y hy => h y (List.mem_append_left _ hy)
    have hx := h x (by simp)
    have h2 := List.idxOf_lt_length_of_mem hx
    rw [List.length_append, List.length_singleton, rowN_succ, numN_snoc]
    have e1 : (numN l r * l.length + l.idxOf x) / l.length = numN l r := by
      rw [Nat.mul_comm, Nat.mul_add_div (by omega), Nat.div_eq_of_lt h2, Nat.add_zero]
    have e2 : (numN l r * l.length + l.idxOf x) % l.length = l.idxOf x := by
      rw [Nat.mul_comm, Nat.mul_add_mod, Nat.mod_eq_of_lt h2]
    rw [e1, e2, h1, nth_idx hx]
theorem ltS_app {zs ws : List Str} : ∀ {xs ys : List Str}, xs.length = ys.length → ltS xs ys = true → ltS (xs ++ zs) (ys ++ ws) = true
  | [], [], _, h => by cases h
  | [], _ :: _, e, _ => by cases e
  | _ :: _, [], e, _ => by cases e
  | x :: xs, y :: ys, e, h => by
    rw [List.cons_append, List.cons_append, ltS]
    rw [ltS] at h
    by_cases c : x = y
    · rw [if_pos c] at h ⊢
      exact ltS_app (by simpa using e) h
    · rw [if_neg c] at h ⊢
      exact h
theorem ltS_pre {zs ws : List Str} : ∀ xs : List Str, ltS (xs ++ zs) (xs ++ ws) = ltS zs ws
  | [] => rfl
  | x :: xs => by rw [List.cons_append, List.cons_append, ltS, if_pos rfl, ltS_pre xs]
theorem nth_lt {l : List Str} (a : Asc l) {i j : Nat} (h : i < j) (g : j < l.length) : sLt (nth l i) (nth l j) = true := by
  rw [← nth_eq g, ← nth_eq (Nat.lt_trans h g)]
  exact List.pairwise_iff_getElem.mp a i j _ _ h
theorem row_lt {l : List Str} (a : Asc l) (h : 0 < l.length) : ∀ m k k', k < k' → k' < l.length ^ m → ltS (rowN l m k) (rowN l m k') = true
  | 0, k, k', g, g' => by simp at g'; omega
  | m + 1, k, k', g, g' => by
    rw [rowN_succ, rowN_succ]
    have q : k' / l.length < l.length ^ m := by rw [Nat.pow_succ'] at g'; exact Nat.div_lt_of_lt_mul g'
    have le : k / l.length ≤ k' / l.length := Nat.div_le_div_right (Nat.le_of_lt g)
    rcases Nat.lt_or_eq_of_le le with c | c
    · exact ltS_app (by rw [rowN_len, rowN_len]) (row_lt a h m _ _ c q)
    · rw [c, ltS_pre]
      have h1 := Nat.div_add_mod k l.length
      have h2 := Nat.div_add_mod k' l.length
      rw [c] at h1
      have s : sLt (nth l (k % l.length)) (nth l (k' % l.length)) = true := nth_lt a (by omega) (Nat.mod_lt _ h)
      rw [ltS, if_neg (sLt_ne s)]
      exact s
/-- how many are ahead of a member -/
theorem count_lt {x : Str} : ∀ {l : List Str}, Asc l → x ∈ l → (l.filter fun y => sLt y x).length = l.idxOf x
  | [], _, h => by cases h
  | y :: r, a, h => by
    obtain ⟨a1, a2⟩ := List.pairwise_cons.mp a
    by_cases e : y = x
    · subst e
      have : (r.filter fun z => sLt z y) = [] := List.filter_eq_nil_iff.mpr fun z hz => by rw [sLt_asymm (a1 z hz)]; exact Bool.false_ne_true
      rw [List.filter_cons_of_neg (by rw [sLt_irr]; exact Bool.false_ne_true), this]
      simp
    · have hx : x ∈ r := by
        rcases List.mem_cons.mp h with h | h
        · exact absurd h.symm e
        · exact h
      have e2 : (y == x) = false := by simp [e]
      rw [List.filter_cons_of_pos (by exact a1 x hx), List.length_cons, count_lt a2 hx, List.idxOf_cons, e2]
      rfl
end VD

set_option Elab.async false
set_option linter.all false
set_option maxRecDepth 100000
set_option maxHeartbeats 4000000
namespace VS
open PySem PySem.Spec L2 VD
/-! ### what a value stands for -/
mutual
inductive Rep (K : PySem.W.Frag) (F : Hp) : V → D → Prop
  | non : Rep K F .non .non
  | bl (b : Bool) : Rep K F (.bl b) (.bl b)
  | int (i : Int) : Rep K F (.int i) (.int i)
  | str (x : Str) : Rep K F (.str x) (.str x)
  | lst {a : Addr} {vs : List V} {ds : List D} : F a = some (.lst vs) → RepL K F vs ds → Rep K F (.ref a) (.lst ds)
  | tup {a : Addr} {vs : List V} {ds : List D} : F a = some (.tup vs) → RepL K F vs ds → Rep K F (.ref a) (.tup ds)
  | dic {a : Addr} {kvs : List (Ky × V)} {ks : List Ky} {ds : List D} : F a = some (.dK kvs) → ks = kvs.map (·.1) → RepL K F (kvs.map (·.2)) ds → Rep K F (.ref a) (.dic ks ds)
  | dit {a : Addr} {kvs : List (List Ky × V)} {ks : List (List Ky)} {ds : List D} : F a = some (.dT kvs) → ks = kvs.map (·.1) → RepL K F (kvs.map (·.2)) ds → Rep K F (.ref a) (.dit ks ds)
  | obj {a dx : Addr} {fs : List (Str × V)} {c : Str} {ns : List Str} {ds : List D} : F a = some (.ins (He.ga K c) dx fs) → ns = fs.map (·.1) → RepL K F (fs.map (·.2)) ds → Rep K F (.ref a) (.obj c ns ds)
  | scr {a : Addr} {ns : List Int} : SqL K F a (ns.map V.int) → Rep K F (.ref a) (.scr ns)
inductive RepL (K : PySem.W.Frag) (F : Hp) : List V → List D → Prop
  | nil : RepL K F [] []
  | cons {v : V} {d : D} {vs : List V} {ds : List D} : Rep K F v d → RepL K F vs ds → RepL K F (v :: vs) (d :: ds)
end
section
variable {K : PySem.W.Frag} {Z : ZZ} {F F' : Hp}
mutual
theorem Rep.mono (e : Same F F') : ∀ (d : D) (v : V), Rep K F v d → Rep K F' v d
  | .non, _, h => by cases h; exact .non
  | .bl _, _, h => by cases h; exact .bl _
  | .int _, _, h => by cases h; exact .int _
  | .str _, _, h => by cases h; exact .str _
  | .lst ds, _, h => by cases h with | lst a r => exact .lst (e _ _ a) (RepL.mono e ds _ r)
  | .tup ds, _, h => by cases h with | tup a r => exact .tup (e _ _ a) (RepL.mono e ds _ r)
  | .dic _ ds, _, h => by cases h with | dic a q r => exact .dic (e _ _ a) q (RepL.mono e ds _ r)
  | .dit _ ds, _, h => by cases h with | dit a q r => exact .dit (e _ _ a) q (RepL.mono e ds _ r)
  | .obj _ _ ds, _, h => by cases h with | obj a q r => exact .obj (e _ _ a) q (RepL.mono e ds _ r)
  | .scr _, _, h => by cases h with | scr a => exact .scr (e.seq a)
theorem RepL.mono (e : Same F F') : ∀ (ds : List D) (vs : List V), RepL K F vs ds → RepL K F' vs ds
  | [], _, h => by cases h; exact .nil
  | d :: ds, _, h => by cases h with | cons r t => exact .cons (Rep.mono e d _ r) (RepL.mono e ds _ t)
end
theorem RepL.length : ∀ {vs : List V} {ds : List D}, RepL K F vs ds → vs.length = ds.length
  | _, [], h => by cases h; rfl
  | _, d :: ds, h => by cases h with | cons r t => simp [RepL.length t]
theorem RepL.append : ∀ {vs ws : List V} {ds es : List D}, RepL K F vs ds → RepL K F ws es → RepL K F (vs ++ ws) (ds ++ es)
  | _, _, [], _, h, g => by cases h; exact g
  | _, _, d :: ds, _, h, g => by cases h with | cons r t => exact .cons r (RepL.append t g)
theorem RepL.get : ∀ {vs : List V} {ds : List D} (i : Nat) {d : D}, RepL K F vs ds → ds[i]? = some d → ∃ v, vs[i]? = some v ∧ Rep K F v d
  | _, [], _, _, h, e => by simp at e
  | _, d :: ds, 0, _, h, e => by cases h with | cons r t => simp at e; subst e; exact ⟨_, rfl, r⟩
  | _, d :: ds, i + 1, _, h, e => by
    cases h with
    | cons r t =>
      obtain ⟨v, h1, h2⟩ := RepL.get i t (by simpa using e)
      exact ⟨v, by simpa using h1, h2⟩
theorem RepL.getV : ∀ {vs : List V} {ds : List D} (i : Nat) {v : V}, RepL K F vs ds → vs[i]? = some v → ∃ d, ds[i]? = some d ∧ Rep K F v d
  | _, [], _, _, h, e => by cases h; simp at e
  | _, d :: ds, 0, _, h, e => by cases h with | cons r t => simp at e; subst e; exact ⟨_, rfl, r⟩
  | _, d :: ds, i + 1, _, h, e => by
    cases h with
    | cons r t =>
      obtain ⟨v, h1, h2⟩ := RepL.getV i t (by simpa using e)
      exact ⟨v, by simpa using h1, h2⟩
theorem RepL.take : ∀ {vs : List V} {ds : List D} (n : Nat), RepL K F vs ds → RepL K F (vs.take n) (ds.take n)
  | _, [], _, h => by cases h; simpa using RepL.nil
  | _, _ :: _, 0, h => by simpa using RepL.nil
  | _, d :: ds, n + 1, h => by cases h with | cons r t => exact .cons r (RepL.take n t)
theorem RepL.drop : ∀ {vs : List V} {ds : List D} (n : Nat), RepL K F vs ds → RepL K F (vs.drop n) (ds.drop n)
  | _, [], _, h => by cases h; simpa using RepL.nil
  | _, _ :: _, 0, h => h
  | _, d :: ds, n + 1, h => by cases h with | cons r t => exact RepL.drop n t
theorem RepL.reverse : ∀ {vs : List V} {ds : List D}, RepL K F vs ds → RepL K F vs.reverse ds.reverse
  | _, [], h => by cases h; exact .nil
  | _, d :: ds, h => by
    cases h with
    | cons r t =>
      rw [List.reverse_cons, List.reverse_cons]
      exact (RepL.reverse t).append (.cons r .nil)
theorem RepL.ints : ∀ {ds : List D} {vs : List V} {ns : List Int}, RepL K F vs ds → allI ds = some ns → vs = ns.map V.int
  | [], _, _, h, e => by cases h; cases e; rfl
  | .int i :: ds, _, ns, h, e => by
    cases h with
    | cons r t =>
      cases r
      simp only [allI, Option.map_eq_some_iff] at e
      obtain ⟨ms, e1, rfl⟩ := e
      rw [RepL.ints t e1]
      rfl
  | .non :: _, _, _, _, e | .bl _ :: _, _, _, _, e | .str _ :: _, _, _, _, e | .lst _ :: _, _, _, _, e | .tup _ :: _, _, _, _, e | .dic _ _ :: _, _, _, _, e | .dit _ _ :: _, _, _, _, e | .obj _ _ _ :: _, _, _, _, e | .scr _ :: _, _, _, _, e => by cases e
theorem RepL.strs : ∀ {ds : List D} {vs : List V} {ns : List Str}, RepL K F vs ds → allS ds = some ns → vs = ns.map V.str
  | [], _, _, h, e => by cases h; cases e; rfl
  | .str i :: ds, _, ns, h, e => by
    cases h with
    | cons r t =>
      cases r
      simp only [allS, Option.map_eq_some_iff] at e
      obtain ⟨ms, e1, rfl⟩ := e
      rw [RepL.strs t e1]
      rfl
  | .non :: _, _, _, _, e | .bl _ :: _, _, _, _, e | .int _ :: _, _, _, _, e | .lst _ :: _, _, _, _, e | .tup _ :: _, _, _, _, e | .dic _ _ :: _, _, _, _, e | .dit _ _ :: _, _, _, _, e | .obj _ _ _ :: _, _, _, _, e | .scr _ :: _, _, _, _, e => by cases e
theorem RepL.bls : ∀ {ds : List D} {vs : List V} {ns : List Bool}, RepL K F vs ds → allB ds = some ns → vs = ns.map V.bl
  | [], _, _, h, e => by cases h; cases e; rfl
  | .bl i :: ds, _, ns, h, e => by
    cases h with
    | cons r t =>
      cases r
      simp only [allB, Option.map_eq_some_iff] at e
      obtain ⟨ms, e1, rfl⟩ := e
      rw [RepL.bls t e1]
      rfl
  | .non :: _, _, _, _, e | .str _ :: _, _, _, _, e | .int _ :: _, _, _, _, e | .lst _ :: _, _, _, _, e | .tup _ :: _, _, _, _, e | .dic _ _ :: _, _, _, _, e | .dit _ _ :: _, _, _, _, e | .obj _ _ _ :: _, _, _, _, e | .scr _ :: _, _, _, _, e => by cases e
theorem repL_ints : ∀ ns : List Int, RepL K F (ns.map V.int) (ns.map D.int)
  | [] => .nil
  | n :: ns => .cons (.int n) (repL_ints ns)
theorem repL_strs : ∀ ns : List Str, RepL K F (ns.map V.str) (ns.map D.str)
  | [] => .nil
  | n :: ns => .cons (.str n) (repL_strs ns)
/-- a list or dict of the def's own -/
def Cell (K : PySem.W.Frag) (F H : Hp) (a : Addr) : D → Prop
  | .lst ds => ∃ vs, H a = some (.lst vs) ∧ RepL K F vs ds
  | .dic ks ds => ∃ kvs : List (Ky × V), H a = some (.dK kvs) ∧ ks = kvs.map (·.1) ∧ RepL K F (kvs.map (·.2)) ds
  | .dit ks ds => ∃ kvs : List (List Ky × V), H a = some (.dT kvs) ∧ ks = kvs.map (·.1) ∧ RepL K F (kvs.map (·.2)) ds
  | _ => False
theorem Cell.mono {H H' : Hp} (e : Same F F') (eh : ∀ o, H a = some o → H' a = some o) : ∀ {d : D}, Cell K F H a d → Cell K F' H' a d
  | .lst ds, h => let ⟨vs, h1, h2⟩ := h; ⟨vs, eh _ h1, h2.mono e⟩
  | .dic ks ds, h => let ⟨vs, h1, h2, h3⟩ := h; ⟨vs, eh _ h1, h2, h3.mono e⟩
  | .dit ks ds, h => let ⟨vs, h1, h2, h3⟩ := h; ⟨vs, eh _ h1, h2, h3.mono e⟩
theorem Cell.there {H : Hp} {a : Addr} : ∀ {d : D}, Cell K F H a d → ∃ o, H a = some o
  | .lst ds, h => let ⟨_, h1, _⟩ := h; ⟨_, h1⟩
  | .dic ks ds, h => let ⟨_, h1, _⟩ := h; ⟨_, h1⟩
  | .dit ks ds, h => let ⟨_, h1, _⟩ := h; ⟨_, h1⟩
/-- what stands at a own cell becomes data -/
theorem Cell.rep {H : Hp} {a : Addr} {o : HO} (ho : H a = some o) (hf : F a = none) : ∀ {d : D}, Cell K F H a d → Rep K (upd F a o) (.ref a) d := fun {d} h => by
  have e : Same F (upd F a o) := fun b u q => by rw [upd_ne (ne_of_none q hf)]; exact q
  cases d with
  | lst ds =>
    obtain ⟨vs, h1, h2⟩ := h
    rw [ho] at h1; cases h1
    exact .lst upd_same (h2.mono e)
  | dic ks ds =>
    obtain ⟨vs, h1, h2, h3⟩ := h
    rw [ho] at h1; cases h1
    exact .dic upd_same h2 (h3.mono e)
  | dit ks ds =>
    obtain ⟨vs, h1, h2, h3⟩ := h
    rw [ho] at h1; cases h1
    exact .dit upd_same h2 (h3.mono e)
  | _ => exact False.elim h
/-- looked at: data, or a cell of the def's own -/
def RepB (K : PySem.W.Frag) (F H : Hp) (v : V) (d : D) : Prop := Rep K F v d ∨ ∃ a, v = .ref a ∧ Cell K F H a d
inductive RepBL (K : PySem.W.Frag) (F H : Hp) : List V → List D → Prop
  | nil : RepBL K F H [] []
  | cons {v : V} {d : D} {vs : List V} {ds : List D} : RepB K F H v d → RepBL K F H vs ds → RepBL K F H (v :: vs) (d :: ds)
theorem RepB.mono {H H' : Hp} {v : V} {d : D} (e : Same F F') (eh : Same H H') (h : RepB K F H v d) : RepB K F' H' v d := by
  rcases h with h | ⟨a, h1, h2⟩
  · exact .inl (h.mono e)
  · exact .inr ⟨a, h1, h2.mono e fun o q => eh a o q⟩
theorem RepBL.mono {H H' : Hp} {vs : List V} {ds : List D} (e : Same F F') (eh : Same H H') (h : RepBL K F H vs ds) : RepBL K F' H' vs ds := by
  induction h with
  | nil => exact .nil
  | cons r _ ih => exact .cons (r.mono e eh) ih
/-! a looked-at thing by its kind -/
theorem RepB.int {H : Hp} {v : V} {i : Int} (h : RepB K F H v (.int i)) : v = .int i := by
  rcases h with h | ⟨a, h1, h2⟩
  · cases h; rfl
  · exact False.elim h2
theorem RepB.bl {H : Hp} {v : V} {i : Bool} (h : RepB K F H v (.bl i)) : v = .bl i := by
  rcases h with h | ⟨a, h1, h2⟩
  · cases h; rfl
  · exact False.elim h2
theorem RepB.str {H : Hp} {v : V} {i : Str} (h : RepB K F H v (.str i)) : v = .str i := by
  rcases h with h | ⟨a, h1, h2⟩
  · cases h; rfl
  · exact False.elim h2
theorem RepB.non {H : Hp} {v : V} (h : RepB K F H v .non) : v = .non := by
  rcases h with h | ⟨a, h1, h2⟩
  · cases h; rfl
  · exact False.elim h2
theorem RepB.lst {H : Hp} {v : V} {ds : List D} (fh : Same F H) (h : RepB K F H v (.lst ds)) : ∃ a vs, v = .ref a ∧ H a = some (.lst vs) ∧ RepL K F vs ds := by
  rcases h with h | ⟨a, h1, vs, h2, h3⟩
  · cases h with | lst a r => exact ⟨_, _, rfl, fh _ _ a, r⟩
  · exact ⟨a, vs, h1, h2, h3⟩
theorem RepB.tup {H : Hp} {v : V} {ds : List D} (fh : Same F H) (h : RepB K F H v (.tup ds)) : ∃ a vs, v = .ref a ∧ H a = some (.tup vs) ∧ RepL K F vs ds := by
  rcases h with h | ⟨a, h1, h2⟩
  · cases h with | tup a r => exact ⟨_, _, rfl, fh _ _ a, r⟩
  · exact False.elim h2
theorem RepB.dic {H : Hp} {v : V} {ks : List Ky} {ds : List D} (fh : Same F H) (h : RepB K F H v (.dic ks ds)) : ∃ a, ∃ kvs : List (Ky × V), v = .ref a ∧ H a = some (.dK kvs) ∧ ks = kvs.map (·.1) ∧ RepL K F (kvs.map (·.2)) ds := by
  rcases h with h | ⟨a, h1, kvs, h2, h3, h4⟩
  · cases h with | dic a q r => exact ⟨_, _, rfl, fh _ _ a, q, r⟩
  · exact ⟨a, kvs, h1, h2, h3, h4⟩
theorem RepB.dit {H : Hp} {v : V} {ks : List (List Ky)} {ds : List D} (fh : Same F H) (h : RepB K F H v (.dit ks ds)) : ∃ a, ∃ kvs : List (List Ky × V), v = .ref a ∧ H a = some (.dT kvs) ∧ ks = kvs.map (·.1) ∧ RepL K F (kvs.map (·.2)) ds := by
  rcases h with h | ⟨a, h1, kvs, h2, h3, h4⟩
  · cases h with | dit a q r => exact ⟨_, _, rfl, fh _ _ a, q, r⟩
  · exact ⟨a, kvs, h1, h2, h3, h4⟩
theorem RepB.scr {H : Hp} {v : V} {ns : List Int} (fh : Same F H) (h : RepB K F H v (.scr ns)) : ∃ a, v = .ref a ∧ SqL K H a (ns.map V.int) := by
  rcases h with h | ⟨a, h1, h2⟩
  · cases h with | scr a => exact ⟨_, rfl, fh.seq a⟩
  · exact False.elim h2
end

/-! ### a step of the heaps: F what is data, H all -/
structure Stp (F H F' H' : Hp) : Prop where
  f : Same F F'
  h : Same H H'
  fh : Same F' H'
  nw : ∀ a, H a ≠ none → F a = none → F' a = none
theorem Stp.refl {F H : Hp} (e : Same F H) : Stp F H F H := ⟨.refl _, .refl _, e, fun _ _ h => h⟩
theorem Same.some {H H' : Hp} {a : Addr} (e : Same H H') (h : H a ≠ none) : H' a ≠ none := by
  cases q : H a with
  | none => exact absurd q h
  | some o => rw [e a o q]; exact fun z => by cases z
theorem Stp.trans {F H F1 H1 F2 H2 : Hp} (a : Stp F H F1 H1) (b : Stp F1 H1 F2 H2) : Stp F H F2 H2 :=
  ⟨a.f.trans b.f, a.h.trans b.h, b.fh, fun x h1 h2 => b.nw x (VS.Same.some a.h h1) (a.nw x h1 h2)⟩
theorem same_new {F : Hp} {p : Addr} {o : HO} (h : F p = none) : Same F (upd F p o) := fun b u q => by rw [upd_ne (ne_of_none q h)]; exact q
theorem same_upd {F H : Hp} {p : Addr} {o : HO} (e : Same F H) : Same (upd F p o) (upd H p o) := fun b u q => by
  by_cases hb : b = p
  · subst hb; rw [upd_same] at q ⊢; exact q
  · rw [upd_ne hb] at q ⊢; exact e b u q
/-- a new object, data from the start -/
theorem Stp.new {F H : Hp} {p : Addr} {o : HO} (e : Same F H) (h : H p = none) : Stp F H (upd F p o) (upd H p o) :=
  ⟨same_new (e.free h), same_new h, same_upd e, fun a h1 h2 => by rw [upd_ne (fun z => by rw [z] at h1; exact h1 h)]; exact h2⟩
/-- a new object, the def's own -/
theorem Stp.own {F H : Hp} {p : Addr} {o : HO} (e : Same F H) (h : H p = none) : Stp F H F (upd H p o) :=
  ⟨.refl _, same_new h, fun b u q => by rw [upd_ne (ne_of_none (e b u q) h)]; exact e b u q, fun _ _ q => q⟩
/-- a cell of the def's own becomes data -/
theorem Stp.fz {F H F' H' : Hp} {a : Addr} {o : HO} (s : Stp F H F' H') (n : H a = none) (hf : F' a = none) (ho : H' a = some o) : Stp F H (upd F' a o) H' :=
  ⟨s.f.trans (same_new hf), s.h, fun b u q => by
    by_cases hb : b = a
    · subst hb; rw [upd_same] at q; cases q; exact ho
    · rw [upd_ne hb] at q; exact s.fh b u q, fun b h1 h2 => by rw [upd_ne (fun z => by rw [z] at h1; exact h1 n)]; exact s.nw b h1 h2⟩

/-! ### the slots -/
/-- what stands through a suite: a fact of the data; where the exception stands that is held -/
structure ZZ where
  p : Hp → Prop
  ea : Addr
structure Sr (K : PySem.W.Frag) (Z : ZZ) (F0 H0 F : Hp) (ρ : VD.Env) (σ : L2.St) (H : Hp) : Prop where
  im : ∀ F F', Same F F' → Z.p F → Z.p F'
  iv : Z.p F
  exo : ∀ i : Nat, ρ[i]? = some .exo → σ[i]? = some (some (.ref Z.ea))
  s0 : Same H0 H
  sF : Same F0 F
  fH : Same F H
  fr : ∀ a, H0 a ≠ none → F0 a = none → F a = none
  len : σ.length = ρ.length
  val : ∀ (i : Nat) d, ρ[i]? = some (.d d) → ∃ v, σ[i]? = some (some v) ∧ Rep K F v d
  own : ∀ (i : Nat) d, ρ[i]? = some (.own d) → ∃ a, σ[i]? = some (some (.ref a)) ∧ H0 a = none ∧ F a = none ∧ Cell K F H a d
  sep : ∀ (i j : Nat) d e, i ≠ j → ρ[i]? = some (.own d) → ρ[j]? = some (.own e) → σ[i]? ≠ σ[j]?
section
variable {K : PySem.W.Frag} {Z : ZZ} {F0 H0 F F' H H' : Hp} {ρ : VD.Env} {σ : L2.St}
theorem Sr.stp (s : Sr K Z F0 H0 F ρ σ H) (t : Stp F H F' H') : Sr K Z F0 H0 F' ρ σ H' where
  im := s.im
  iv := s.im _ _ t.f s.iv
  exo := s.exo
  s0 := s.s0.trans t.h
  sF := s.sF.trans t.f
  fH := t.fh
  fr := fun a h1 h2 => t.nw a (VS.Same.some s.s0 h1) (s.fr a h1 h2)
  len := s.len
  val := fun i d e => let ⟨v, h1, h2⟩ := s.val i d e; ⟨v, h1, h2.mono t.f⟩
  own := fun i d e => by
    obtain ⟨a, h1, h2, h3, h4⟩ := s.own i d e
    obtain ⟨o, ho⟩ := h4.there
    exact ⟨a, h1, h2, t.nw a (by rw [ho]; exact fun z => by cases z) h3, h4.mono t.f fun o q => t.h a o q⟩
  sep := s.sep
end
theorem get_set {α : Type} {l : List α} {i j : Nat} {x : α} {y : α} (h : (l.set i x)[j]? = some y) : (i = j ∧ y = x) ∨ (i ≠ j ∧ l[j]? = some y) := by
  by_cases e : i = j
  · subst e
    by_cases hl : i < l.length
    · rw [List.getElem?_set_self hl] at h; exact .inl ⟨rfl, (Option.some.inj h).symm⟩
    · rw [List.getElem?_eq_none (by simpa using hl)] at h; cases h
  · rw [List.getElem?_set_ne e] at h; exact .inr ⟨e, h⟩
theorem set_some {α : Type} {l : List α} {m : Nat} {i : Nat} {x y : α} {k : List β} (hl : l.length = k.length) (h : (k.set i z)[i]? = some w) : (l.set i x)[i]? = some x := by
  have : i < k.length := by
    by_cases q : i < k.length
    · exact q
    · rw [List.getElem?_eq_none (by simpa using q)] at h; cases h
  exact List.getElem?_set_self (by omega)
section
variable {K : PySem.W.Frag} {Z : ZZ} {F0 H0 F F' H H' : Hp} {ρ : VD.Env} {σ : L2.St}
/-- a slot takes data -/
theorem Sr.setD (s : Sr K Z F0 H0 F ρ σ H) (i : Nat) {v : V} {d : D} (r : Rep K F v d) : Sr K Z F0 H0 F (ρ.set i (.d d)) (σ.set i (some v)) H where
  im := s.im
  iv := s.iv
  exo := fun j h => by
    rcases get_set h with ⟨rfl, q⟩ | ⟨ne, q⟩
    · cases q
    · rw [List.getElem?_set_ne ne]; exact s.exo j q
  s0 := s.s0
  sF := s.sF
  fH := s.fH
  fr := s.fr
  len := by simp [s.len]
  val := fun j e h => by
    rcases get_set h with ⟨rfl, q⟩ | ⟨ne, q⟩
    · cases q
      have hi : i < ρ.length := by
        by_cases q : i < ρ.length
        · exact q
        · rw [List.getElem?_eq_none (by simpa using q)] at h; cases h
      exact ⟨v, List.getElem?_set_self (by rw [s.len]; exact hi), r⟩
    · rw [List.getElem?_set_ne ne]; exact s.val j e q
  own := fun j e h => by
    rcases get_set h with ⟨rfl, q⟩ | ⟨ne, q⟩
    · cases q
    · rw [List.getElem?_set_ne ne]; exact s.own j e q
  sep := fun j k d e ne h1 h2 => by
    rcases get_set h1 with ⟨rfl, q⟩ | ⟨n1, q1⟩
    · cases q
    · rcases get_set h2 with ⟨rfl, q⟩ | ⟨n2, q2⟩
      · cases q
      · rw [List.getElem?_set_ne n1, List.getElem?_set_ne n2]; exact s.sep j k d e ne q1 q2
/-- a slot takes a new cell of the def's own -/
theorem Sr.setO (s : Sr K Z F0 H0 F ρ σ H) (i : Nat) {a : Addr} {d : D} (n0 : H0 a = none) (nf : F a = none) (c : Cell K F H a d) (apart : ∀ (j : Nat) e, j ≠ i → ρ[j]? = some (.own e) → σ[j]? ≠ some (some (.ref a))) :
    Sr K Z F0 H0 F (ρ.set i (.own d)) (σ.set i (some (.ref a))) H where
  im := s.im
  iv := s.iv
  exo := fun j h => by
    rcases get_set h with ⟨rfl, q⟩ | ⟨ne, q⟩
    · cases q
    · rw [List.getElem?_set_ne ne]; exact s.exo j q
  s0 := s.s0
  sF := s.sF
  fH := s.fH
  fr := s.fr
  len := by simp [s.len]
  val := fun j e h => by
    rcases get_set h with ⟨rfl, q⟩ | ⟨ne, q⟩
    · cases q
    · rw [List.getElem?_set_ne ne]; exact s.val j e q
  own := fun j e h => by
    rcases get_set h with ⟨rfl, q⟩ | ⟨ne, q⟩
    · cases q
      have hi : i < ρ.length := by
        by_cases q : i < ρ.length
        · exact q
        · rw [List.getElem?_eq_none (by simpa using q)] at h; cases h
      exact ⟨a, List.getElem?_set_self (by rw [s.len]; exact hi), n0, nf, c⟩
    · rw [List.getElem?_set_ne ne]; exact s.own j e q
  sep := fun j k d' e ne h1 h2 => by
    have hi : ∀ {w : B}, (ρ.set i (.own d))[i]? = some w → (σ.set i (some (V.ref a)))[i]? = some (some (V.ref a)) := fun {w} h => by
      have hi : i < ρ.length := by
        by_cases q : i < ρ.length
        · exact q
        · rw [List.getElem?_eq_none (by simpa using q)] at h; cases h
      exact List.getElem?_set_self (by rw [s.len]; exact hi)
    rcases get_set h1 with ⟨rfl, q⟩ | ⟨n1, q1⟩
    · rcases get_set h2 with ⟨rfl, q⟩ | ⟨n2, q2⟩
      · exact absurd rfl ne
      · rw [hi h1, List.getElem?_set_ne n2]
        exact fun z => apart k e (Ne.symm n2) q2 z.symm
    · rcases get_set h2 with ⟨rfl, q⟩ | ⟨n2, q2⟩
      · rw [hi h2, List.getElem?_set_ne n1]
        exact apart j d' (Ne.symm n1) q1
      · rw [List.getElem?_set_ne n1, List.getElem?_set_ne n2]; exact s.sep j k d' e ne q1 q2
/-- no own cell stands where nothing stood -/
theorem Sr.apart (s : Sr K Z F0 H0 F ρ σ H) {a : Addr} (n : H a = none) (i : Nat) : ∀ (j : Nat) e, j ≠ i → ρ[j]? = some (.own e) → σ[j]? ≠ some (some (.ref a)) := fun j e _ h z => by
  obtain ⟨b, h1, _, _, h4⟩ := s.own j e h
  rw [h1] at z
  cases z
  obtain ⟨o, ho⟩ := h4.there
  rw [n] at ho; cases ho
/-- a slot is forgotten -/
theorem Sr.gone (s : Sr K Z F0 H0 F ρ σ H) (i : Nat) (x : Option V) : Sr K Z F0 H0 F (ρ.set i .nil) (σ.set i x) H where
  im := s.im
  iv := s.iv
  exo := fun j h => by
    rcases get_set h with ⟨rfl, q⟩ | ⟨ne, q⟩
    · cases q
    · rw [List.getElem?_set_ne ne]; exact s.exo j q
  s0 := s.s0
  sF := s.sF
  fH := s.fH
  fr := s.fr
  len := by simp [s.len]
  val := fun j e h => by
    rcases get_set h with ⟨rfl, q⟩ | ⟨ne, q⟩
    · cases q
    · rw [List.getElem?_set_ne ne]; exact s.val j e q
  own := fun j e h => by
    rcases get_set h with ⟨rfl, q⟩ | ⟨ne, q⟩
    · cases q
    · rw [List.getElem?_set_ne ne]; exact s.own j e q
  sep := fun j k d e ne h1 h2 => by
    rcases get_set h1 with ⟨rfl, q⟩ | ⟨n1, q1⟩
    · cases q
    · rcases get_set h2 with ⟨rfl, q⟩ | ⟨n2, q2⟩
      · cases q
      · rw [List.getElem?_set_ne n1, List.getElem?_set_ne n2]; exact s.sep j k d e ne q1 q2
theorem Sr.gone0 (s : Sr K Z F0 H0 F ρ σ H) (i : Nat) : Sr K Z F0 H0 F (ρ.set i .nil) σ H := by
  have h := s.gone i (σ[i]?.getD none)
  have e : σ.set i (σ[i]?.getD none) = σ := by
    apply List.ext_getElem?
    intro j
    by_cases q : i = j
    · subst q
      by_cases hl : i < σ.length
      · rw [List.getElem?_set_self hl]
        simp [List.getElem?_eq_getElem hl]
      · rw [List.getElem?_eq_none (by simpa using hl), List.getElem?_eq_none (by simpa using hl)]
    · rw [List.getElem?_set_ne q]
  rw [e] at h
  exact h
/-- a cell of the def's own is changed -/
theorem Sr.put (s : Sr K Z F0 H0 F ρ σ H) {i : Nat} {d d' : D} {a : Addr} {o : HO} (h : ρ[i]? = some (.own d)) (ha : σ[i]? = some (some (.ref a))) (c : Cell K F (upd H a o) a d') : Sr K Z F0 H0 F (ρ.set i (.own d')) σ (upd H a o) := by
  obtain ⟨b, h1, h2, h3, h4⟩ := s.own i d h
  rw [ha] at h1; cases h1
  have hi : i < ρ.length := (List.getElem?_eq_some_iff.mp h).1
  refine ⟨s.im, s.iv, fun j q => ?_, fun b u q => by rw [upd_ne (ne_of_none q h2)]; exact s.s0 b u q, s.sF, fun b u q => by rw [upd_ne (ne_of_none q h3)]; exact s.fH b u q, s.fr, by simp [s.len], fun j e q => ?_, fun j e q => ?_, fun j k e e' ne q1 q2 => ?_⟩
  · rcases get_set q with ⟨rfl, z⟩ | ⟨ne, z⟩
    · cases z
    · exact s.exo j z
  · rcases get_set q with ⟨rfl, z⟩ | ⟨ne, z⟩
    · cases z
    · exact s.val j e z
  · rcases get_set q with ⟨rfl, z⟩ | ⟨ne, z⟩
    · cases z; exact ⟨a, ha, h2, h3, c⟩
    · obtain ⟨b, g1, g2, g3, g4⟩ := s.own j e z
      have nb : b ≠ a := fun z' => by
        subst z'
        exact s.sep i j d e ne h z (by rw [ha, g1])
      exact ⟨b, g1, g2, g3, g4.mono (.refl _) fun o q => by rw [upd_ne nb]; exact q⟩
  · have own_of : ∀ (j : Nat) e, (ρ.set i (.own d'))[j]? = some (.own e) → ∃ e', ρ[j]? = some (.own e') := fun j e q => by
      rcases get_set q with ⟨rfl, z⟩ | ⟨ne, z⟩
      · exact ⟨_, h⟩
      · exact ⟨_, z⟩
    obtain ⟨_, z1⟩ := own_of j e q1
    obtain ⟨_, z2⟩ := own_of k e' q2
    exact s.sep j k _ _ ne z1 z2
/-- a cell of the def's own becomes data -/
theorem Sr.frz (s : Sr K Z F0 H0 F ρ σ H) (i : Nat) : ∃ F', Same F F' ∧ Sr K Z F0 H0 F' (fz1 i ρ) σ H := by
  unfold fz1
  cases e : ρ[i]? with
  | none => exact ⟨F, .refl _, s⟩
  | some b =>
    cases b with
    | nil => exact ⟨F, .refl _, s⟩
    | exo => exact ⟨F, .refl _, s⟩
    | d x => exact ⟨F, .refl _, s⟩
    | own x =>
      obtain ⟨a, h1, h2, h3, h4⟩ := s.own i x e
      obtain ⟨o, ho⟩ := h4.there
      have sm : Same F (upd F a o) := same_new h3
      refine ⟨upd F a o, sm, ⟨s.im, s.im _ _ sm s.iv, fun j q => ?_, s.s0, s.sF.trans sm, fun b u q => ?_, fun b g1 g2 => ?_, by simp [s.len], fun j d q => ?_, fun j d q => ?_, fun j k d d' ne q1 q2 => ?_⟩⟩
      · rcases get_set q with ⟨rfl, z⟩ | ⟨ne, z⟩
        · cases z
        · exact s.exo j z
      · by_cases hb : b = a
        · subst hb; rw [upd_same] at q; cases q; exact ho
        · rw [upd_ne hb] at q; exact s.fH b u q
      · have nb : b ≠ a := fun z => by subst z; exact g1 h2
        rw [upd_ne nb]; exact s.fr b g1 g2
      · rcases get_set q with ⟨rfl, z⟩ | ⟨ne, z⟩
        · cases z; exact ⟨_, h1, h4.rep ho h3⟩
        · obtain ⟨v, g1, g2⟩ := s.val j d z
          exact ⟨v, g1, g2.mono sm⟩
      · rcases get_set q with ⟨rfl, z⟩ | ⟨ne, z⟩
        · cases z
        · obtain ⟨b, g1, g2, g3, g4⟩ := s.own j d z
          have nb : b ≠ a := fun z' => by
            subst z'
            exact s.sep i j x d ne e z (by rw [h1, g1])
          exact ⟨b, g1, g2, by rw [upd_ne nb]; exact g3, g4.mono sm fun o q => q⟩
      · rcases get_set q1 with ⟨rfl, z⟩ | ⟨n1, z1⟩
        · cases z
        · rcases get_set q2 with ⟨rfl, z⟩ | ⟨n2, z2⟩
          · cases z
          · exact s.sep j k d d' ne z1 z2
theorem clr_get {ρ : VD.Env} {i : Nat} {b : B} (h : (clr ρ)[i]? = some b) : b ≠ .exo ∧ (b ≠ .nil → ρ[i]? = some b) := by
  unfold clr at h
  rw [List.getElem?_map] at h
  obtain ⟨c, h1, h2⟩ := Option.map_eq_some_iff.mp h
  cases c with
  | exo => simp only at h2; subst h2; exact ⟨fun z => by (cases z), fun z => absurd rfl z⟩
  | nil => simp only at h2; subst h2; exact ⟨fun z => by (cases z), fun z => absurd rfl z⟩
  | d x => simp only at h2; subst h2; exact ⟨fun z => by (cases z), fun _ => h1⟩
  | own x => simp only at h2; subst h2; exact ⟨fun z => by (cases z), fun _ => h1⟩
/-- the same under another fact, what is held forgotten -/
theorem Sr.turn {Y : ZZ} (s : Sr K Z F0 H0 F ρ σ H) {F1 : Hp} {ρ1 : VD.Env} {σ1 : L2.St} {H1 : Hp} (s1 : Sr K Y F0 H0 F1 ρ1 σ1 H1) (im : ∀ F F', Same F F' → Z.p F → Z.p F') (iv : Z.p F1) : Sr K Z F0 H0 F1 (clr ρ1) σ1 H1 where
  im := im
  iv := iv
  exo := fun i h => absurd rfl (clr_get h).1
  s0 := s1.s0
  sF := s1.sF
  fH := s1.fH
  fr := s1.fr
  len := by unfold clr; simp [s1.len]
  val := fun i d h => s1.val i d ((clr_get h).2 fun z => by cases z)
  own := fun i d h => s1.own i d ((clr_get h).2 fun z => by cases z)
  sep := fun i j d e ne h1 h2 => s1.sep i j d e ne ((clr_get h1).2 fun z => by cases z) ((clr_get h2).2 fun z => by cases z)
theorem Sr.hold (s : Sr K Z F0 H0 F ρ σ H) (i : Nat) (hn : ∀ j : Nat, ρ[j]? ≠ some .exo) : Sr K Z F0 H0 F (ρ.set i .exo) (σ.set i (some (.ref Z.ea))) H where
  im := s.im
  iv := s.iv
  exo := fun j h => by
    rcases get_set h with ⟨rfl, q⟩ | ⟨ne, q⟩
    · have hi : i < ρ.length := by
        by_cases q : i < ρ.length
        · exact q
        · rw [List.getElem?_eq_none (by simpa using q)] at h; cases h
      exact List.getElem?_set_self (by rw [s.len]; exact hi)
    · exact absurd q (hn j)
  s0 := s.s0
  sF := s.sF
  fH := s.fH
  fr := s.fr
  len := by simp [s.len]
  val := fun j e h => by
    rcases get_set h with ⟨rfl, q⟩ | ⟨ne, q⟩
    · cases q
    · rw [List.getElem?_set_ne ne]; exact s.val j e q
  own := fun j e h => by
    rcases get_set h with ⟨rfl, q⟩ | ⟨ne, q⟩
    · cases q
    · rw [List.getElem?_set_ne ne]; exact s.own j e q
  sep := fun j k d e ne h1 h2 => by
    rcases get_set h1 with ⟨rfl, q⟩ | ⟨n1, q1⟩
    · cases q
    · rcases get_set h2 with ⟨rfl, q⟩ | ⟨n2, q2⟩
      · cases q
      · rw [List.getElem?_set_ne n1, List.getElem?_set_ne n2]; exact s.sep j k d e ne q1 q2
end
end VS

set_option Elab.async false
set_option linter.all false
set_option maxRecDepth 100000
set_option maxHeartbeats 4000000
namespace VS
open PySem PySem.Spec L2 VD
/-! ### outcomes -/
def XRep (K : PySem.W.Frag) (F : Hp) (cl : Value) (dd : Option Addr) (c : Str) (x : Option (Str × D)) : Prop :=
  cl = .ref (He.ga K c) ∧ match x with
    | none => dd = none
    | some (f, d) => ∃ dx v, dd = some dx ∧ F dx = some (.xd [(f, v)]) ∧ Rep K F v d
theorem XRep.mono {K : PySem.W.Frag} {F F' : Hp} {cl : Value} {dd : Option Addr} {c : Str} {x : Option (Str × D)} (e : Same F F') (h : XRep K F cl dd c x) : XRep K F' cl dd c x := by
  refine ⟨h.1, ?_⟩
  have h2 := h.2
  cases x with
  | none => exact h2
  | some p =>
    obtain ⟨dx, v, h3, h4, h5⟩ := h2
    exact ⟨dx, v, h3, e _ _ h4, h5.mono e⟩
def PX {α : Type} (K : PySem.W.Frag) (W : WX) (σ : L2.St) (r : XR α) (k : α → Hp → Hp → Prop) (F H : Hp) : Prop := match r with
  | .ok a => k a F H
  | .ex c x => ∀ F' H' cl dd, Stp F H F' H' → XRep K F' cl dd c x → W cl dd σ H'
  | .bad => False
def Mon {α : Type} (k : α → Hp → Hp → Prop) : Prop := ∀ a F H F' H', Stp F H F' H' → k a F H → k a F' H'
section
variable {K : PySem.W.Frag} {Z : ZZ} {W : WX} {σ : L2.St} {α β : Type} {r : XR α} {f : α → XR β} {k k' : α → Hp → Hp → Prop} {m : β → Hp → Hp → Prop} {F H F' H' : Hp}
theorem PX.bind (h : PX K W σ (r.bind f) m F H) : PX K W σ r (fun a F H => PX K W σ (f a) m F H) F H := by
  cases r <;> exact h
theorem PX.imp (h : PX K W σ r k F H) (i : ∀ a, r = .ok a → k a F H → k' a F H) : PX K W σ r k' F H := by
  cases r with
  | ok a => exact i a rfl h
  | ex c x => exact h
  | bad => exact h
theorem PX.mono (hm : Mon k) (t : Stp F H F' H') (h : PX K W σ r k F H) : PX K W σ r k F' H' := by
  cases r with
  | ok a => exact hm _ _ _ _ _ t h
  | ex c x => exact fun F2 H2 cl dd t2 q => h F2 H2 cl dd (t.trans t2) q
  | bad => exact h
end
def kE (K : PySem.W.Frag) (Q : VK) : D → Hp → Hp → Prop := fun d F H => ∀ F' v H', Stp F H F' H' → Rep K F' v d → Q v H'
def kB (K : PySem.W.Frag) (Q : VK) : D → Hp → Hp → Prop := fun d F H => ∀ F' v H', Stp F H F' H' → RepB K F' H' v d → Q v H'
def kO (K : PySem.W.Frag) (Q : VK) : B → Hp → Hp → Prop := fun b F H => match b with
  | .d d => ∀ F' v H', Stp F H F' H' → Rep K F' v d → Q v H'
  | .own d => ∀ F' a H', Stp F H F' H' → H a = none → F' a = none → Cell K F' H' a d → Q (.ref a) H'
  | _ => False
def kT (Q : Bool → Hp → Prop) : Bool → Hp → Hp → Prop := fun c F H => ∀ F' H', Stp F H F' H' → Q c H'
def kA (K : PySem.W.Frag) (Q : List V → Hp → Prop) : List D → Hp → Hp → Prop := fun ds F H => ∀ F' vs H', Stp F H F' H' → RepL K F' vs ds → Q vs H'
def kAB (K : PySem.W.Frag) (Q : List V → Hp → Prop) : List D → Hp → Hp → Prop := fun ds F H => ∀ F' vs H', Stp F H F' H' → RepBL K F' H' vs ds → Q vs H'
def kP (Q : Option Int → Hp → Prop) : Option Int → Hp → Hp → Prop := fun c F H => ∀ F' H', Stp F H F' H' → Q c H'
theorem kE_mon {K : PySem.W.Frag} {Q : VK} : Mon (kE K Q) := fun _ _ _ _ _ t h F2 v H2 t2 q => h F2 v H2 (t.trans t2) q
theorem kB_mon {K : PySem.W.Frag} {Q : VK} : Mon (kB K Q) := fun _ _ _ _ _ t h F2 v H2 t2 q => h F2 v H2 (t.trans t2) q
theorem kO_mon {K : PySem.W.Frag} {Q : VK} : Mon (kO K Q) := fun b _ _ _ _ t h => by
  cases b with
  | d d => exact fun F2 v H2 t2 q => h F2 v H2 (t.trans t2) q
  | own d => exact fun F2 v H2 t2 n q => h F2 v H2 (t.trans t2) (t.h.free n) q
  | nil => exact h
  | exo => exact h
theorem kT_mon {Q : Bool → Hp → Prop} : Mon (kT Q) := fun _ _ _ _ _ t h F2 H2 t2 => h F2 H2 (t.trans t2)
theorem kA_mon {K : PySem.W.Frag} {Q : List V → Hp → Prop} : Mon (kA K Q) := fun _ _ _ _ _ t h F2 v H2 t2 q => h F2 v H2 (t.trans t2) q
theorem kAB_mon {K : PySem.W.Frag} {Q : List V → Hp → Prop} : Mon (kAB K Q) := fun _ _ _ _ _ t h F2 v H2 t2 q => h F2 v H2 (t.trans t2) q
theorem kP_mon {Q : Option Int → Hp → Prop} : Mon (kP Q) := fun _ _ _ _ _ t h F2 H2 t2 => h F2 H2 (t.trans t2)
theorem Mon.px {K : PySem.W.Frag} {W : WX} {σ : L2.St} {α β : Type} {f : α → XR β} {m : β → Hp → Hp → Prop} (hm : Mon m) : Mon (fun a F H => PX K W σ (f a) m F H) := fun _ _ _ _ _ t h => h.mono hm t

/-! ### the judgements: a reading, and what it computes -/
structure SE (K : PySem.W.Frag) (Z : ZZ) (W : WX) (te : TE) (f : Ex) : Prop where
  run : ∀ {F0 H0 F : Hp} {ρ : VD.Env} {σ : L2.St} {H : Hp} {Q : VK}, Sr K Z F0 H0 F ρ σ H → PX K W σ (f ρ) (kE K Q) F H → te σ H Q
structure SB (K : PySem.W.Frag) (Z : ZZ) (W : WX) (te : TE) (f : Ex) : Prop where
  run : ∀ {F0 H0 F : Hp} {ρ : VD.Env} {σ : L2.St} {H : Hp} {Q : VK}, Sr K Z F0 H0 F ρ σ H → PX K W σ (f ρ) (kB K Q) F H → te σ H Q
structure SO (K : PySem.W.Frag) (Z : ZZ) (W : WX) (te : TE) (f : ExO) : Prop where
  run : ∀ {F0 H0 F : Hp} {ρ : VD.Env} {σ : L2.St} {H : Hp} {Q : VK}, Sr K Z F0 H0 F ρ σ H → PX K W σ (f ρ) (kO K Q) F H → te σ H Q
structure ST (K : PySem.W.Frag) (Z : ZZ) (W : WX) (te : TT) (f : ExT) : Prop where
  run : ∀ {F0 H0 F : Hp} {ρ : VD.Env} {σ : L2.St} {H : Hp} {Q : Bool → Hp → Prop}, Sr K Z F0 H0 F ρ σ H → PX K W σ (f ρ) (kT Q) F H → te σ H Q
structure SA (K : PySem.W.Frag) (Z : ZZ) (W : WX) (te : TA) (f : ExA) : Prop where
  run : ∀ {F0 H0 F : Hp} {ρ : VD.Env} {σ : L2.St} {H : Hp} {Q : List V → Hp → Prop}, Sr K Z F0 H0 F ρ σ H → PX K W σ (f ρ) (kA K Q) F H → te σ H Q
structure SAB (K : PySem.W.Frag) (Z : ZZ) (W : WX) (te : TA) (f : ExA) : Prop where
  run : ∀ {F0 H0 F : Hp} {ρ : VD.Env} {σ : L2.St} {H : Hp} {Q : List V → Hp → Prop}, Sr K Z F0 H0 F ρ σ H → PX K W σ (f ρ) (kAB K Q) F H → te σ H Q
structure SPt (K : PySem.W.Frag) (Z : ZZ) (W : WX) (te : TO) (f : ExP) : Prop where
  run : ∀ {F0 H0 F : Hp} {ρ : VD.Env} {σ : L2.St} {H : Hp} {Q : Option Int → Hp → Prop}, Sr K Z F0 H0 F ρ σ H → PX K W σ (f ρ) (kP Q) F H → te σ H Q
/-- a two-place operation on what stands for data -/
def OpS (K : PySem.W.Frag) (r : R2) (g : D → D → XR B) : Prop := ∀ (W : WX) (σ : L2.St) (F H : Hp) (x y : V) (a b : D) (Q : VK), Same F H → RepB K F H x a → RepB K F H y b → PX K W σ (g a b) (kO K Q) F H → r x y H Q
def UnS (K : PySem.W.Frag) (r : V → Hp → VK → Prop) (g : D → XR B) : Prop := ∀ (W : WX) (σ : L2.St) (F H : Hp) (x : V) (a : D) (Q : VK), Same F H → RepB K F H x a → PX K W σ (g a) (kO K Q) F H → r x H Q
def CallS (K : PySem.W.Frag) (r : List V → Hp → VK → Prop) (g : List D → XR B) : Prop := ∀ (W : WX) (σ : L2.St) (F H : Hp) (xs : List V) (as : List D) (Q : VK), Same F H → RepBL K F H xs as → PX K W σ (g as) (kO K Q) F H → r xs H Q
def MtS (K : PySem.W.Frag) (r : V → List V → Hp → VK → Prop) (g : D → List D → XR B) : Prop := ∀ (W : WX) (σ : L2.St) (F H : Hp) (x : V) (xs : List V) (a : D) (as : List D) (Q : VK), Same F H → RepB K F H x a → RepBL K F H xs as → PX K W σ (g a as) (kO K Q) F H → r x xs H Q
section
variable {K : PySem.W.Frag} {Z : ZZ} {W : WX} {ta tb tc te : TE} {f g : Ex} {o o' : ExO} {t u : TT} {p q : ExT} {tr : TA} {a : ExA} {tl th : TO} {l h : ExP}
theorem se_var (i : Nat) : SE K Z W (tVar i) (eVar i) := ⟨fun {F0 H0 F ρ σ H Q} s h => by
  unfold eVar at h
  cases e : ρ[i]? with
  | none => rw [e] at h; exact False.elim h
  | some b =>
    rw [e] at h
    cases b with
    | d x =>
      obtain ⟨v, h1, h2⟩ := s.val i x e
      exact ⟨v, h1, h F v H (.refl s.fH) h2⟩
    | _ => exact False.elim h⟩
theorem sb_look (i : Nat) : SB K Z W (tVar i) (eLook i) := ⟨fun {F0 H0 F ρ σ H Q} s h => by
  unfold eLook at h
  cases e : ρ[i]? with
  | none => rw [e] at h; exact False.elim h
  | some b =>
    rw [e] at h
    cases b with
    | d x =>
      obtain ⟨v, h1, h2⟩ := s.val i x e
      exact ⟨v, h1, h F v H (.refl s.fH) (.inl h2)⟩
    | own x =>
      obtain ⟨v, h1, _, _, h2⟩ := s.own i x e
      exact ⟨_, h1, h F _ H (.refl s.fH) (.inr ⟨v, rfl, h2⟩)⟩
    | nil => exact False.elim h
    | exo => exact False.elim h⟩
theorem se_c {v : V} {d : D} (r : ∀ F, Rep K F v d) : SE K Z W (tC v) (eC d) := ⟨fun s h => h _ v _ (.refl s.fH) (r _)⟩
theorem se_int {i : Int} : SE K Z W (tC (.int i)) (eC (.int i)) := se_c fun _ => .int i
theorem se_str {i : Str} : SE K Z W (tC (.str i)) (eC (.str i)) := se_c fun _ => .str i
theorem se_bl {i : Bool} : SE K Z W (tC (.bl i)) (eC (.bl i)) := se_c fun _ => .bl i
theorem se_non : SE K Z W (tC .non) (eC .non) := se_c fun _ => .non
theorem sb_of (h : SE K Z W te f) : SB K Z W te f := ⟨fun s q => h.run s (q.imp fun _ _ k F' v H' t r => k F' v H' t (.inl r))⟩
theorem so_of (h : SE K Z W te f) : SO K Z W te (oE f) := ⟨fun s q => h.run s ((PX.bind q).imp fun _ _ k F' v H' t r => k F' v H' t r)⟩
theorem se_fz (h : SO K Z W te o) : SE K Z W te (eFz o) := ⟨fun s q => h.run s ((PX.bind q).imp fun b _ k => by
  cases b with
  | nil => exact False.elim k
  | exo => exact False.elim k
  | d d => exact fun F' v H' t r => k F' v H' t r
  | own d =>
    intro F' a H' t n nf c
    obtain ⟨ob, ho⟩ := c.there
    exact k _ _ _ (t.fz n nf ho) (c.rep ho nf))⟩
theorem sb_fz (h : SO K Z W te o) : SB K Z W te (eFz o) := sb_of (se_fz h)
theorem so_op {r : R2} {z : D → D → XR B} (ho : OpS K r z) (ha : SB K Z W ta f) (hb : SB K Z W tb g) : SO K Z W (tOp r ta tb) (oOp z f g) := ⟨fun s h => ha.run s ((PX.bind h).imp fun x _ h1 F1 v1 H1 t1 r1 =>
  hb.run (s.stp t1) ((PX.bind (h1.mono kO_mon t1)).imp fun y _ h2 F2 v2 H2 t2 r2 => ho W _ F2 H2 v1 v2 x y _ t2.fh (r1.mono t2.f t2.h) r2 (h2.mono kO_mon t2)))⟩
theorem so_un {r : V → Hp → VK → Prop} {z : D → XR B} (ho : UnS K r z) (ha : SB K Z W ta f) : SO K Z W (tUn r ta) (oUn z f) := ⟨fun s h => ha.run s ((PX.bind h).imp fun x _ h1 F1 v1 H1 t1 r1 =>
  ho W _ F1 H1 v1 x _ t1.fh r1 (h1.mono kO_mon t1))⟩
theorem sa_nil : SA K Z W tNil aNil := ⟨fun s h => h _ _ _ (.refl s.fH) .nil⟩
theorem sa_cons (ha : SE K Z W ta f) (hr : SA K Z W tr a) : SA K Z W (tCons ta tr) (aCons f a) := ⟨fun s h => ha.run s ((PX.bind h).imp fun x _ h1 F1 v1 H1 t1 r1 =>
  hr.run (s.stp t1) ((PX.bind (h1.mono kA_mon t1)).imp fun xs _ h2 F2 vs H2 t2 r2 => h2 F2 _ H2 t2 (.cons (r1.mono t2.f) r2)))⟩
theorem sab_nil : SAB K Z W tNil aNil := ⟨fun s h => h _ _ _ (.refl s.fH) .nil⟩
theorem sab_cons (ha : SB K Z W ta f) (hr : SAB K Z W tr a) : SAB K Z W (tCons ta tr) (aCons f a) := ⟨fun s h => ha.run s ((PX.bind h).imp fun x _ h1 F1 v1 H1 t1 r1 =>
  hr.run (s.stp t1) ((PX.bind (h1.mono kAB_mon t1)).imp fun xs _ h2 F2 vs H2 t2 r2 => h2 F2 _ H2 t2 (.cons (r1.mono t2.f t2.h) r2)))⟩
theorem lim_line {n : Nat} (h : n ≤ LIM) : n ≤ sizeLine := Nat.le_trans h (by decide)
theorem lim_lt {n : Nat} (h : n < LIM) : n < sizeLine := Nat.lt_of_lt_of_le h (by decide)
theorem so_cb {r : List V → Hp → VK → Prop} {z : List D → XR B} (hc : CallS K r z) (ha : SAB K Z W tr a) : SO K Z W (tCB r tr) (oCall z a) := ⟨fun s h => ha.run s ((PX.bind h).imp fun xs _ h1 F1 vs H1 t1 r1 =>
  hc W _ F1 H1 vs xs _ t1.fh r1 (h1.mono kO_mon t1))⟩
theorem so_tup (ha : SA K Z W tr a) : SO K Z W (tTup tr) (oTup a) := ⟨fun s h => ha.run s ((PX.bind h).imp fun xs _ h1 F1 vs H1 t1 r1 => by
  by_cases hl : xs.length ≤ LIM
  · rw [if_pos hl] at h1
    refine ⟨by rw [r1.length]; exact lim_line hl, fun p hp => ?_⟩
    exact h1 _ _ _ (t1.trans (.new t1.fh hp)) (.tup upd_same (r1.mono (same_new (t1.fh.free hp))))
  · rw [if_neg hl] at h1; exact False.elim h1)⟩
theorem so_lst (ha : SA K Z W tr a) : SO K Z W (tLst tr) (oLst a) := ⟨fun s h => ha.run s ((PX.bind h).imp fun xs _ h1 F1 vs H1 t1 r1 => by
  by_cases hl : xs.length ≤ LIM
  · rw [if_pos hl] at h1
    refine ⟨by rw [r1.length]; exact lim_line hl, fun p hp => ?_⟩
    exact h1 _ _ _ (t1.trans (.own t1.fh hp)) (t1.h.free hp) (t1.fh.free hp) ⟨vs, upd_same, r1⟩
  · rw [if_neg hl] at h1; exact False.elim h1)⟩
theorem se_and (ha : SE K Z W ta f) (hb : SE K Z W tb g) : SE K Z W (tAndV ta tb) (eAnd f g) := ⟨fun s h => ha.run s ((PX.bind h).imp fun x _ h1 F1 v1 H1 t1 r1 => by
  cases x with
  | bl c =>
    cases r1
    refine ⟨c, rfl, ?_⟩
    cases c with
    | true => exact hb.run (s.stp t1) (PX.mono kE_mon t1 h1)
    | false => exact h1 F1 _ H1 t1 (.bl false)
  | _ => exact False.elim h1)⟩
theorem se_or (ha : SE K Z W ta f) (hb : SE K Z W tb g) : SE K Z W (tOrV ta tb) (eOr f g) := ⟨fun s h => ha.run s ((PX.bind h).imp fun x _ h1 F1 v1 H1 t1 r1 => by
  cases x with
  | bl c =>
    cases r1
    refine ⟨c, rfl, ?_⟩
    cases c with
    | true => exact h1 F1 _ H1 t1 (.bl true)
    | false => exact hb.run (s.stp t1) (PX.mono kE_mon t1 h1)
  | _ => exact False.elim h1)⟩
theorem se_not (ha : SE K Z W ta f) : SE K Z W (tNotV ta) (eNot f) := ⟨fun s h => ha.run s ((PX.bind h).imp fun x _ h1 F1 v1 H1 t1 r1 => by
  cases x with
  | bl c =>
    cases r1
    exact ⟨c, rfl, h1 F1 _ H1 t1 (.bl _)⟩
  | _ => exact False.elim h1)⟩
theorem se_if (ht : ST K Z W t p) (ha : SE K Z W ta f) (hb : SE K Z W tb g) : SE K Z W (tIf t ta tb) (eIf p f g) := ⟨fun s h => ht.run s ((PX.bind h).imp fun c _ h1 F1 H1 t1 => by
  cases c with
  | true => exact ha.run (s.stp t1) (PX.mono kE_mon t1 h1)
  | false => exact hb.run (s.stp t1) (PX.mono kE_mon t1 h1))⟩
theorem st_test (h : SO K Z W te o) : ST K Z W (tTest te) (bOf o) := ⟨fun s q => h.run s ((PX.bind q).imp fun b _ k => by
  cases b with
  | nil => exact False.elim k
  | exo => exact False.elim k
  | own d => exact False.elim k
  | d d =>
    cases d with
    | bl c =>
      intro F' v H' t r
      cases r
      exact ⟨c, rfl, k F' H' t⟩
    | _ => exact False.elim k)⟩
theorem st_B (h : SO K Z W te o) : ST K Z W (tB te) (bOf o) := st_test h
theorem st_and (ha : ST K Z W t p) (hb : ST K Z W u q) : ST K Z W (L2.tAnd t u) (bAnd p q) := ⟨fun s h => ha.run s ((PX.bind h).imp fun c _ h1 F1 H1 t1 => by
  cases c with
  | true => exact hb.run (s.stp t1) (PX.mono kT_mon t1 h1)
  | false => exact h1 F1 H1 t1)⟩
theorem st_or (ha : ST K Z W t p) (hb : ST K Z W u q) : ST K Z W (L2.tOr t u) (bOr p q) := ⟨fun s h => ha.run s ((PX.bind h).imp fun c _ h1 F1 H1 t1 => by
  cases c with
  | true => exact h1 F1 H1 t1
  | false => exact hb.run (s.stp t1) (PX.mono kT_mon t1 h1))⟩
theorem st_not (ha : ST K Z W t p) : ST K Z W (L2.tNot t) (bNot p) := ⟨fun s h => ha.run s ((PX.bind h).imp fun c _ h1 F1 H1 t1 => h1 F1 H1 t1)⟩
theorem st_yes : ST K Z W L2.tYes bYes := ⟨fun s h => h _ _ (.refl s.fH)⟩
theorem so_chain {r r' : R2} {z z' : D → D → XR B} (ho : OpS K r z) (ho' : OpS K r' z') (ha : SB K Z W ta f) (hb : SB K Z W tb g) {e : Ex} (hc : SB K Z W tc e) : SO K Z W (tChain r r' ta tb tc) (oChain z z' f g e) := ⟨fun s h => ha.run s ((PX.bind h).imp fun x _ h1 F1 v1 H1 t1 r1 =>
  hb.run (s.stp t1) ((PX.bind (h1.mono kO_mon t1)).imp fun y _ h2 F2 v2 H2 t2 r2 => ho W _ F2 H2 v1 v2 x y _ t2.fh (r1.mono t2.f t2.h) r2 ((PX.bind (h2.mono kO_mon t2)).imp fun b _ k => by
    cases b with
    | nil => exact False.elim k
    | exo => exact False.elim k
    | own d => exact False.elim k
    | d d =>
      cases d with
      | bl c =>
        intro F3 v3 H3 t3 r3
        cases r3
        refine ⟨c, rfl, ?_⟩
        cases c with
        | true => exact hc.run ((s.stp t1).stp (t2.trans t3)) ((PX.bind (PX.mono kO_mon t3 k)).imp fun w _ h4 F4 v4 H4 t4 r4 => ho' W _ F4 H4 v2 v4 y w _ t4.fh (r2.mono (t3.trans t4).f (t3.trans t4).h) r4 (h4.mono kO_mon t4))
        | false => exact k F3 _ H3 t3 (.bl false)
      | _ => exact False.elim k)))⟩
theorem sp_none : SPt K Z W tNoPart pNone := ⟨fun s h => h _ _ (.refl s.fH)⟩
theorem sp_some (ha : SB K Z W te f) : SPt K Z W (tPart te) (pSome f) := ⟨fun s h => ha.run s ((PX.bind h).imp fun x _ h1 F1 v1 H1 t1 r1 => by
  cases x with
  | int i =>
    cases r1.int
    exact ⟨i, rfl, h1 F1 H1 t1⟩
  | _ => exact False.elim h1)⟩
end
/-! ### scalars out -/
section
variable {K : PySem.W.Frag} {Z : ZZ} {Q : VK} {F H : Hp}
theorem kO.int {i : Int} (e : Same F H) (h : kO K Q (.d (.int i)) F H) : Q (.int i) H := h F _ H (.refl e) (.int i)
theorem kO.str {i : Str} (e : Same F H) (h : kO K Q (.d (.str i)) F H) : Q (.str i) H := h F _ H (.refl e) (.str i)
theorem kO.bl {i : Bool} (e : Same F H) (h : kO K Q (.d (.bl i)) F H) : Q (.bl i) H := h F _ H (.refl e) (.bl i)
theorem kO.non (e : Same F H) (h : kO K Q (.d .non) F H) : Q .non H := h F _ H (.refl e) .non
/-- a new list -/
theorem kO.lst {ds : List D} {vs : List V} (e : Same F H) (h : kO K Q (.own (.lst ds)) F H) (r : RepL K F vs ds) : ∀ p, H p = none → Q (.ref p) (upd H p (.lst vs)) := fun p hp =>
  h F p _ (.own e hp) hp (e.free hp) ⟨vs, upd_same, r⟩
theorem px_if {α : Type} {K : PySem.W.Frag} {W : WX} {σ : L2.St} {c : Prop} [Decidable c] {r : XR α} {k : α → Hp → Hp → Prop} {F H : Hp} (h : PX K W σ (if c then r else .bad) k F H) : c ∧ PX K W σ r k F H := by
  by_cases hc : c
  · rw [if_pos hc] at h; exact ⟨hc, h⟩
  · rw [if_neg hc] at h; exact False.elim h
end
theorem mulB_ok {i j : Int} (h : mulB i j = true) : CMul i j ∨ CMulW i j := by
  unfold mulB at h
  simp only [Bool.or_eq_true, decide_eq_true_eq] at h
  rcases h with (h | h) | h
  · exact .inl (.inl (by omega))
  · exact .inl (.inr (by omega))
  · exact .inr h
theorem divB_ok {i j : Int} (h : divB j = true) : CDivW i j := by
  have q := of_decide_eq_true h
  exact q
theorem powB_ok {i j : Int} (h : powB i j = true) : CPow i j := by
  have q := of_decide_eq_true h
  exact ⟨q.1, by omega, q.2.2⟩
/-! ### operators -/
abbrev rAddA : R2 := fun x y H Q => rI0 (fun i j => .int (i + j)) x y H Q ∨ ((∃ i j, x = .str i ∧ y = .str j ∧ i.length + j.length ≤ sizeLine ∧ Q (.str (i ++ j)) H) ∨ rCat x y H Q)
theorem op_addA {X : Cx} : OpR X (binaryOp .Add) rAddA := op_add.or (op_add_str.or op_cat)
abbrev rMulA : R2 := fun x y H Q => (rI CMul (fun i j => .int (i * j)) x y H Q ∨ rI CMulW (fun i j => .int (i * j)) x y H Q) ∨ rRep x y H Q
theorem op_mulA {X : Cx} : OpR X (binaryOp .Mult) rMulA := (op_mul.or op_mulW).or op_rep
section
variable {K : PySem.W.Frag} {Z : ZZ}
theorem s_add : OpS K rAddA opAdd := fun W σ F H x y a b Q e rx ry h => by
  cases a with
  | int i => cases b with
    | int j => cases rx.int; cases ry.int; exact .inl ⟨i, j, rfl, rfl, kO.int e h⟩
    | _ => exact False.elim h
  | str i => cases b with
    | str j =>
      cases rx.str; cases ry.str
      obtain ⟨h1, h2⟩ := px_if h
      exact .inr (.inl ⟨i, j, rfl, rfl, lim_line h1, kO.str e h2⟩)
    | _ => exact False.elim h
  | lst xs => cases b with
    | lst ys =>
      obtain ⟨p, vs, rfl, hp, r1⟩ := rx.lst e
      obtain ⟨q, ws, rfl, hq, r2⟩ := ry.lst e
      obtain ⟨h1, h2⟩ := px_if h
      exact .inr (.inr ⟨p, q, vs, ws, rfl, rfl, hp, hq, by rw [r1.length, r2.length]; exact lim_line h1, kO.lst e h2 (r1.append r2)⟩)
    | _ => exact False.elim h
  | _ => exact False.elim h
theorem s_sub : OpS K (rI0 fun i j => .int (i - j)) opSub := fun W σ F H x y a b Q e rx ry h => by
  cases a with
  | int i => cases b with
    | int j => cases rx.int; cases ry.int; exact ⟨i, j, rfl, rfl, kO.int e h⟩
    | _ => exact False.elim h
  | _ => exact False.elim h
theorem repL_rep {F : Hp} {vs : List V} {ds : List D} (r : RepL K F vs ds) : ∀ n : Nat, RepL K F (List.replicate n vs).flatten (List.replicate n ds).flatten
  | 0 => .nil
  | n + 1 => by
    rw [List.replicate_succ, List.replicate_succ, List.flatten_cons, List.flatten_cons]
    exact r.append (repL_rep r n)
theorem s_mul : OpS K rMulA opMul := fun W σ F H x y a b Q e rx ry h => by
  cases a with
  | int i => cases b with
    | int j =>
      cases rx.int; cases ry.int
      obtain ⟨h1, h2⟩ := px_if h
      exact .inl ((mulB_ok h1).imp (fun c => ⟨i, j, rfl, rfl, c, kO.int e h2⟩) fun c => ⟨i, j, rfl, rfl, c, kO.int e h2⟩)
    | _ => exact False.elim h
  | lst xs => cases b with
    | int k =>
      cases ry.int
      obtain ⟨p, vs, rfl, hp, r1⟩ := rx.lst e
      obtain ⟨⟨h1, h2⟩, h4⟩ := px_if h
      refine .inr ⟨p, k, vs, rfl, rfl, hp, by omega, by omega, by rw [r1.length]; exact lim_line h1, ?_⟩
      exact kO.lst e h4 (repL_rep r1 _)
    | _ => exact False.elim h
  | _ => exact False.elim h
theorem s_div : OpS K (rI CDivW fun i j => .int (i / j)) opDiv := fun W σ F H x y a b Q e rx ry h => by
  cases a with
  | int i => cases b with
    | int j =>
      cases rx.int; cases ry.int
      obtain ⟨h1, h2⟩ := px_if h
      exact ⟨i, j, rfl, rfl, divB_ok h1, kO.int e h2⟩
    | _ => exact False.elim h
  | _ => exact False.elim h
theorem s_mod : OpS K (rI (fun _ j => 0 < j) fun i j => .int (i % j)) opMod := fun W σ F H x y a b Q e rx ry h => by
  cases a with
  | int i => cases b with
    | int j =>
      cases rx.int; cases ry.int
      obtain ⟨h1, h2⟩ := px_if h
      exact ⟨i, j, rfl, rfl, h1, kO.int e h2⟩
    | _ => exact False.elim h
  | _ => exact False.elim h
theorem s_pow : OpS K (rI CPow fun i j => .int (i ^ j.toNat)) opPow := fun W σ F H x y a b Q e rx ry h => by
  cases a with
  | int i => cases b with
    | int j =>
      cases rx.int; cases ry.int
      obtain ⟨h1, h2⟩ := px_if h
      exact ⟨i, j, rfl, rfl, powB_ok h1, kO.int e h2⟩
    | _ => exact False.elim h
  | _ => exact False.elim h
theorem s_neg : UnS K (rU fun i => .int (-i)) opNeg := fun W σ F H x a Q e rx h => by
  cases a with
  | int i => cases rx.int; exact ⟨i, rfl, kO.int e h⟩
  | _ => exact False.elim h
end
end VS

set_option Elab.async false
set_option linter.all false
set_option maxRecDepth 100000
set_option maxHeartbeats 4000000
namespace VS
open PySem PySem.Spec L2 VD
/-! ### == -/
mutual
def toP : D → PyData
  | .bl b => .bool b
  | .int i => .int i
  | .str x => .str x
  | .lst xs => .list (toPs xs)
  | .tup xs => .tuple (toPs xs)
  | _ => .none
def toPs : List D → List PyData
  | [] => []
  | x :: xs => toP x :: toPs xs
end
mutual
theorem eqv_toP : ∀ a b : D, plain a = true → plain b = true → PyData.eqv (toP a) (toP b) = eqD a b
  | .non, b, _, h => by cases b <;> first | rfl | cases h
  | .bl x, b, _, h => by cases b <;> first | rfl | (cases x <;> rfl) | cases h
  | .int x, b, _, h => by cases b <;> first | rfl | (rename_i y; cases y <;> rfl) | cases h
  | .str x, b, _, h => by cases b <;> first | rfl | cases h
  | .lst xs, b, g, h => by
    cases b with
    | lst ys => exact eqv_toPs xs ys g h
    | _ => first | rfl | cases h
  | .tup xs, b, g, h => by
    cases b with
    | tup ys => exact eqv_toPs xs ys g h
    | _ => first | rfl | cases h
  | .dic _ _, _, h, _ => by cases h
  | .dit _ _, _, h, _ => by cases h
  | .obj _ _ _, _, h, _ => by cases h
  | .scr _, _, h, _ => by cases h
theorem eqv_toPs : ∀ a b : List D, plainL a = true → plainL b = true → PyData.eqvAll (toPs a) (toPs b) = eqL a b
  | [], [], _, _ => rfl
  | [], _ :: _, _, _ => rfl
  | _ :: _, [], _, _ => rfl
  | x :: xs, y :: ys, g, h => by
    obtain ⟨g1, g2⟩ := Bool.and_eq_true_iff.mp (show (plain x && plainL xs) = true from g)
    obtain ⟨h1, h2⟩ := Bool.and_eq_true_iff.mp (show (plain y && plainL ys) = true from h)
    show (PyData.eqv (toP x) (toP y) && PyData.eqvAll (toPs xs) (toPs ys)) = (eqD x y && eqL xs ys)
    rw [eqv_toP x y g1 h1, eqv_toPs xs ys g2 h2]
end
mutual
theorem lay_toP : ∀ a : D, plain a = true → (toP a).canLay0 = true
  | .non, _ => rfl
  | .bl x, _ => rfl
  | .int x, _ => rfl
  | .str x, h => h
  | .lst xs, g => lay_toPs xs g
  | .tup xs, g => lay_toPs xs g
  | .dic _ _, h => by cases h
  | .dit _ _, h => by cases h
  | .obj _ _ _, h => by cases h
  | .scr _, h => by cases h
theorem lay_toPs : ∀ a : List D, plainL a = true → PyData.canLayAll0 (toPs a) = true
  | [], _ => rfl
  | x :: xs, g => by
    obtain ⟨g1, g2⟩ := Bool.and_eq_true_iff.mp (show (plain x && plainL xs) = true from g)
    show ((toP x).canLay0 && PyData.canLayAll0 (toPs xs)) = true
    rw [lay_toP x g1, lay_toPs xs g2]
    rfl
end
mutual
theorem depth_toP : ∀ a : D, (toP a).depth = depth a
  | .non => rfl
  | .bl x => rfl
  | .int x => rfl
  | .str x => rfl
  | .lst xs => by
    show PyData.depthAll (toPs xs) + 1 = depthL xs + 1
    rw [depth_toPs xs]
  | .tup xs => by
    show PyData.depthAll (toPs xs) + 1 = depthL xs + 1
    rw [depth_toPs xs]
  | .dic _ _ => rfl
  | .dit _ _ => rfl
  | .obj _ _ _ => rfl
  | .scr _ => rfl
theorem depth_toPs : ∀ a : List D, PyData.depthAll (toPs a) = depthL a
  | [] => rfl
  | x :: xs => by
    show max (toP x).depth (PyData.depthAll (toPs xs)) = max (depth x) (depthL xs)
    rw [depth_toP x, depth_toPs xs]
end
section
variable {K : PySem.W.Frag} {Z : ZZ} {F H : Hp}
mutual
theorem dp_of (e : Same F H) : ∀ (d : D) (v : V), plain d = true → Rep K F v d → Dp K H v (toP d)
  | .non, _, _, h => by cases h; exact .non
  | .bl _, _, _, h => by cases h; exact .bl _
  | .int _, _, _, h => by cases h; exact .int _
  | .str _, _, _, h => by cases h; exact .str _
  | .lst ds, _, g, h => by cases h with | lst a r => exact .lst (.of (e _ _ a)) (dps_of e ds _ g r)
  | .tup ds, _, g, h => by cases h with | tup a r => exact .tup (.of (e _ _ a)) (dps_of e ds _ g r)
  | .dic _ _, _, h, _ => by cases h
  | .dit _ _, _, h, _ => by cases h
  | .obj _ _ _, _, h, _ => by cases h
  | .scr _, _, h, _ => by cases h
theorem dps_of (e : Same F H) : ∀ (ds : List D) (vs : List V), plainL ds = true → RepL K F vs ds → DpAll K H vs (toPs ds)
  | [], _, _, h => by cases h; exact .nil
  | d :: ds, _, g, h => by
    obtain ⟨g1, g2⟩ := Bool.and_eq_true_iff.mp (show (plain d && plainL ds) = true from g)
    cases h with | cons r t => exact .cons (dp_of e d _ g1 r) (dps_of e ds _ g2 t)
end
theorem RepB.dp (e : Same F H) {v : V} {d : D} (g : plain d = true) (h : RepB K F H v d) : Dp K H v (toP d) := by
  rcases h with h | ⟨a, rfl, c⟩
  · exact dp_of e d v g h
  · cases d with
    | lst ds =>
      obtain ⟨vs, h1, h2⟩ := c
      exact .lst (.of h1) (dps_of e ds _ g h2)
    | dic _ _ => cases g
    | dit _ _ => cases g
    | _ => exact False.elim c
theorem eqOk_of {a b : D} (h : eqOk a b = true) : plain a = true ∧ plain b = true ∧ SeqAt.shaped (toP a) = true ∧ SeqAt.shaped (toP b) = true := by
  unfold eqOk at h
  simp only [Bool.and_eq_true, decide_eq_true_eq] at h
  obtain ⟨⟨⟨h1, h2⟩, h3⟩, h4⟩ := h
  refine ⟨h1, h2, ?_, ?_⟩
  · unfold SeqAt.shaped
    rw [lay_toP a h1, depth_toP, decide_eq_true (show depth a ≤ 64 by omega)]
    rfl
  · unfold SeqAt.shaped
    rw [lay_toP b h2, depth_toP, decide_eq_true (show depth b ≤ 64 by omega)]
    rfl
theorem scal_of {x y : V} {a b : D} (g : scalP a b = true) (rx : RepB K F H x a) (ry : RepB K F H y b) : scal x y = true ∧ decide (x = y) = eqD a b := by
  cases a with
  | non =>
    cases rx.non
    cases b with
    | non => cases ry.non; exact ⟨rfl, rfl⟩
    | bl j => cases ry.bl; exact ⟨rfl, rfl⟩
    | int j => cases ry.int; exact ⟨rfl, rfl⟩
    | str j => cases ry.str; exact ⟨rfl, rfl⟩
    | _ => cases g
  | bl i =>
    cases rx.bl
    cases b with
    | non => cases ry.non; exact ⟨rfl, rfl⟩
    | bl j => cases ry.bl; exact ⟨rfl, dec_bl⟩
    | str j => cases ry.str; exact ⟨rfl, rfl⟩
    | _ => cases g
  | int i =>
    cases rx.int
    cases b with
    | non => cases ry.non; exact ⟨rfl, rfl⟩
    | int j => cases ry.int; exact ⟨rfl, dec_int⟩
    | str j => cases ry.str; exact ⟨rfl, rfl⟩
    | _ => cases g
  | str i =>
    cases rx.str
    cases b with
    | non => cases ry.non; exact ⟨rfl, rfl⟩
    | bl j => cases ry.bl; exact ⟨rfl, rfl⟩
    | int j => cases ry.int; exact ⟨rfl, rfl⟩
    | str j => cases ry.str; exact ⟨rfl, dec_str⟩
    | _ => cases g
  | _ => cases g
abbrev rEqA (K : PySem.W.Frag) : R2 := fun x y H Q => rEq x y H Q ∨ rEqD K x y H Q
theorem op_eqA {X : Cx} (hu : X.A.units + 64 < cLine) : OpR X (compareOp .Eq) (rEqA X.K) := op_eq.or (op_eqD hu)
abbrev rNeA (K : PySem.W.Frag) : R2 := fun x y H Q => rNe x y H Q ∨ rNeD K x y H Q
theorem op_neA {X : Cx} (hu : X.A.units + 64 < cLine) : OpR X (compareOp .NotEq) (rNeA X.K) := op_ne.or (op_neD hu)
theorem s_eq : OpS K (rEqA K) opEq := fun W σ F H x y a b Q e rx ry h => by
  obtain ⟨h1, h2⟩ := px_if h
  rcases Bool.or_eq_true_iff.mp h1 with g | g
  · obtain ⟨g1, g2⟩ := scal_of g rx ry
    exact .inl ⟨g1, by rw [g2]; exact kO.bl e h2⟩
  · obtain ⟨g1, g2, g3, g4⟩ := eqOk_of g
    exact .inr ⟨_, _, rx.dp e g1, ry.dp e g2, g3, g4, by rw [eqv_toP a b g1 g2]; exact kO.bl e h2⟩
theorem s_ne : OpS K (rNeA K) opNe := fun W σ F H x y a b Q e rx ry h => by
  obtain ⟨h1, h2⟩ := px_if h
  rcases Bool.or_eq_true_iff.mp h1 with g | g
  · obtain ⟨g1, g2⟩ := scal_of g rx ry
    exact .inl ⟨g1, by rw [g2]; exact kO.bl e h2⟩
  · obtain ⟨g1, g2, g3, g4⟩ := eqOk_of g
    exact .inr ⟨_, _, rx.dp e g1, ry.dp e g2, g3, g4, by rw [eqv_toP a b g1 g2]; exact kO.bl e h2⟩
/-! ### order -/
mutual
theorem alike_toP : ∀ a b : D, alikeD a b = true → PySem.W.alike (toP a) (toP b) = true
  | .bl _, .bl _, _ => rfl
  | .int _, .int _, _ => rfl
  | .str _, .str _, _ => rfl
  | .lst xs, .lst ys, h => alike_toPs xs ys h
  | .tup xs, .tup ys, h => alike_toPs xs ys h
  | .non, b, h => by cases b <;> cases h
  | .bl _, .non, h | .bl _, .int _, h | .bl _, .str _, h | .bl _, .lst _, h | .bl _, .tup _, h | .bl _, .dic _ _, h | .bl _, .dit _ _, h | .bl _, .obj _ _ _, h | .bl _, .scr _, h => by cases h
  | .int _, .non, h | .int _, .bl _, h | .int _, .str _, h | .int _, .lst _, h | .int _, .tup _, h | .int _, .dic _ _, h | .int _, .dit _ _, h | .int _, .obj _ _ _, h | .int _, .scr _, h => by cases h
  | .str _, .non, h | .str _, .bl _, h | .str _, .int _, h | .str _, .lst _, h | .str _, .tup _, h | .str _, .dic _ _, h | .str _, .dit _ _, h | .str _, .obj _ _ _, h | .str _, .scr _, h => by cases h
  | .lst _, .non, h | .lst _, .bl _, h | .lst _, .str _, h | .lst _, .int _, h | .lst _, .tup _, h | .lst _, .dic _ _, h | .lst _, .dit _ _, h | .lst _, .obj _ _ _, h | .lst _, .scr _, h => by cases h
  | .tup _, .non, h | .tup _, .bl _, h | .tup _, .str _, h | .tup _, .lst _, h | .tup _, .int _, h | .tup _, .dic _ _, h | .tup _, .dit _ _, h | .tup _, .obj _ _ _, h | .tup _, .scr _, h => by cases h
  | .dic _ _, b, h => by cases b <;> cases h
  | .dit _ _, b, h => by cases b <;> cases h
  | .obj _ _ _, b, h => by cases b <;> cases h
  | .scr _, b, h => by cases b <;> cases h
theorem alike_toPs : ∀ a b : List D, alikeL a b = true → PySem.W.alikeAll (toPs a) (toPs b) = true
  | [], [], _ => rfl
  | [], _ :: _, _ => rfl
  | _ :: _, [], _ => rfl
  | x :: xs, y :: ys, h => by
    obtain ⟨g1, g2⟩ := Bool.and_eq_true_iff.mp (show (alikeD x y && alikeL xs ys) = true from h)
    show (PySem.W.alike (toP x) (toP y) && PySem.W.alikeAll (toPs xs) (toPs ys)) = true
    rw [alike_toP x y g1, alike_toPs xs ys g2]
    rfl
end
mutual
theorem lt_toP : ∀ a b : D, alikeD a b = true → plain a = true → plain b = true → PySem.W.dataLt (toP a) (toP b) = ltD a b
  | .bl x, .bl y, _, _, _ => by cases x <;> cases y <;> exact PySem.W.dataLt_bool _ _
  | .int _, .int _, _, _, _ => PySem.W.dataLt_int _ _
  | .str _, .str _, _, _, _ => PySem.W.dataLt_str _ _
  | .lst xs, .lst ys, h, p, q => (PySem.W.dataLt_list _ _).trans (lt_toPs xs ys h p q)
  | .tup xs, .tup ys, h, p, q => (PySem.W.dataLt_tuple _ _).trans (lt_toPs xs ys h p q)
  | .non, b, h, _, _ => by cases b <;> cases h
  | .bl _, .non, h, _, _ | .bl _, .int _, h, _, _ | .bl _, .str _, h, _, _ | .bl _, .lst _, h, _, _ | .bl _, .tup _, h, _, _ | .bl _, .dic _ _, h, _, _ | .bl _, .dit _ _, h, _, _ | .bl _, .obj _ _ _, h, _, _ | .bl _, .scr _, h, _, _ => by cases h
  | .int _, .non, h, _, _ | .int _, .bl _, h, _, _ | .int _, .str _, h, _, _ | .int _, .lst _, h, _, _ | .int _, .tup _, h, _, _ | .int _, .dic _ _, h, _, _ | .int _, .dit _ _, h, _, _ | .int _, .obj _ _ _, h, _, _ | .int _, .scr _, h, _, _ => by cases h
  | .str _, .non, h, _, _ | .str _, .bl _, h, _, _ | .str _, .int _, h, _, _ | .str _, .lst _, h, _, _ | .str _, .tup _, h, _, _ | .str _, .dic _ _, h, _, _ | .str _, .dit _ _, h, _, _ | .str _, .obj _ _ _, h, _, _ | .str _, .scr _, h, _, _ => by cases h
  | .lst _, .non, h, _, _ | .lst _, .bl _, h, _, _ | .lst _, .str _, h, _, _ | .lst _, .int _, h, _, _ | .lst _, .tup _, h, _, _ | .lst _, .dic _ _, h, _, _ | .lst _, .dit _ _, h, _, _ | .lst _, .obj _ _ _, h, _, _ | .lst _, .scr _, h, _, _ => by cases h
  | .tup _, .non, h, _, _ | .tup _, .bl _, h, _, _ | .tup _, .str _, h, _, _ | .tup _, .lst _, h, _, _ | .tup _, .int _, h, _, _ | .tup _, .dic _ _, h, _, _ | .tup _, .dit _ _, h, _, _ | .tup _, .obj _ _ _, h, _, _ | .tup _, .scr _, h, _, _ => by cases h
  | .dic _ _, b, h, _, _ => by cases b <;> cases h
  | .dit _ _, b, h, _, _ => by cases b <;> cases h
  | .obj _ _ _, b, h, _, _ => by cases b <;> cases h
  | .scr _, b, h, _, _ => by cases b <;> cases h
theorem lt_toPs : ∀ a b : List D, alikeL a b = true → plainL a = true → plainL b = true → PyProof.Rows.lexLt PyProof.Rows.itemOrd (PySem.W.keyToksAll (toPs a)) (PySem.W.keyToksAll (toPs b)) = ltL a b
  | [], [], _, _, _ => by rfl
  | [], _ :: _, _, _, _ => by
    show PyProof.Rows.lexLt PyProof.Rows.itemOrd [_] (_ :: _) = true
    exact (PySem.W.lex_atom (by simp) _ _).trans rfl
  | _ :: _, [], _, _, _ => by
    show PyProof.Rows.lexLt PyProof.Rows.itemOrd (_ :: _) [_] = false
    exact (PySem.W.lex_atom (by simp) _ _).trans rfl
  | x :: xs, y :: ys, h, p, q => by
    obtain ⟨h1, h2⟩ := Bool.and_eq_true_iff.mp (show (alikeD x y && alikeL xs ys) = true from h)
    obtain ⟨p1, p2⟩ := Bool.and_eq_true_iff.mp (show (plain x && plainL xs) = true from p)
    obtain ⟨q1, q2⟩ := Bool.and_eq_true_iff.mp (show (plain y && plainL ys) = true from q)
    have e := eqv_toP x y p1 q1
    show PyProof.Rows.lexLt PyProof.Rows.itemOrd (PySem.W.keyToksAll (toP x :: toPs xs)) (PySem.W.keyToksAll (toP y :: toPs ys)) = if eqD x y = true then ltL xs ys else ltD x y
    by_cases g : eqD x y = true
    · rw [if_pos g, PySem.W.dataLt_all_yes (alike_toP x y h1) (e.trans g)]
      exact lt_toPs xs ys h2 p2 q2
    · rw [if_neg g, PySem.W.dataLt_all_no (alike_toP x y h1) (e.trans (Bool.eq_false_iff.mpr g))]
      exact lt_toP x y h1 p1 q1
end
theorem ltOk_of {a b : D} (h : ltOk a b = true) : PySem.W.alike (toP a) (toP b) = true ∧ plain a = true ∧ plain b = true ∧ (toP a).depth ≤ 60 ∧ PySem.W.dataLt (toP a) (toP b) = ltD a b := by
  unfold ltOk at h
  simp only [Bool.and_eq_true, decide_eq_true_eq] at h
  obtain ⟨⟨⟨h1, h2⟩, h3⟩, h4⟩ := h
  exact ⟨alike_toP a b h1, h2, h3, by rw [depth_toP]; exact h4, lt_toP a b h1 h2 h3⟩
theorem alike_swap_ne {d e : PyData} (h : PySem.W.alike d e = true) (n : d ≠ .none) : e ≠ .none := by
  intro g
  subst g
  cases d <;> first | exact n rfl | cases h
def rDD (K : PySem.W.Frag) (f : PyData → PyData → Bool) : R2 := fun x y H Q => ∃ d e, Dp K H x d ∧ Dp K H y e ∧ PySem.W.alike d e = true ∧ d ≠ .none ∧ min d.depth e.depth ≤ 60 ∧ Q (.bl (f d e)) H
theorem op_ltD {X : Cx} (hu : X.A.units + 64 < cLine) : OpR X (compareOp .Lt) (rDD X.K fun d e => PySem.W.dataLt d e) := by
  intro pins s σ H x y v u Q I rx ry h
  obtain ⟨d, e, hd, he, ha, hn, hm, q⟩ := h
  obtain ⟨as, r1⟩ := Dp.reads I d x v hd rx
  obtain ⟨bs, r2⟩ := Dp.reads I e y u he ry
  exact PySem.W.lt_data r1 r2 ha hn (by omega) ⟨.bl _, H, I, rfl, q⟩
theorem op_leD {X : Cx} (hu : X.A.units + 64 < cLine) : OpR X (compareOp .LtE) (rDD X.K fun d e => !PySem.W.dataLt e d) := by
  intro pins s σ H x y v u Q I rx ry h
  obtain ⟨d, e, hd, he, ha, hn, hm, q⟩ := h
  obtain ⟨as, r1⟩ := Dp.reads I d x v hd rx
  obtain ⟨bs, r2⟩ := Dp.reads I e y u he ry
  exact PySem.W.le_data r1 r2 ha hn (by omega) ⟨.bl _, H, I, rfl, q⟩
theorem op_gtD {X : Cx} (hu : X.A.units + 64 < cLine) : OpR X (compareOp .Gt) (rDD X.K fun d e => PySem.W.dataLt e d) := by
  intro pins s σ H x y v u Q I rx ry h
  obtain ⟨d, e, hd, he, ha, hn, hm, q⟩ := h
  obtain ⟨as, r1⟩ := Dp.reads I d x v hd rx
  obtain ⟨bs, r2⟩ := Dp.reads I e y u he ry
  exact PySem.W.gt_data r1 r2 ha hn (by omega) ⟨.bl _, H, I, rfl, q⟩
theorem op_geD {X : Cx} (hu : X.A.units + 64 < cLine) : OpR X (compareOp .GtE) (rDD X.K fun d e => !PySem.W.dataLt d e) := by
  intro pins s σ H x y v u Q I rx ry h
  obtain ⟨d, e, hd, he, ha, hn, hm, q⟩ := h
  obtain ⟨as, r1⟩ := Dp.reads I d x v hd rx
  obtain ⟨bs, r2⟩ := Dp.reads I e y u he ry
  exact PySem.W.ge_data r1 r2 ha hn (by omega) ⟨.bl _, H, I, rfl, q⟩
mutual
theorem alike_sym : ∀ {a b : PyData}, PySem.W.alike a b = true → PySem.W.alike b a = true
  | .none, .none, _ => rfl
  | .bool _, .bool _, _ => rfl
  | .int _, .int _, _ => rfl
  | .str _, .str _, _ => rfl
  | .list xs, .list ys, h => alikes_sym (a := xs) (b := ys) h
  | .tuple xs, .tuple ys, h => alikes_sym (a := xs) (b := ys) h
  | .none, .bool _, h | .none, .int _, h | .none, .str _, h | .none, .list _, h | .none, .tuple _, h | .none, .dict _, h => by cases h
  | .bool _, .none, h | .bool _, .int _, h | .bool _, .str _, h | .bool _, .list _, h | .bool _, .tuple _, h | .bool _, .dict _, h => by cases h
  | .int _, .none, h | .int _, .bool _, h | .int _, .str _, h | .int _, .list _, h | .int _, .tuple _, h | .int _, .dict _, h => by cases h
  | .str _, .none, h | .str _, .bool _, h | .str _, .int _, h | .str _, .list _, h | .str _, .tuple _, h | .str _, .dict _, h => by cases h
  | .list _, .none, h | .list _, .bool _, h | .list _, .int _, h | .list _, .str _, h | .list _, .tuple _, h | .list _, .dict _, h => by cases h
  | .tuple _, .none, h | .tuple _, .bool _, h | .tuple _, .int _, h | .tuple _, .str _, h | .tuple _, .list _, h | .tuple _, .dict _, h => by cases h
  | .dict _, b, h => by cases b <;> cases h
theorem alikes_sym : ∀ {a b : List PyData}, PySem.W.alikeAll a b = true → PySem.W.alikeAll b a = true
  | [], [], _ => rfl
  | [], _ :: _, _ => rfl
  | _ :: _, [], _ => rfl
  | x :: xs, y :: ys, h => by
    obtain ⟨g1, g2⟩ := Bool.and_eq_true_iff.mp (show (PySem.W.alike x y && PySem.W.alikeAll xs ys) = true from h)
    show (PySem.W.alike y x && PySem.W.alikeAll ys xs) = true
    rw [alike_sym g1, alikes_sym g2]
    rfl
end
abbrev rLtA (K : PySem.W.Frag) : R2 := fun x y H Q => (rI0 (fun i j => .bl (decide (i < j))) x y H Q ∨ (∃ i j, x = .str i ∧ y = .str j ∧ Q (.bl (decide (i.cps.toList < j.cps.toList))) H)) ∨ rDD K (fun d e => PySem.W.dataLt d e) x y H Q
theorem op_ltA {X : Cx} (hu : X.A.units + 64 < cLine) : OpR X (compareOp .Lt) (rLtA X.K) := (op_lt.or op_lt_str).or (op_ltD hu)
theorem s_lt : OpS K (rLtA K) opLt := fun W σ F H x y a b Q e rx ry h => by
  cases a with
  | int i => cases b with
    | int j => cases rx.int; cases ry.int; exact .inl (.inl ⟨i, j, rfl, rfl, kO.bl e h⟩)
    | _ => exact False.elim h
  | str i => cases b with
    | str j => cases rx.str; cases ry.str; exact .inl (.inr ⟨i, j, rfl, rfl, kO.bl e h⟩)
    | _ => exact False.elim h
  | lst xs => cases b with
    | lst ys =>
      obtain ⟨h1, h2⟩ := px_if h
      obtain ⟨g1, g2, g3, g4, g5⟩ := ltOk_of h1
      refine .inr ⟨_, _, rx.dp e g2, ry.dp e g3, g1, (by intro q; cases q), Nat.le_trans (Nat.min_le_left _ _) g4, ?_⟩
      simp only [g5]
      exact kO.bl e h2
    | _ => exact False.elim h
  | tup xs => cases b with
    | tup ys =>
      obtain ⟨h1, h2⟩ := px_if h
      obtain ⟨g1, g2, g3, g4, g5⟩ := ltOk_of h1
      refine .inr ⟨_, _, rx.dp e g2, ry.dp e g3, g1, (by intro q; cases q), Nat.le_trans (Nat.min_le_left _ _) g4, ?_⟩
      simp only [g5]
      exact kO.bl e h2
    | _ => exact False.elim h
  | _ => exact False.elim h
abbrev rLeA (K : PySem.W.Frag) : R2 := fun x y H Q => (rI0 (fun i j => .bl (decide (i ≤ j))) x y H Q ∨ (∃ i j, x = .str i ∧ y = .str j ∧ Q (.bl (!decide (j.cps.toList < i.cps.toList))) H)) ∨ rDD K (fun d e => !PySem.W.dataLt e d) x y H Q
theorem op_leA {X : Cx} (hu : X.A.units + 64 < cLine) : OpR X (compareOp .LtE) (rLeA X.K) := (op_le.or op_le_str).or (op_leD hu)
theorem s_le : OpS K (rLeA K) opLe := fun W σ F H x y a b Q e rx ry h => by
  cases a with
  | int i => cases b with
    | int j => cases rx.int; cases ry.int; exact .inl (.inl ⟨i, j, rfl, rfl, kO.bl e h⟩)
    | _ => exact False.elim h
  | str i => cases b with
    | str j => cases rx.str; cases ry.str; exact .inl (.inr ⟨i, j, rfl, rfl, kO.bl e h⟩)
    | _ => exact False.elim h
  | lst xs => cases b with
    | lst ys =>
      obtain ⟨h1, h2⟩ := px_if h
      obtain ⟨g1, g2, g3, g4, g5⟩ := ltOk_of h1
      refine .inr ⟨_, _, rx.dp e g3, ry.dp e g2, alike_sym g1, (by intro q; cases q), Nat.le_trans (Nat.min_le_right _ _) g4, ?_⟩
      simp only [g5]
      exact kO.bl e h2
    | _ => exact False.elim h
  | tup xs => cases b with
    | tup ys =>
      obtain ⟨h1, h2⟩ := px_if h
      obtain ⟨g1, g2, g3, g4, g5⟩ := ltOk_of h1
      refine .inr ⟨_, _, rx.dp e g3, ry.dp e g2, alike_sym g1, (by intro q; cases q), Nat.le_trans (Nat.min_le_right _ _) g4, ?_⟩
      simp only [g5]
      exact kO.bl e h2
    | _ => exact False.elim h
  | _ => exact False.elim h
abbrev rGtA (K : PySem.W.Frag) : R2 := fun x y H Q => (rI0 (fun i j => .bl (decide (j < i))) x y H Q ∨ (∃ i j, x = .str i ∧ y = .str j ∧ Q (.bl (decide (j.cps.toList < i.cps.toList))) H)) ∨ rDD K (fun d e => PySem.W.dataLt e d) x y H Q
theorem op_gtA {X : Cx} (hu : X.A.units + 64 < cLine) : OpR X (compareOp .Gt) (rGtA X.K) := (op_gt.or op_gt_str).or (op_gtD hu)
theorem s_gt : OpS K (rGtA K) opGt := fun W σ F H x y a b Q e rx ry h => by
  cases a with
  | int i => cases b with
    | int j => cases rx.int; cases ry.int; exact .inl (.inl ⟨i, j, rfl, rfl, kO.bl e h⟩)
    | _ => exact False.elim h
  | str i => cases b with
    | str j => cases rx.str; cases ry.str; exact .inl (.inr ⟨i, j, rfl, rfl, kO.bl e h⟩)
    | _ => exact False.elim h
  | lst xs => cases b with
    | lst ys =>
      obtain ⟨h1, h2⟩ := px_if h
      obtain ⟨g1, g2, g3, g4, g5⟩ := ltOk_of h1
      refine .inr ⟨_, _, rx.dp e g3, ry.dp e g2, alike_sym g1, (by intro q; cases q), Nat.le_trans (Nat.min_le_right _ _) g4, ?_⟩
      simp only [g5]
      exact kO.bl e h2
    | _ => exact False.elim h
  | tup xs => cases b with
    | tup ys =>
      obtain ⟨h1, h2⟩ := px_if h
      obtain ⟨g1, g2, g3, g4, g5⟩ := ltOk_of h1
      refine .inr ⟨_, _, rx.dp e g3, ry.dp e g2, alike_sym g1, (by intro q; cases q), Nat.le_trans (Nat.min_le_right _ _) g4, ?_⟩
      simp only [g5]
      exact kO.bl e h2
    | _ => exact False.elim h
  | _ => exact False.elim h
abbrev rGeA (K : PySem.W.Frag) : R2 := fun x y H Q => (rI0 (fun i j => .bl (decide (j ≤ i))) x y H Q ∨ (∃ i j, x = .str i ∧ y = .str j ∧ Q (.bl (!decide (i.cps.toList < j.cps.toList))) H)) ∨ rDD K (fun d e => !PySem.W.dataLt d e) x y H Q
theorem op_geA {X : Cx} (hu : X.A.units + 64 < cLine) : OpR X (compareOp .GtE) (rGeA X.K) := (op_ge.or op_ge_str).or (op_geD hu)
theorem s_ge : OpS K (rGeA K) opGe := fun W σ F H x y a b Q e rx ry h => by
  cases a with
  | int i => cases b with
    | int j => cases rx.int; cases ry.int; exact .inl (.inl ⟨i, j, rfl, rfl, kO.bl e h⟩)
    | _ => exact False.elim h
  | str i => cases b with
    | str j => cases rx.str; cases ry.str; exact .inl (.inr ⟨i, j, rfl, rfl, kO.bl e h⟩)
    | _ => exact False.elim h
  | lst xs => cases b with
    | lst ys =>
      obtain ⟨h1, h2⟩ := px_if h
      obtain ⟨g1, g2, g3, g4, g5⟩ := ltOk_of h1
      refine .inr ⟨_, _, rx.dp e g2, ry.dp e g3, g1, (by intro q; cases q), Nat.le_trans (Nat.min_le_left _ _) g4, ?_⟩
      simp only [g5]
      exact kO.bl e h2
    | _ => exact False.elim h
  | tup xs => cases b with
    | tup ys =>
      obtain ⟨h1, h2⟩ := px_if h
      obtain ⟨g1, g2, g3, g4, g5⟩ := ltOk_of h1
      refine .inr ⟨_, _, rx.dp e g2, ry.dp e g3, g1, (by intro q; cases q), Nat.le_trans (Nat.min_le_left _ _) g4, ?_⟩
      simp only [g5]
      exact kO.bl e h2
    | _ => exact False.elim h
  | _ => exact False.elim h
/-! ### is -/
abbrev rIsA : R2 := fun x y H Q => (y = .non ∧ Q (.bl (decide (x = .non))) H) ∨ rIsB x y H Q
theorem op_isA {X : Cx} : OpR X (compareOp .Is) rIsA := op_isN.or op_isBl
abbrev rIsNotA : R2 := fun x y H Q => (y = .non ∧ Q (.bl (!decide (x = .non))) H) ∨ rNotB x y H Q
theorem op_isNotA {X : Cx} : OpR X (compareOp .IsNot) rIsNotA := op_notN.or op_notBl
theorem non_of {x : V} {a : D} (rx : RepB K F H x a) : decide (x = .non) = isNon a := by
  cases a with
  | non => cases rx.non; rfl
  | bl i => cases rx.bl; rfl
  | int i => cases rx.int; rfl
  | str i => cases rx.str; rfl
  | lst ds => rcases rx with h | ⟨a, rfl, c⟩; (cases h; rfl); rfl
  | tup ds => rcases rx with h | ⟨a, rfl, c⟩; (cases h; rfl); rfl
  | dic _ ds => rcases rx with h | ⟨a, rfl, c⟩; (cases h; rfl); rfl
  | dit _ ds => rcases rx with h | ⟨a, rfl, c⟩; (cases h; rfl); rfl
  | obj _ _ ds => rcases rx with h | ⟨a, rfl, c⟩; (cases h; rfl); rfl
  | scr ds => rcases rx with h | ⟨a, rfl, c⟩; (cases h; rfl); rfl
theorem s_is : OpS K rIsA opIs := fun W σ F H x y a b Q e rx ry h => by
  cases b with
  | non => cases ry.non; exact .inl ⟨rfl, by rw [non_of rx]; exact kO.bl e h⟩
  | bl j =>
    cases ry.bl
    cases a with
    | bl i => cases rx.bl; exact .inr ⟨i, j, rfl, rfl, by rw [← Bool.beq_eq_decide_eq]; exact kO.bl e h⟩
    | _ => exact False.elim h
  | _ => exact False.elim h
theorem s_isNot : OpS K rIsNotA opIsNot := fun W σ F H x y a b Q e rx ry h => by
  cases b with
  | non => cases ry.non; exact .inl ⟨rfl, by rw [non_of rx]; exact kO.bl e h⟩
  | bl j =>
    cases ry.bl
    cases a with
    | bl i => cases rx.bl; exact .inr ⟨i, j, rfl, rfl, by rw [← Bool.beq_eq_decide_eq]; exact kO.bl e h⟩
    | _ => exact False.elim h
  | _ => exact False.elim h
/-! ### in -/
theorem flat_of {x : V} {a : D} (g : flat a = true) (rx : RepB K F H x a) : flatV x = true := by
  cases a with
  | non => cases rx.non; rfl
  | bl i => cases rx.bl; rfl
  | int i => cases rx.int; rfl
  | str i => cases rx.str; rfl
  | _ => cases g
theorem eqV_of {x y : V} {a b : D} (g : flat a = true) (g2 : flat b = true) (rx : RepB K F H x a) (ry : RepB K F H y b) : L2.eqV x y = eqD a b := by
  cases a with
  | non => cases rx.non; cases b with
    | non => cases ry.non; rfl
    | bl j => cases ry.bl; rfl
    | int j => cases ry.int; rfl
    | str j => cases ry.str; rfl
    | _ => cases g2
  | bl i => cases rx.bl; cases b with
    | non => cases ry.non; rfl
    | bl j => cases ry.bl; rfl
    | int j => cases ry.int; cases i <;> rfl
    | str j => cases ry.str; rfl
    | _ => cases g2
  | int i => cases rx.int; cases b with
    | non => cases ry.non; rfl
    | bl j => cases ry.bl; cases j <;> rfl
    | int j => cases ry.int; rfl
    | str j => cases ry.str; rfl
    | _ => cases g2
  | str i => cases rx.str; cases b with
    | non => cases ry.non; rfl
    | bl j => cases ry.bl; rfl
    | int j => cases ry.int; rfl
    | str j => cases ry.str; rfl
    | _ => cases g2
  | _ => cases g
theorem flats_of : ∀ {ds : List D} {vs : List V}, ds.all flat = true → RepL K F vs ds → vs.all flatV = true
  | [], _, _, r => by cases r; rfl
  | d :: ds, _, g, r => by
    rw [List.all_cons, Bool.and_eq_true] at g
    cases r with
    | cons r t => rw [List.all_cons, flat_of (H := F) g.1 (.inl r), flats_of g.2 t]; rfl
theorem inV_of {x : V} {a : D} (ga : flat a = true) (rx : RepB K F H x a) : ∀ {ds : List D} {vs : List V}, ds.all flat = true → RepL K F vs ds → inV x vs = ds.any fun y => eqD y a
  | [], _, _, r => by cases r; rfl
  | d :: ds, _, g, r => by
    rw [List.all_cons, Bool.and_eq_true] at g
    cases r with
    | @cons v _ vs _ r t =>
      show (L2.eqV v x || inV x vs) = _
      rw [List.any_cons, eqV_of g.1 ga (.inl r) rx, inV_of ga rx g.2 t]
abbrev rInSg (neg : Bool) : R2 := fun x y H Q => ∃ (c : Nat) (z : Str), x = .str ⟨#[c]⟩ ∧ y = .str z ∧ Q (.bl (if neg then !decide (c ∈ z.cps.toList) else decide (c ∈ z.cps.toList))) H
abbrev rInA (K : PySem.W.Frag) (neg : Bool) : R2 := fun x y H Q => rIn K neg x y H Q ∨ rInSg neg x y H Q
theorem op_inA {X : Cx} : OpR X (compareOp .In) (rInA X.K false) := op_in_seq.or op_in_sign
theorem op_notInA {X : Cx} : OpR X (compareOp .NotIn) (rInA X.K true) := op_notIn_seq.or op_notIn_sign
theorem oneSign_of {x : Str} {c : Nat} (h : oneSign x = some c) : x = ⟨#[c]⟩ := by
  obtain ⟨⟨l⟩⟩ := x
  cases l with
  | nil => cases h
  | cons a t =>
    cases t with
    | nil => cases h; rfl
    | cons _ _ => cases h
theorem s_inN {neg : Bool} {g : D → D → XR B} (hg : ∀ a b, g a b = (inD a b).bind fun c => .ok (.d (.bl (if neg then !c else c)))) : OpS K (rInA K neg) g := fun W σ F H x y a b Q e rx ry h => by
  rw [hg] at h
  unfold inD at h
  cases b with
  | str z =>
    cases ry.str
    cases a with
    | str w =>
      cases rx.str
      cases q : oneSign w with
      | none => simp only [q] at h; exact False.elim h
      | some c =>
        simp only [q] at h
        exact .inr ⟨c, z, by rw [oneSign_of q], rfl, kO.bl e h⟩
    | _ => exact False.elim h
  | lst ys =>
    obtain ⟨p, vs, rfl, hp, r⟩ := ry.lst e
    by_cases c : (flat a && ys.all flat) = true
    · simp only [c, if_true] at h
      rw [Bool.and_eq_true] at c
      exact .inl ⟨p, vs, rfl, .inl (.of hp), flat_of c.1 rx, flats_of c.2 r, by rw [inV_of c.1 rx c.2 r]; exact kO.bl e h⟩
    · simp only [c] at h; exact False.elim h
  | tup ys =>
    obtain ⟨p, vs, rfl, hp, r⟩ := ry.tup e
    by_cases c : (flat a && ys.all flat) = true
    · simp only [c, if_true] at h
      rw [Bool.and_eq_true] at c
      exact .inl ⟨p, vs, rfl, .inr (.of hp), flat_of c.1 rx, flats_of c.2 r, by rw [inV_of c.1 rx c.2 r]; exact kO.bl e h⟩
    · simp only [c] at h; exact False.elim h
  | _ => exact False.elim h
theorem s_in : OpS K (rInA K false) opIn := s_inN fun a b => rfl
theorem s_notIn : OpS K (rInA K true) opNotIn := s_inN fun a b => rfl
/-! ### places, slices -/
theorem atD_eq {α : Type} (xs : List α) (i : Int) : atI xs i = atD xs i := by
  unfold atI atD ixN
  by_cases h0 : 0 ≤ i
  · rw [if_pos h0, if_pos h0]
    by_cases h1 : i < xs.length
    · rw [if_pos h1, if_pos h1]; rfl
    · rw [if_neg h1, if_neg h1]; rfl
  · rw [if_neg h0, if_neg h0]
    by_cases h1 : -(xs.length : Int) ≤ i
    · rw [if_pos h1, if_pos h1]; rfl
    · rw [if_neg h1, if_neg h1]; rfl
theorem atD_rep {vs : List V} {ds : List D} (r : RepL K F vs ds) {i : Int} {d : D} (h : atD ds i = some d) : ∃ v, atI vs i = some v ∧ Rep K F v d := by
  unfold atD at h
  unfold atI ixN
  rw [r.length]
  by_cases h0 : 0 ≤ i
  · rw [if_pos h0] at h ⊢
    by_cases h1 : i < ds.length
    · rw [if_pos h1] at h ⊢; exact r.get _ h
    · rw [if_neg h1] at h; cases h
  · rw [if_neg h0] at h ⊢
    by_cases h1 : -(ds.length : Int) ≤ i
    · rw [if_pos h1] at h ⊢; exact r.get _ h
    · rw [if_neg h1] at h; cases h
theorem s_ix : OpS K (rIx K) opIx := fun W σ F H x y a b Q e rx ry h => by
  cases b with
  | int i =>
    cases ry.int
    cases a with
    | lst xs =>
      obtain ⟨p, vs, rfl, hp, r⟩ := rx.lst e
      cases q : atD xs i with
      | none => simp only [opIx, q] at h; exact False.elim h
      | some d =>
        simp only [opIx, q] at h
        obtain ⟨v, h1, h2⟩ := atD_rep r q
        exact .inl ⟨p, vs, i, v, rfl, rfl, .of hp, h1, h F v H (.refl e) h2⟩
    | tup xs =>
      obtain ⟨p, vs, rfl, hp, r⟩ := rx.tup e
      cases q : atD xs i with
      | none => simp only [opIx, q] at h; exact False.elim h
      | some d =>
        simp only [opIx, q] at h
        obtain ⟨v, h1, h2⟩ := atD_rep r q
        exact .inr (.inl ⟨p, vs, i, v, rfl, rfl, .of hp, h1, h F v H (.refl e) h2⟩)
    | str z =>
      cases rx.str
      obtain ⟨hl, h⟩ := px_if (show PX K W σ (if z.length ≤ LIM then _ else _) _ _ _ from h)
      cases q : atD z.cps.toList i with
      | none => simp only [q] at h; exact False.elim h
      | some c =>
        simp only [q] at h
        exact .inr (.inr ⟨z, i, c, rfl, rfl, lim_line hl, by rw [atD_eq]; exact q, kO.str e h⟩)
    | scr ns =>
      obtain ⟨p, rfl, hp⟩ := rx.scr e
      cases q : atD ns i with
      | none => simp only [opIx, q] at h; exact False.elim h
      | some n =>
        simp only [opIx, q] at h
        refine .inl ⟨p, _, i, .int n, rfl, rfl, hp, ?_, kO.int e h⟩
        obtain ⟨v, h1, h2⟩ := atD_rep (K := K) (F := F) (repL_ints ns) (i := i) (d := .int n) (by
          unfold atD at q ⊢
          rw [List.length_map]
          by_cases h0 : 0 ≤ i
          · rw [if_pos h0] at q ⊢
            by_cases h1 : i < ns.length
            · rw [if_pos h1] at q ⊢; rw [List.getElem?_map, q]; rfl
            · rw [if_neg h1] at q; cases q
          · rw [if_neg h0] at q ⊢
            by_cases h1 : -(ns.length : Int) ≤ i
            · rw [if_pos h1] at q ⊢; rw [List.getElem?_map, q]; rfl
            · rw [if_neg h1] at q; cases q)
        cases h2
        exact h1
    | _ => exact False.elim h
  | _ => exact False.elim h
theorem sEnd_eq (n d : Nat) (o : Option Int) : HT.sIx n d o = sEnd n d o := by
  cases o with
  | none => rfl
  | some i =>
    show (if i < 0 then (i + (n : Int)).toNat else min i.toNat n) = if 0 ≤ i then min i.toNat n else (i + n).toNat
    by_cases h : i < 0
    · rw [if_pos h, if_neg (by omega)]
    · rw [if_neg h, if_pos (by omega)]
theorem cut_rep {vs : List V} {ds : List D} (r : RepL K F vs ds) (lo hi : Option Int) : RepL K F (cutV vs lo hi) (cut ds lo hi) := by
  unfold cutV cut
  rw [sEnd_eq, sEnd_eq, r.length]
  exact (r.drop _).take _
theorem so_sl {W : WX} {te : TE} {tl th : TO} {f : Ex} {l h : ExP} (ha : SB K Z W te f) (hl : SPt K Z W tl l) (hh : SPt K Z W th h) : SO K Z W (tSl (rSlL K) te tl th) (oSl f l h) := ⟨fun s h => ha.run s ((PX.bind h).imp fun x _ h1 F1 v1 H1 t1 r1 =>
  hl.run (s.stp t1) ((PX.bind (h1.mono kO_mon t1)).imp fun y _ h2 F2 H2 t2 => hh.run ((s.stp t1).stp t2) ((PX.bind (h2.mono kO_mon t2)).imp fun z _ h3 F3 H3 t3 => by
    have h4 := h3.mono kO_mon t3
    cases x with
    | lst xs =>
      obtain ⟨p, vs, rfl, hp, r⟩ := (r1.mono (t2.trans t3).f (t2.trans t3).h).lst t3.fh
      exact ⟨p, vs, rfl, .of hp, kO.lst t3.fh h4 (cut_rep r y z)⟩
    | _ => exact False.elim h4)))⟩
theorem so_rev {W : WX} {te : TE} {f : Ex} (ha : SB K Z W te f) : SO K Z W (tRevL K te) (oUn opRev f) := ⟨fun s h => ha.run s ((PX.bind h).imp fun x _ h1 F1 v1 H1 t1 r1 => by
    have h4 := h1.mono kO_mon t1
    cases x with
    | lst xs =>
      obtain ⟨p, vs, rfl, hp, r⟩ := r1.lst t1.fh
      exact ⟨p, vs, rfl, .of hp, kO.lst t1.fh h4 r.reverse⟩
    | _ => exact False.elim h4)⟩
/-! ### built-ins -/
theorem RepBL.one {xs : List V} {a : D} (r : RepBL K F H xs [a]) : ∃ x, xs = [x] ∧ RepB K F H x a := by
  cases r with
  | cons r t => cases t; exact ⟨_, rfl, r⟩
theorem RepBL.nil_of {xs : List V} (r : RepBL K F H xs []) : xs = [] := by
  cases r; rfl
abbrev rLenA (K : PySem.W.Frag) : List V → Hp → VK → Prop := fun xs H Q => (∃ x n, xs = [x] ∧ LenV K x H n ∧ Q (.int n) H) ∨ ∃ a kvs, xs = [V.ref a] ∧ H a = some (.dK kvs) ∧ Q (.int kvs.length) H
theorem callR_or {X : Cx} {f : Value} {r r' : List V → Hp → VK → Prop} (h : CallR X f r) (h' : CallR X f r') : CallR X f (fun xs H Q => r xs H Q ∨ r' xs H Q) := by
  intro pins s σ H xs us Q I r q
  rcases q with q | q
  · exact h pins s σ H xs us Q I r q
  · exact h' pins s σ H xs us Q I r q
theorem call_lenA {X : Cx} : CallR X (.builtin "len") (rLenA X.K) := callR_or call_len call_lenD
theorem s_len : CallS K (rLenA K) cLen := fun W σ F H xs as Q e r h => by
  match as, r, h with
  | [a], r, h =>
    obtain ⟨x, rfl, rx⟩ := r.one
    cases a with
    | lst ds =>
      obtain ⟨p, vs, rfl, hp, r⟩ := rx.lst e
      exact .inl ⟨_, ds.length, rfl, .inl ⟨vs, .of hp, r.length.symm⟩, kO.int e h⟩
    | tup ds =>
      obtain ⟨p, vs, rfl, hp, r⟩ := rx.tup e
      exact .inl ⟨_, ds.length, rfl, .inr ⟨vs, .of hp, r.length.symm⟩, kO.int e h⟩
    | str z =>
      cases rx.str
      obtain ⟨h1, h2⟩ := px_if h
      exact .inl ⟨_, _, rfl, ⟨lim_line h1, rfl⟩, kO.int e h2⟩
    | scr ns =>
      obtain ⟨p, rfl, hp⟩ := rx.scr e
      exact .inl ⟨_, ns.length, rfl, .inl ⟨_, hp, by rw [List.length_map]⟩, kO.int e h⟩
    | dic ks ds =>
      obtain ⟨p, kvs, rfl, hp, q, r⟩ := rx.dic e
      have h' := kO.int e h
      rw [q, List.length_map] at h'
      exact .inr ⟨p, kvs, rfl, hp, h'⟩
    | _ => exact False.elim h
  | [], _, h => exact False.elim h
  | a :: _ :: _, _, h => cases a <;> exact False.elim h
theorem s_list : CallS K (fun xs H Q => ∃ p ys, xs = [.ref p] ∧ (SqL K H p ys ∨ SqT K H p ys) ∧ ∀ l, H l = none → Q (.ref l) (upd H l (.lst ys))) cList := fun W σ F H xs as Q e r h => by
  match as, r, h with
  | [a], r, h =>
    obtain ⟨x, rfl, rx⟩ := r.one
    cases a with
    | lst ds =>
      obtain ⟨p, vs, rfl, hp, r⟩ := rx.lst e
      exact ⟨p, vs, rfl, .inl (.of hp), kO.lst e h r⟩
    | tup ds =>
      obtain ⟨p, vs, rfl, hp, r⟩ := rx.tup e
      exact ⟨p, vs, rfl, .inr (.of hp), kO.lst e h r⟩
    | _ => exact False.elim h
  | [], _, h => exact False.elim h
  | a :: _ :: _, _, h => cases a <;> exact False.elim h
theorem s_tuple : CallS K (fun xs H Q => ∃ p ys, xs = [.ref p] ∧ ((SqL K H p ys ∧ ∀ l, H l = none → Q (.ref l) (upd H l (.tup ys))) ∨ (SqT K H p ys ∧ Q (.ref p) H))) cTuple := fun W σ F H xs as Q e r h => by
  match as, r, h with
  | [a], r, h =>
    obtain ⟨x, rfl, rx⟩ := r.one
    cases a with
    | lst ds =>
      obtain ⟨p, vs, rfl, hp, r⟩ := rx.lst e
      exact ⟨p, vs, rfl, .inl ⟨.of hp, fun l hl => h _ _ _ (.new e hl) (.tup upd_same (r.mono (same_new (e.free hl))))⟩⟩
    | tup ds =>
      rcases rx with rx | ⟨_, _, rx⟩
      · cases rx with
        | tup hp r => exact ⟨_, _, rfl, .inr ⟨.of (e _ _ hp), h F _ H (.refl e) (.tup hp r)⟩⟩
      · exact False.elim rx
    | _ => exact False.elim h
  | [], _, h => exact False.elim h
  | a :: _ :: _, _, h => cases a <;> exact False.elim h
theorem s_int : CallS K (fun xs H Q => (∃ i, xs = [.int i] ∧ Q (.int i) H) ∨ ∃ k, xs = [.bl k] ∧ Q (.int (if k then 1 else 0)) H) cInt := fun W σ F H xs as Q e r h => by
  match as, r, h with
  | [a], r, h =>
    obtain ⟨x, rfl, rx⟩ := r.one
    cases a with
    | int i => cases rx.int; exact .inl ⟨i, rfl, kO.int e h⟩
    | bl i => cases rx.bl; exact .inr ⟨i, rfl, kO.int e h⟩
    | _ => exact False.elim h
  | [], _, h => exact False.elim h
  | a :: _ :: _, _, h => cases a <;> exact False.elim h
theorem s_all : CallS K (rAll K) cAll := fun W σ F H xs as Q e r h => by
  match as, r, h with
  | [a], r, h =>
    obtain ⟨x, rfl, rx⟩ := r.one
    cases a with
    | lst ds =>
      obtain ⟨p, vs, rfl, hp, r⟩ := rx.lst e
      cases q : VD.allB ds with
      | none => simp only [cAll, q] at h; exact False.elim h
      | some bs =>
        simp only [cAll, q] at h
        exact ⟨p, bs, rfl, by rw [← r.bls q]; exact .of hp, kO.bl e h⟩
    | _ => exact False.elim h
  | [], _, h => exact False.elim h
  | a :: _ :: _, _, h => cases a <;> exact False.elim h
theorem s_any : CallS K (rAny K) cAny := fun W σ F H xs as Q e r h => by
  match as, r, h with
  | [a], r, h =>
    obtain ⟨x, rfl, rx⟩ := r.one
    cases a with
    | lst ds =>
      obtain ⟨p, vs, rfl, hp, r⟩ := rx.lst e
      cases q : VD.allB ds with
      | none => simp only [cAny, q] at h; exact False.elim h
      | some bs =>
        simp only [cAny, q] at h
        exact ⟨p, bs, rfl, by rw [← r.bls q]; exact .of hp, kO.bl e h⟩
    | _ => exact False.elim h
  | [], _, h => exact False.elim h
  | a :: _ :: _, _, h => cases a <;> exact False.elim h
theorem s_sum : CallS K (rSum K) cSum := fun W σ F H xs as Q e r h => by
  match as, r, h with
  | [a], r, h =>
    obtain ⟨x, rfl, rx⟩ := r.one
    cases a with
    | lst ds =>
      obtain ⟨p, vs, rfl, hp, r⟩ := rx.lst e
      cases q : allI ds with
      | none => simp only [cSum, q] at h; exact False.elim h
      | some bs =>
        simp only [cSum, q] at h
        exact ⟨p, bs, rfl, by rw [← r.ints q]; exact .of hp, kO.int e h⟩
    | _ => exact False.elim h
  | [], _, h => exact False.elim h
  | a :: _ :: _, _, h => cases a <;> exact False.elim h
end
end VS

set_option Elab.async false
set_option linter.all false
set_option maxRecDepth 100000
set_option maxHeartbeats 4000000
namespace VS
open PySem PySem.Spec L2 VD
/-! ### sorted, of texts -/
theorem risingS_up : ∀ {l : List Str} {p : Str}, PyProof.Rows.risingS p l = true → Up (p :: l)
  | [], p, _ => List.pairwise_singleton _ _
  | x :: r, p, h => by
    obtain ⟨h1, h2⟩ := Bool.and_eq_true_iff.mp (show (!ltCps x.cps.toList p.cps.toList && PyProof.Rows.risingS x r) = true from h)
    have q : sLt x p = false := by
      have e : sLt x p = ltCps x.cps.toList p.cps.toList := PyProof.Rows.lt_meets x p
      rw [e]
      simpa using h1
    have u := risingS_up h2
    refine List.pairwise_cons.mpr ⟨fun y hy => ?_, u⟩
    rcases List.mem_cons.mp hy with rfl | hy
    · exact q
    · exact sLe_trans q ((List.pairwise_cons.mp u).1 y hy)
theorem sortedS_up : ∀ {l : List Str}, PyProof.Rows.sortedS l = true → Up l
  | [], _ => List.Pairwise.nil
  | x :: r, h => risingS_up h
section
variable {K : PySem.W.Frag} {Z : ZZ} {F H : Hp}
theorem s_sorted : CallS K (rSortedS K) cSorted := fun W σ F H xs as Q e r h => by
  match as, r, h with
  | [a], r, h =>
    obtain ⟨x, rfl, rx⟩ := r.one
    cases a with
    | lst ds =>
      obtain ⟨p, vs, rfl, hp, r⟩ := rx.lst e
      cases q : allS ds with
      | none => simp only [cSorted, q] at h; exact False.elim h
      | some ss =>
        simp only [cSorted, q] at h
        obtain ⟨h64, h⟩ := px_if h
        refine ⟨p, ss, rfl, by rw [← r.strs q]; exact .of hp, h64, fun ys l hy hs hl => ?_⟩
        have e2 : ys = sortS ss := up_unique (sortedS_up hs) (sortS_up ss) (hy.trans (sortS_perm ss).symm)
        rw [e2]
        exact kO.lst e h (repL_strs _) l hl
    | _ => exact False.elim h
  | [], _, h => exact False.elim h
  | a :: _ :: _, _, h => cases a <;> exact False.elim h
/-! ### methods -/
theorem idx_of {y : V} {d : D} (g : flat d = true) (ry : RepB K F H y d) : ∀ {ds : List D} {vs : List V} {j : Nat}, ds.all flat = true → RepL K F vs ds → idxD d ds = some j →
    ∃ z, vs[j]? = some z ∧ L2.eqV z y = true ∧ ∀ (m : Nat) (z' : V), m < j → vs[m]? = some z' → L2.eqV z' y = false
  | [], _, _, _, _, h => by cases h
  | a :: ds, _, j, ga, r, h => by
    rw [List.all_cons, Bool.and_eq_true] at ga
    cases r with
    | @cons v _ vs _ r t =>
      have ev : L2.eqV v y = eqD a d := eqV_of ga.1 g (.inl r) ry
      unfold idxD at h
      cases c : eqD a d with
      | true =>
        rw [c, if_pos rfl] at h
        cases h
        exact ⟨v, rfl, by rw [ev, c], fun m _ hm => absurd hm (Nat.not_lt_zero m)⟩
      | false =>
        rw [c, if_neg Bool.false_ne_true, Option.map_eq_some_iff] at h
        obtain ⟨k, h1, rfl⟩ := h
        obtain ⟨z, z1, z2, z3⟩ := idx_of g ry ga.2 t h1
        refine ⟨z, by simpa using z1, z2, fun m z' hm hz => ?_⟩
        cases m with
        | zero => simp at hz; rw [← hz, ev, c]
        | succ m => exact z3 m z' (by omega) (by simpa using hz)
theorem m_index : MtS K (rIndex K) mIndex := fun W σ F H x xs a as Q e rx r h => by
  match as, r, h with
  | [b], r, h =>
    obtain ⟨y, rfl, ry⟩ := r.one
    cases a with
    | lst ds =>
      obtain ⟨p, vs, rfl, hp, rv⟩ := rx.lst e
      obtain ⟨g, h⟩ := px_if h
      rw [Bool.and_eq_true] at g
      cases q : idxD b ds with
      | none => simp only [q] at h; exact False.elim h
      | some j =>
        simp only [q] at h
        obtain ⟨z, z1, z2, z3⟩ := idx_of g.1 ry g.2 rv q
        exact ⟨p, vs, y, j, z, rfl, rfl, .of hp, flat_of g.1 ry, flats_of g.2 rv, z1, z2, z3, kO.int e h⟩
    | _ => exact False.elim h
  | [], _, h => cases a <;> exact False.elim h
  | _ :: _ :: _, _, h => cases a <;> exact False.elim h
theorem so_methL {W : WX} {to : TE} {t : TA} {r : V → List V → Hp → VK → Prop} {g : D → List D → XR B} {f : Ex} {a : ExA} (hm : MtS K r g) (ho : SB K Z W to f) (ha : SAB K Z W t a) : SO K Z W (tBM K "list" r to t) (oMethL g f a) := ⟨fun s h => ho.run s ((PX.bind h).imp fun x _ h1 F1 v1 H1 t1 r1 => by
  cases x with
  | lst xs =>
    obtain ⟨p, vs, rfl, hp, _⟩ := r1.lst t1.fh
    exact ⟨.inl ⟨rfl, vs, .of hp⟩, ha.run (s.stp t1) ((PX.bind (PX.mono kO_mon t1 h1)).imp fun ys _ h2 F2 ws H2 t2 r2 => hm W _ F2 H2 _ ws _ ys _ t2.fh (r1.mono t2.f t2.h) r2 (h2.mono kO_mon t2))⟩
  | _ => exact False.elim h1)⟩
theorem so_methL0 {W : WX} {to : TE} {r : V → List V → Hp → VK → Prop} {g : D → List D → XR B} {f : Ex} (hm : MtS K r g) (ho : SB K Z W to f) : SO K Z W (tBM0 K "list" r to) (oMethL g f aNil) := ⟨fun s h => ho.run s ((PX.bind h).imp fun x _ h1 F1 v1 H1 t1 r1 => by
  cases x with
  | lst xs =>
    obtain ⟨p, vs, rfl, hp, _⟩ := r1.lst t1.fh
    exact ⟨.inl ⟨rfl, vs, .of hp⟩, hm W _ F1 H1 _ [] _ [] _ t1.fh r1 .nil (PX.mono kO_mon t1 h1)⟩
  | _ => exact False.elim h1)⟩
/-! ### what is walked -/
structure Wk (K : PySem.W.Frag) (J : It) (F Bs : Hp) (ds : List D) : Prop where
  go : ∀ G H i d, Same F G → Same G H → Same Bs H → ds[i]? = some d → J.go i H ∧ ∀ x H', J.yld i H x H' → ∃ G', Stp G H G' H' ∧ Rep K G' x d
  stop : ∀ G H i, Same F G → Same G H → Same Bs H → ds.length ≤ i → J.stop i H
def kI (K : PySem.W.Frag) (R : It → Hp → Prop) : List D → Hp → Hp → Prop := fun ds F H => ∀ F' J H', Stp F H F' H' → Wk K J F' F' ds → R J H'
def kIB (K : PySem.W.Frag) (R : It → Hp → Prop) : List D → Hp → Hp → Prop := fun ds F H => ∀ F' J H', Stp F H F' H' → Wk K J F' H' ds → R J H'
theorem kI_mon {R : It → Hp → Prop} : Mon (kI K R) := fun _ _ _ _ _ t h F2 v H2 t2 q => h F2 v H2 (t.trans t2) q
theorem kIB_mon {R : It → Hp → Prop} : Mon (kIB K R) := fun _ _ _ _ _ t h F2 v H2 t2 q => h F2 v H2 (t.trans t2) q
structure SI (K : PySem.W.Frag) (Z : ZZ) (W : WX) (wi : TI) (f : ExI) : Prop where
  run : ∀ {F0 H0 F : Hp} {ρ : VD.Env} {σ : L2.St} {H : Hp} {R : It → Hp → Prop}, Sr K Z F0 H0 F ρ σ H → PX K W σ (f ρ) (kI K R) F H → wi σ H R
structure SIB (K : PySem.W.Frag) (Z : ZZ) (W : WX) (wi : TI) (f : ExI) : Prop where
  run : ∀ {F0 H0 F : Hp} {ρ : VD.Env} {σ : L2.St} {H : Hp} {R : It → Hp → Prop}, Sr K Z F0 H0 F ρ σ H → PX K W σ (f ρ) (kIB K R) F H → wi σ H R
theorem wk_list {a : Addr} {vs : List V} {ds : List D} {Bs : Hp} (hb : Bs a = some (.lst vs)) (r : RepL K F vs ds) : Wk K (Itl K a) F Bs ds where
  go := fun G H i d fg gh bh hd => by
    have ha : SqL K H a vs := .of (bh _ _ hb)
    obtain ⟨v, hv, rv⟩ := r.get i hd
    refine ⟨⟨vs, v, ha, hv⟩, fun x H' y => ?_⟩
    obtain ⟨rfl, hx⟩ := y
    have e := hx vs ha
    rw [hv] at e; cases e
    exact ⟨G, .refl gh, rv.mono fg⟩
  stop := fun G H i fg gh bh hl => ⟨vs, .of (bh _ _ hb), by rw [r.length]; exact hl⟩
theorem wk_tup {a : Addr} {vs : List V} {ds : List D} {Bs : Hp} (hb : Bs a = some (.tup vs)) (r : RepL K F vs ds) : Wk K (Itt K a) F Bs ds where
  go := fun G H i d fg gh bh hd => by
    have ha : SqT K H a vs := .of (bh _ _ hb)
    obtain ⟨v, hv, rv⟩ := r.get i hd
    refine ⟨⟨vs, v, ha, hv⟩, fun x H' y => ?_⟩
    obtain ⟨rfl, hx⟩ := y
    have e := hx vs ha
    rw [hv] at e; cases e
    exact ⟨G, .refl gh, rv.mono fg⟩
  stop := fun G H i fg gh bh hl => ⟨vs, .of (bh _ _ hb), by rw [r.length]; exact hl⟩
theorem wk_rng {lo : Int} {n : Nat} {Bs : Hp} : Wk K (Itr lo n) F Bs (rng lo n) where
  go := fun G H i d fg gh bh hd => by
    unfold rng at hd
    rw [List.getElem?_map, Option.map_eq_some_iff] at hd
    obtain ⟨k, hk, rfl⟩ := hd
    obtain ⟨h1, h2⟩ := List.getElem?_eq_some_iff.mp hk
    rw [List.getElem_range] at h2
    rw [List.length_range] at h1
    subst h2
    refine ⟨h1, fun x H' y => ?_⟩
    obtain ⟨rfl, rfl⟩ := y
    exact ⟨G, .refl gh, .int _⟩
  stop := fun G H i fg gh bh hl => by
    have : (rng lo n).length = n := by unfold rng; simp
    show n ≤ i
    omega
theorem wk_str {z : Str} {Bs : Hp} : Wk K (Its z) F Bs (z.cps.toList.map fun c => .str ⟨#[c]⟩) where
  go := fun G H i d fg gh bh hd => by
    rw [List.getElem?_map, Option.map_eq_some_iff] at hd
    obtain ⟨c, hc, rfl⟩ := hd
    have hc' : z.cps[i]? = some c := by rw [← hc]; simp
    have hi : i < z.cps.size := (Array.getElem?_eq_some_iff.mp hc').1
    refine ⟨hi, fun x H' y => ?_⟩
    obtain ⟨rfl, c', h1, rfl⟩ := y
    rw [hc'] at h1; cases h1
    exact ⟨G, .refl gh, .str _⟩
  stop := fun G H i fg gh bh hl => by
    show z.cps.size ≤ i
    simpa using hl
theorem zip_get {α β : Type} : ∀ {xs : List α} {ys : List β} {i : Nat} {p : α × β}, (xs.zip ys)[i]? = some p → xs[i]? = some p.1 ∧ ys[i]? = some p.2 := fun {xs ys i p} h => by
  rw [List.getElem?_zip_eq_some] at h
  exact h
theorem wk_zip {a b : Addr} {vs ws : List V} {ds es : List D} {Bs : Hp} (hb : Bs a = some (.lst vs)) (hb2 : Bs b = some (.lst ws)) (r : RepL K F vs ds) (r2 : RepL K F ws es) : Wk K (Itz K a b) F Bs ((ds.zip es).map fun p => .tup [p.1, p.2]) where
  go := fun G H i d fg gh bh hd => by
    have ha : SqL K H a vs := .of (bh _ _ hb)
    have ha2 : SqL K H b ws := .of (bh _ _ hb2)
    rw [List.getElem?_map, Option.map_eq_some_iff] at hd
    obtain ⟨p, hp, rfl⟩ := hd
    obtain ⟨h1, h2⟩ := zip_get hp
    obtain ⟨v, hv, rv⟩ := r.get i h1
    obtain ⟨w, hw, rw'⟩ := r2.get i h2
    refine ⟨⟨vs, ws, v, w, ha, ha2, hv, hw⟩, fun x H' y => ?_⟩
    obtain ⟨T, x1, y1, rfl, hT, rfl, hx, hy⟩ := y
    have e := hx vs ha
    rw [hv] at e; cases e
    have e := hy ws ha2
    rw [hw] at e; cases e
    have sm : Same G (upd G T (.tup [v, w])) := same_new (gh.free hT)
    exact ⟨_, .new gh hT, .tup upd_same (.cons ((rv.mono fg).mono sm) (.cons ((rw'.mono fg).mono sm) .nil))⟩
  stop := fun G H i fg gh bh hl => by
    refine ⟨vs, ws, .of (bh _ _ hb), .of (bh _ _ hb2), ?_⟩
    rw [r.length, r2.length]
    simp only [List.length_map, List.length_zip] at hl
    omega
theorem wk_enum {a : Addr} {vs : List V} {ds : List D} {Bs : Hp} (hb : Bs a = some (.lst vs)) (r : RepL K F vs ds) : Wk K (Ite K a) F Bs (ds.zipIdx.map fun p => .tup [.int (p.2 : Nat), p.1]) where
  go := fun G H i d fg gh bh hd => by
    have ha : SqL K H a vs := .of (bh _ _ hb)
    rw [List.getElem?_map, Option.map_eq_some_iff] at hd
    obtain ⟨p, hp, rfl⟩ := hd
    rw [List.getElem?_zipIdx, Option.map_eq_some_iff] at hp
    obtain ⟨d, hd, rfl⟩ := hp
    obtain ⟨v, hv, rv⟩ := r.get i hd
    refine ⟨⟨vs, v, ha, hv⟩, fun x H' y => ?_⟩
    obtain ⟨T, x1, rfl, hT, rfl, hx⟩ := y
    have e := hx vs ha
    rw [hv] at e; cases e
    have sm : Same G (upd G T (.tup [.int (i : Nat), v])) := same_new (gh.free hT)
    refine ⟨_, .new gh hT, .tup upd_same (.cons ?_ (.cons ((rv.mono fg).mono sm) .nil))⟩
    simpa using Rep.int _
  stop := fun G H i fg gh bh hl => ⟨vs, .of (bh _ _ hb), by rw [r.length]; simpa using hl⟩
variable {W : WX} {te : TE} {f : Ex} {ta : TA} {a : ExA}
theorem si_list (ha : SE K Z W te f) : SI K Z W (L2.iList K te) (wList f) := ⟨fun s h => ha.run s ((PX.bind h).imp fun x _ h1 F1 v1 H1 t1 r1 => by
  cases x with
  | lst xs =>
    cases r1 with
    | lst hp r => exact ⟨_, rfl, ⟨_, .of (t1.fh _ _ hp)⟩, h1 F1 _ H1 t1 (wk_list hp r)⟩
  | _ => exact False.elim h1)⟩
theorem sib_list (ha : SB K Z W te f) : SIB K Z W (L2.iList K te) (wList f) := ⟨fun s h => ha.run s ((PX.bind h).imp fun x _ h1 F1 v1 H1 t1 r1 => by
  cases x with
  | lst xs =>
    obtain ⟨p, vs, rfl, hp, r⟩ := r1.lst t1.fh
    exact ⟨_, rfl, ⟨_, .of hp⟩, h1 F1 _ H1 t1 (wk_list hp r)⟩
  | _ => exact False.elim h1)⟩
theorem si_tup (ha : SE K Z W te f) : SI K Z W (L2.iTup K te) (wTup f) := ⟨fun s h => ha.run s ((PX.bind h).imp fun x _ h1 F1 v1 H1 t1 r1 => by
  cases x with
  | tup xs =>
    cases r1 with
    | tup hp r => exact ⟨_, rfl, ⟨_, .of (t1.fh _ _ hp)⟩, h1 F1 _ H1 t1 (wk_tup hp r)⟩
  | _ => exact False.elim h1)⟩
theorem sib_tup (ha : SB K Z W te f) : SIB K Z W (L2.iTup K te) (wTup f) := ⟨fun s h => ha.run s ((PX.bind h).imp fun x _ h1 F1 v1 H1 t1 r1 => by
  cases x with
  | tup xs =>
    obtain ⟨p, vs, rfl, hp, r⟩ := r1.tup t1.fh
    exact ⟨_, rfl, ⟨_, .of hp⟩, h1 F1 _ H1 t1 (wk_tup hp r)⟩
  | _ => exact False.elim h1)⟩
theorem si_str (ha : SB K Z W te f) : SI K Z W (L2.iStr te) (wStr f) := ⟨fun s h => ha.run s ((PX.bind h).imp fun x _ h1 F1 v1 H1 t1 r1 => by
  cases x with
  | str z =>
    cases r1.str
    exact ⟨z, rfl, h1 F1 _ H1 t1 wk_str⟩
  | _ => exact False.elim h1)⟩
theorem Wk.look {J : It} {F' H' : Hp} {ds : List D} (e : Same F' H') (w : Wk K J F' F' ds) : Wk K J F' H' ds :=
  ⟨fun G H i d a b c => w.go G H i d a b (e.trans c), fun G H i a b c => w.stop G H i a b (e.trans c)⟩
theorem sib_of {wi : TI} {f : ExI} (h : SI K Z W wi f) : SIB K Z W wi f := ⟨fun s q => h.run s (q.imp fun _ _ k F' J H' t w => k F' J H' t (w.look t.fh))⟩
theorem px_int {α : Type} {σ : L2.St} {x : D} {f : Int → XR α} {k : α → Hp → Hp → Prop} {F H : Hp} (h : PX K W σ ((eI x).bind f) k F H) : ∃ i, x = .int i ∧ PX K W σ (f i) k F H := by
  cases x with
  | int i => exact ⟨i, rfl, h⟩
  | _ => exact False.elim h
theorem si_range1 (ha : SB K Z W te f) : SI K Z W (L2.iRng1 (tCons te tNil)) (wRange1 f) := ⟨fun s h => ha.run s ((PX.bind h).imp fun x _ h1 F1 v1 H1 t1 r1 => by
  obtain ⟨j, rfl, h1⟩ := px_int h1
  cases r1.int
  obtain ⟨h2, k⟩ := px_if h1
  exact ⟨j, rfl, by omega, by omega, k F1 _ H1 t1 wk_rng⟩)⟩
theorem si_range2 {tb : TE} {g : Ex} (ha : SB K Z W te f) (hb : SB K Z W tb g) : SI K Z W (L2.iRng2 (tCons te (tCons tb tNil))) (wRange2 f g) := ⟨fun s h => ha.run s ((PX.bind h).imp fun x _ h1 F1 v1 H1 t1 r1 =>
  hb.run (s.stp t1) ((PX.bind (PX.mono kI_mon t1 h1)).imp fun y _ h2 F2 v2 H2 t2 r2 => by
    obtain ⟨i, e1, h3⟩ := px_int h2
    obtain ⟨j, e2, h4⟩ := px_int h3
    subst e1 e2
    cases r1.int
    cases r2.int
    obtain ⟨h3, k⟩ := px_if h4
    exact ⟨i, j, rfl, by omega, k F2 _ H2 t2 wk_rng⟩))⟩
theorem si_zip (ha : SA K Z W ta a) : SI K Z W (L2.iZip K ta) (wZip a) := ⟨fun s h => ha.run s ((PX.bind h).imp fun xs _ h1 F1 vs H1 t1 r1 => by
  match xs, r1, h1 with
  | [x, y], r, h1 =>
    cases r with
    | cons rx r =>
      cases r with
      | cons ry r =>
        cases r
        cases x with
        | lst xs =>
          cases y with
          | lst ys =>
            cases rx with
            | lst hp r =>
              cases ry with
              | lst hq r2 => exact ⟨_, _, _, _, rfl, .of (t1.fh _ _ hp), .of (t1.fh _ _ hq), h1 F1 _ H1 t1 (wk_zip hp hq r r2)⟩
          | _ => exact False.elim h1
        | _ => exact False.elim h1
  | [], _, h => exact False.elim h
  | [x], _, h => cases x <;> exact False.elim h
  | x :: y :: c :: _, _, h => cases x <;> first | exact False.elim h | (cases y <;> exact False.elim h))⟩
theorem sib_zip (ha : SAB K Z W ta a) : SIB K Z W (L2.iZip K ta) (wZip a) := ⟨fun s h => ha.run s ((PX.bind h).imp fun xs _ h1 F1 vs H1 t1 r1 => by
  match xs, r1, h1 with
  | [x, y], r, h1 =>
    cases r with
    | cons rx r =>
      cases r with
      | cons ry r =>
        cases r
        cases x with
        | lst xs =>
          cases y with
          | lst ys =>
            obtain ⟨p, vs, rfl, hp, r⟩ := rx.lst t1.fh
            obtain ⟨q, ws, rfl, hq, r2⟩ := ry.lst t1.fh
            exact ⟨_, _, _, _, rfl, .of hp, .of hq, h1 F1 _ H1 t1 (wk_zip hp hq r r2)⟩
          | _ => exact False.elim h1
        | _ => exact False.elim h1
  | [], _, h => exact False.elim h
  | [x], _, h => cases x <;> exact False.elim h
  | x :: y :: c :: _, _, h => cases x <;> first | exact False.elim h | (cases y <;> exact False.elim h))⟩
theorem si_enum (ha : SA K Z W ta a) : SI K Z W (L2.iEnum K ta) (wEnum a) := ⟨fun s h => ha.run s ((PX.bind h).imp fun xs _ h1 F1 vs H1 t1 r1 => by
  match xs, r1, h1 with
  | [x], r, h1 =>
    cases r with
    | cons rx r =>
      cases r
      cases x with
      | lst xs =>
        cases rx with
        | lst hp r => exact ⟨_, _, rfl, .of (t1.fh _ _ hp), h1 F1 _ H1 t1 (wk_enum hp r)⟩
      | _ => exact False.elim h1
  | [], _, h => exact False.elim h
  | x :: y :: _, _, h => cases x <;> exact False.elim h)⟩
/-! ### targets -/
structure SG (K : PySem.W.Frag) (g : TG) (n : Tg) (ts : List Nat) : Prop where
  run : ∀ {Z : ZZ} {F0 H0 F : Hp} {ρ ρ' : VD.Env} {σ : L2.St} {H : Hp} {v : V} {d : D} {Q : L2.St → Hp → Prop}, Sr K Z F0 H0 F ρ σ H → Rep K F v d → n d ρ = .ok ρ' → (∀ σ', Sr K Z F0 H0 F ρ' σ' H → σ'.length = σ.length → (∀ i, i ∉ ts → σ'[i]? = σ[i]?) → Q σ' H) → g v σ H Q
structure SGs (K : PySem.W.Frag) (g : TGs) (n : Tgs) (ts : List Nat) : Prop where
  run : ∀ {Z : ZZ} {F0 H0 F : Hp} {ρ ρ' : VD.Env} {σ : L2.St} {H : Hp} {vs : List V} {ds : List D} {Q : L2.St → Hp → Prop}, Sr K Z F0 H0 F ρ σ H → RepL K F vs ds → n ds ρ = .ok ρ' → (∀ σ', Sr K Z F0 H0 F ρ' σ' H → σ'.length = σ.length → (∀ i, i ∉ ts → σ'[i]? = σ[i]?) → Q σ' H) → g vs σ H Q
theorem sg_name (i : Nat) : SG K (L2.gName i) (nName i) [i] := ⟨fun {Z F0 H0 F ρ ρ' σ H v d Q} s r e k => by
  cases e
  exact k _ (s.setD i r) (by simp) fun j hj => List.getElem?_set_ne (fun z => hj (by simp [z]))⟩
theorem sgs_nil : SGs K gNil nNil [] := ⟨fun {Z F0 H0 F ρ ρ' σ H vs ds Q} s r e k => by
  cases ds with
  | nil => cases e; cases r; exact ⟨rfl, k _ s rfl fun _ _ => rfl⟩
  | cons _ _ => cases e⟩
theorem XR.bind_okE {α β : Type} {r : XR α} {f : α → XR β} {b : β} (h : r.bind f = .ok b) : ∃ a, r = .ok a ∧ f a = .ok b := by
  cases r with
  | ok a => exact ⟨a, rfl, h⟩
  | ex _ _ => cases h
  | bad => cases h
theorem sgs_cons {g : TG} {n : Tg} {ts : List Nat} {gs : TGs} {ns : Tgs} {us : List Nat} (h1 : SG K g n ts) (h2 : SGs K gs ns us) : SGs K (gCons g gs) (nCons n ns) (ts ++ us) := ⟨fun {Z F0 H0 F ρ ρ' σ H vs ds Q} s r e k => by
  cases ds with
  | nil => cases e
  | cons d ds =>
    cases r with
    | cons r t =>
      obtain ⟨ρ1, e1, e2⟩ := XR.bind_okE e
      exact ⟨_, _, rfl, h1.run s r e1 fun σ1 s1 l1 k1 => h2.run s1 t e2 fun σ2 s2 l2 k2 => k σ2 s2 (l2.trans l1) fun i hi => (k2 i fun z => hi (List.mem_append.mpr (.inr z))).trans (k1 i fun z => hi (List.mem_append.mpr (.inl z)))⟩⟩
theorem sg_tup {n : Nat} {gs : TGs} {ns : Tgs} {us : List Nat} (h : SGs K gs ns us) : SG K (L2.gTup K n gs) (nTup n ns) us := ⟨fun {Z F0 H0 F ρ ρ' σ H v d Q} s r e k => by
  cases d with
  | tup ds =>
    have e : (if ds.length = n then ns ds ρ else XR.bad) = .ok ρ' := e
    by_cases hl : ds.length = n
    · rw [if_pos hl] at e
      cases r with
      | tup hp r => exact ⟨_, _, rfl, .of (s.fH _ _ hp), by rw [r.length]; exact hl, h.run s r e k⟩
    · rw [if_neg hl] at e; cases e
  | _ => cases e⟩
/-! ### comprehensions -/
abbrev W0 : WX := fun _ _ _ _ => False
theorem wipe_get {σ : L2.St} : ∀ {vs : List Nat} {i : Nat}, i ∉ vs → (L2.wipe σ vs)[i]? = σ[i]?
  | [], _, _ => rfl
  | v :: vs, i, h => by
    show ((L2.wipe σ vs).set v none)[i]? = _
    rw [List.getElem?_set_ne (fun z => h (by simp [z])), wipe_get (fun z => h (List.mem_cons_of_mem _ z))]
theorem wipe_in {σ : L2.St} : ∀ {vs : List Nat} {i : Nat}, i ∈ vs → i < σ.length → (L2.wipe σ vs)[i]? = some none
  | [], _, h, _ => by cases h
  | v :: vs, i, h, hl => by
    show ((L2.wipe σ vs).set v none)[i]? = _
    by_cases e : v = i
    · subst e
      exact List.getElem?_set_self (by rw [wipe_length]; exact hl)
    · rw [List.getElem?_set_ne e]
      rcases List.mem_cons.mp h with z | z
      · exact absurd z.symm e
      · exact wipe_in z hl
theorem wipe_same {σ σ' : L2.St} {vs : List Nat} (hl : σ'.length = σ.length) (h : ∀ i, i ∉ vs → σ'[i]? = σ[i]?) : L2.wipe σ' vs = L2.wipe σ vs := by
  apply List.ext_getElem?
  intro i
  by_cases hi : i ∈ vs
  · by_cases hlt : i < σ.length
    · rw [wipe_in hi hlt, wipe_in hi (by omega)]
    · rw [List.getElem?_eq_none (by rw [wipe_length]; omega), List.getElem?_eq_none (by rw [wipe_length]; omega)]
  · rw [wipe_get hi, wipe_get hi, h i hi]
theorem Sr.wipe {F0 H0 F H : Hp} {ρ : VD.Env} {σ : L2.St} (s : Sr K Z F0 H0 F ρ σ H) : ∀ vs : List Nat, Sr K Z F0 H0 F (wipeB ρ vs) (L2.wipe σ vs) H
  | [] => s
  | v :: vs => (Sr.wipe s vs).gone v none
theorem so_lc {wi : TI} {i : ExI} {g : TG} {n : Tg} {ts vs : List Nat} {tt : TT} {t : ExT} {te : TE} {e : Ex} (hi : SIB K Z W wi i) (hg : SG K g n ts) (hts : (ts.all fun k => vs.contains k) = true) (ht : ST K Z W0 tt t) (he : SE K Z W0 te e) : SO K Z W (tLc wi g tt te vs) (oLc i n t e vs) := ⟨fun {F0 H0 F ρ σ H Q} s h => hi.run s ((PX.bind h).imp fun xs _ h1 F1 J H1 t1 wk => by
  obtain ⟨hl, h1⟩ := px_if h1
  cases hq : lcGo n t e (wipeB ρ vs) xs with
  | ex c x => rw [hq] at h1; exact False.elim h1
  | bad => rw [hq] at h1; exact False.elim h1
  | ok ys =>
    rw [hq] at h1
    have h1 : kO K Q (.own (.lst ys)) F1 H1 := kO_mon _ _ _ _ _ t1 h1
    intro Dl hD
    refine ⟨fun k m H2 => m + k = xs.length ∧ ∃ G acc ws rest, Stp F1 H1 G H2 ∧ G Dl = none ∧ H2 Dl = some (.lst ws) ∧ RepL K G ws acc ∧ lcGo n t e (wipeB ρ vs) (xs.drop k) = .ok rest ∧ acc ++ rest = ys ∧ acc.length ≤ k,
      ⟨xs.length, by omega, F1, [], [], ys, .own t1.fh hD, t1.fh.free hD, upd_same, .nil, hq, rfl, Nat.le_refl _⟩, ?_⟩
    rintro k m H2 ⟨hm, G, acc, ws, rest, st, gD, hD2, rl, hr, ha, hk⟩
    by_cases hlt : k < xs.length
    · refine .inr ?_
      have hd : xs[k]? = some xs[k] := by simp [hlt]
      obtain ⟨go, yl⟩ := wk.go G H2 k xs[k] st.f st.fh st.h hd
      refine ⟨go, fun H' => m - 1 + (k + 1) = xs.length ∧ ∃ G acc ws rest, Stp F1 H1 G H' ∧ G Dl = none ∧ H' Dl = some (.lst ws) ∧ RepL K G ws acc ∧ lcGo n t e (wipeB ρ vs) (xs.drop (k + 1)) = .ok rest ∧ acc ++ rest = ys ∧ acc.length ≤ k + 1, fun H' hH => ⟨m - 1, by omega, hH⟩, fun x H3 y => ?_⟩
      obtain ⟨G3, st3, r3⟩ := yl x H3 y
      have sw := ((s.stp (t1.trans (st.trans st3))).wipe vs)
      have hD3 : H3 Dl = some (.lst ws) := st3.h _ _ hD2
      have gD3 : G3 Dl = none := st3.nw Dl (by rw [hD2]; exact fun z => by cases z) gD
      rw [List.drop_eq_getElem_cons hlt] at hr
      unfold lcGo at hr
      obtain ⟨ρ1, e1, hr⟩ := XR.bind_okE hr
      obtain ⟨c, e2, hr⟩ := XR.bind_okE hr
      refine hg.run sw r3 e1 fun σ2 s2 l2 k2 => ⟨?_, ?_⟩
      · have w1 : L2.wipe σ2 vs = L2.wipe (L2.wipe σ vs) vs := wipe_same l2 fun i hi => k2 i fun z => hi (by
          have := List.all_eq_true.mp hts i z
          simpa using this)
        rw [w1]
        exact wipe_same (wipe_length _ _) fun i hi => wipe_get hi
      · refine ht.run s2 ?_
        rw [e2]
        intro G4 H4 st4
        have hD4 : H4 Dl = some (.lst ws) := st4.h _ _ hD3
        have gD4 : G4 Dl = none := st4.nw Dl (by rw [hD3]; exact fun z => by cases z) gD3
        cases c with
        | false =>
          rw [if_neg Bool.false_ne_true] at hr ⊢
          exact ⟨by omega, G4, acc, ws, rest, (st.trans st3).trans st4, gD4, hD4, (rl.mono st3.f).mono st4.f, hr, ha, by omega⟩
        | true =>
          rw [if_pos rfl] at hr ⊢
          obtain ⟨z, e3, hr⟩ := XR.bind_okE hr
          obtain ⟨zs, e4, hr⟩ := XR.bind_okE hr
          cases hr
          refine he.run (s2.stp st4) ?_
          rw [e3]
          intro G5 v5 H5 st5 r5
          have hD5 : H5 Dl = some (.lst ws) := st5.h _ _ hD4
          have gD5 : G5 Dl = none := st5.nw Dl (by rw [hD4]; exact fun z => by cases z) gD4
          have rl5 := ((rl.mono st3.f).mono st4.f).mono st5.f
          have stt := ((st.trans st3).trans st4).trans st5
          refine ⟨ws, hD5, by rw [rl.length]; exact lim_lt (by omega), by omega, G5, acc ++ [z], ws ++ [v5], zs, ⟨stt.f, fun b o q => ?_, fun b o q => ?_, stt.nw⟩, gD5, upd_same, rl5.append (.cons r5 .nil), e4, by rw [List.append_assoc]; exact ha, by simp; omega⟩
          · rw [upd_ne (ne_of_none q hD)]; exact stt.h _ _ q
          · rw [upd_ne (ne_of_none q gD5)]; exact stt.fh _ _ q
    · refine .inl ⟨wk.stop G H2 k st.f st.fh st.h (by omega), ?_⟩
      rw [List.drop_eq_nil_of_le (by omega)] at hr
      cases hr
      rw [List.append_nil] at ha
      subst ha
      exact h1 G Dl H2 st hD gD ⟨ws, hD2, rl⟩)⟩
end
end VS

set_option Elab.async false
set_option linter.all false
set_option maxRecDepth 100000
set_option maxHeartbeats 4000000
namespace VS
open PySem PySem.Spec L2 VD
/-! ### statements -/
structure Fin (F0 H0 F' H' : Hp) : Prop where
  s0 : Same H0 H'
  sF : Same F0 F'
  fH : Same F' H'
  fr : ∀ a, H0 a ≠ none → F0 a = none → F' a = none
def PO (K : PySem.W.Frag) (Z : ZZ) (W : WX) (F0 H0 : Hp) (o : Out) (D : Ends) (F : Hp) : Prop := match o with
  | .nx ρ' => ∀ F' σ' H', Same F F' → Sr K Z F0 H0 F' ρ' σ' H' → D.nx σ' H'
  | .bk ρ' => ∀ F' σ' H', Same F F' → Sr K Z F0 H0 F' ρ' σ' H' → D.bk σ' H'
  | .ct ρ' => ∀ F' σ' H', Same F F' → Sr K Z F0 H0 F' ρ' σ' H' → D.ct σ' H'
  | .rt (.d d) => ∀ F' v H', Same F F' → Fin F0 H0 F' H' → Rep K F' v d → D.rt v H'
  | .rt (.own d) => ∀ F' a H', Same F F' → Fin F0 H0 F' H' → H0 a = none → F' a = none → Cell K F' H' a d → D.rt (.ref a) H'
  | .rt _ => False
  | .ex c x ρ' => ∀ F' σ' H' cl dd, Same F F' → Sr K Z F0 H0 F' ρ' σ' H' → XRep K F' cl dd c x → W cl dd σ' H'
  | .bad => False
structure SS (K : PySem.W.Frag) (Z : ZZ) (W : WX) (t : TS) (g : Sm) : Prop where
  run : ∀ {F0 H0 F : Hp} {ρ : VD.Env} {σ : L2.St} {H : Hp} {D : Ends}, Sr K Z F0 H0 F ρ σ H → PO K Z W F0 H0 (g ρ) D F → t D σ H
section
variable {K : PySem.W.Frag} {Z : ZZ} {W : WX} {F0 H0 F F' H H' : Hp} {ρ : VD.Env} {σ : L2.St} {D : Ends} {o : Out}
theorem Sr.fin (s : Sr K Z F0 H0 F ρ σ H) : Fin F0 H0 F H := ⟨s.s0, s.sF, s.fH, s.fr⟩
theorem PO.mono (e : Same F F') (h : PO K Z W F0 H0 o D F) : PO K Z W F0 H0 o D F' := by
  cases o with
  | nx ρ => exact fun F2 σ2 H2 e2 s => h F2 σ2 H2 (e.trans e2) s
  | bk ρ => exact fun F2 σ2 H2 e2 s => h F2 σ2 H2 (e.trans e2) s
  | ct ρ => exact fun F2 σ2 H2 e2 s => h F2 σ2 H2 (e.trans e2) s
  | rt b =>
    cases b with
    | nil => exact h
    | exo => exact h
    | d d => exact fun F2 σ2 H2 e2 s => h F2 σ2 H2 (e.trans e2) s
    | own d => exact fun F2 σ2 H2 e2 s => h F2 σ2 H2 (e.trans e2) s
  | ex c x ρ => exact fun F2 σ2 H2 cl dd e2 s => h F2 σ2 H2 cl dd (e.trans e2) s
  | bad => exact h
/-- an expression within a statement -/
theorem po_got {α : Type} {r : XR α} {f : α → Out} {k : α → Hp → Hp → Prop} (s : Sr K Z F0 H0 F ρ σ H) (h : PO K Z W F0 H0 (got r ρ f) D F) (hk : ∀ a, r = .ok a → PO K Z W F0 H0 (f a) D F → k a F H) : PX K W σ r k F H := by
  cases r with
  | ok a => exact hk a rfl h
  | ex c x => exact fun F' H' cl dd t q => h F' σ H' cl dd t.f (s.stp t) q
  | bad => exact h
end
section
variable {K : PySem.W.Frag} {Z : ZZ} {W : WX} {t u : TS} {a b : Sm} {te : TE} {e : Ex} {o : ExO} {tt : TT} {c : ExT}
theorem ss_next : SS K Z W tNext sNext := ⟨fun s h => h _ _ _ (.refl _) s⟩
theorem ss_seq (h1 : SS K Z W t a) (h2 : SS K Z W u b) : SS K Z W (tSeq t u) (sSeq a b) := ⟨fun {F0 H0 F ρ σ H D} s h => h1.run s (by
  have h : PO K Z W F0 H0 ((a ρ).thn b) D F := h
  cases q : a ρ with
  | nx ρ' => rw [q] at h; exact fun F' σ' H' e s' => h2.run s' (h.mono e)
  | bk ρ' => rw [q] at h; exact h
  | ct ρ' => rw [q] at h; exact h
  | rt v => rw [q] at h; cases v <;> exact h
  | ex c x ρ' => rw [q] at h; exact h
  | bad => rw [q] at h; exact h)⟩
theorem ss_set (i : Nat) (h1 : SO K Z W te o) : SS K Z W (tAsg te (L2.gName i)) (sSet i o) := ⟨fun {F0 H0 F ρ σ H D} s h => h1.run s (po_got s h fun b _ k => by
  cases b with
  | nil => exact k
  | exo => exact k
  | d d => exact fun F' v H' t r => k F' _ H' t.f ((s.stp t).setD i r)
  | own d => exact fun F' p H' t n nf cl => k F' _ H' t.f ((s.stp t).setO i (s.s0.free n) nf cl (s.apart n i)))⟩
theorem po_noX {F0 H0 F : Hp} {D : Ends} {α : Type} {r : XR α} {ρ : VD.Env} {f : α → Out} (h : PO K Z W F0 H0 (got (noX r) ρ f) D F) : ∃ x, r = .ok x ∧ PO K Z W F0 H0 (f x) D F := by
  cases r with
  | ok x => exact ⟨x, rfl, h⟩
  | ex _ _ => exact False.elim h
  | bad => exact False.elim h
theorem ss_asg {g : TG} {n : Tg} {ts : List Nat} (h1 : SE K Z W te e) (hg : SG K g n ts) : SS K Z W (tAsg te g) (sAsg n e) := ⟨fun {F0 H0 F ρ σ H D} s h => h1.run s (po_got s h fun d _ k F' v H' t r => by
  obtain ⟨ρ', q, k⟩ := po_noX k
  exact hg.run (s.stp t) r q fun σ' s' _ _ => k F' σ' H' t.f s')⟩
theorem ss_ret (h1 : SO K Z W te o) : SS K Z W (tRet te) (sRet o) := ⟨fun {F0 H0 F ρ σ H D} s h => h1.run s (po_got s h fun b _ k => by
  cases b with
  | nil => exact k
  | exo => exact k
  | d d => exact fun F' v H' t r => k F' v H' t.f (s.stp t).fin r
  | own d => exact fun F' p H' t n nf cl => k F' p H' t.f (s.stp t).fin (s.s0.free n) nf cl)⟩
theorem ss_retV (i : Nat) : SS K Z W (tRet (tVar i)) (sRetV i) := ⟨fun {F0 H0 F ρ σ H D} s h => by
  unfold sRetV at h
  cases q : ρ[i]? with
  | none => rw [q] at h; exact False.elim h
  | some b =>
    rw [q] at h
    cases b with
    | nil => exact False.elim h
    | exo => exact False.elim h
    | d d =>
      obtain ⟨v, h1, h2⟩ := s.val i d q
      exact ⟨v, h1, h F v H (.refl _) s.fin h2⟩
    | own d =>
      obtain ⟨p, h1, h2, h3, h4⟩ := s.own i d q
      exact ⟨_, h1, h F p H (.refl _) s.fin h2 h3 h4⟩⟩
theorem ss_retN : SS K Z W tRetN sRetN := ⟨fun {F0 H0 F ρ σ H D} s h => h F .non H (.refl _) s.fin .non⟩
theorem ss_if (hc : ST K Z W tt c) (h1 : SS K Z W t a) (h2 : SS K Z W u b) : SS K Z W (tIfS tt t u) (sIf c a b) := ⟨fun {F0 H0 F ρ σ H D} s h => hc.run s (po_got s h fun x _ k F' H' st => by
  cases x with
  | true => exact h1.run (s.stp st) (PO.mono st.f k)
  | false => exact h2.run (s.stp st) (PO.mono st.f k))⟩
theorem ss_bk : SS K Z W tBreak sBk := ⟨fun s h => h _ _ _ (.refl _) s⟩
theorem ss_ct : SS K Z W tCont sCt := ⟨fun s h => h _ _ _ (.refl _) s⟩
theorem ss_drop (h1 : SE K Z W te e) : SS K Z W (tDrop te) (sDrop e) := ⟨fun {F0 H0 F ρ σ H D} s h => h1.run s (po_got s h fun d _ k F' v H' t r => k F' σ H' t.f (s.stp t))⟩
theorem ss_fz (i : Nat) (h1 : SS K Z W t a) : SS K Z W t (sFz i a) := ⟨fun {F0 H0 F ρ σ H D} s h => by
  obtain ⟨F', e, s'⟩ := s.frz i
  exact h1.run s' (PO.mono e h)⟩
theorem ss_gone (i : Nat) (h1 : SS K Z W t a) : SS K Z W t (sGone i a) := ⟨fun {F0 H0 F ρ σ H D} s h => h1.run (s.gone0 i) h⟩
/-- x.append(e) -/
theorem ss_app (i : Nat) (h1 : SE K Z W te e) : SS K Z W (tDrop (tBM K "list" rAppend (tVar i) (tCons te tNil))) (sApp i e) := ⟨fun {F0 H0 F ρ σ H D} s h => by
  unfold sApp at h
  cases q : ρ[i]? with
  | none => rw [q] at h; exact False.elim h
  | some b =>
    rw [q] at h
    cases b with
    | nil => exact False.elim h
    | exo => exact False.elim h
    | d d => exact False.elim h
    | own d =>
      cases d with
      | lst xs =>
        obtain ⟨p, h1', h2, h3, vs, h4, h5⟩ := s.own i _ q
        refine ⟨_, h1', .inl ⟨rfl, vs, .of h4⟩, h1.run s (po_got s h fun d _ k F' v H' t r => ?_)⟩
        have hp := t.h _ _ h4
        by_cases hl : xs.length < LIM
        · simp only [if_pos hl] at k
          refine ⟨p, vs, v, rfl, rfl, hp, by rw [h5.length]; exact lim_lt hl, ?_⟩
          exact k F' σ _ t.f ((s.stp t).put q h1' ⟨_, upd_same, (h5.mono t.f).append (.cons r .nil)⟩)
        · simp only [if_neg hl] at k; exact False.elim k
      | _ => exact False.elim h⟩
theorem ss_rev (i : Nat) : SS K Z W (tDrop (tBM0 K "list" rReverse (tVar i))) (sRev i) := ⟨fun {F0 H0 F ρ σ H D} s h => by
  unfold sRev at h
  cases q : ρ[i]? with
  | none => rw [q] at h; exact False.elim h
  | some b =>
    rw [q] at h
    cases b with
    | nil => exact False.elim h
    | exo => exact False.elim h
    | d d => exact False.elim h
    | own d =>
      cases d with
      | lst xs =>
        obtain ⟨p, h1', h2, h3, vs, h4, h5⟩ := s.own i _ q
        exact ⟨_, h1', .inl ⟨rfl, vs, .of h4⟩, p, vs, rfl, rfl, h4, h F σ _ (.refl _) (s.put q h1' ⟨_, upd_same, h5.reverse⟩)⟩
      | _ => exact False.elim h⟩
theorem ss_aug (i : Nat) (f : Int → Int → Int) (h1 : SE K Z W te e) : SS K Z W (tAug i te (ipI f)) (sAug i f e) := ⟨fun {F0 H0 F ρ σ H D} s h => by
  unfold sAug at h
  cases q : ρ[i]? with
  | none => rw [q] at h; exact False.elim h
  | some b =>
    rw [q] at h
    cases b with
    | d d =>
      cases d with
      | int x =>
        obtain ⟨v, h2, h3⟩ := s.val i _ q
        cases h3
        refine ⟨_, h2, h1.run s (po_got s h fun d _ k F' v H' t r => ?_)⟩
        cases d with
        | int y =>
          cases r
          exact ⟨x, y, rfl, rfl, k F' _ H' t.f ((s.stp t).setD i (.int _))⟩
        | _ => exact False.elim k
      | _ => exact False.elim h
    | _ => exact False.elim h⟩
theorem ss_for {wi : TI} {i : ExI} {g : TG} {n : Tg} {ts : List Nat} (hi : SI K Z W wi i) (hg : SG K g n ts) (hb : SS K Z W t b) : SS K Z W (tFor wi g t) (sFor i n b) := ⟨fun {F0 H0 F ρ σ H D} s h => hi.run s (po_got s h fun xs _ k F1 J H1 t1 wk => by
  refine ⟨fun j m σ H => m + j = xs.length ∧ ∃ F' ρ', Same F1 F' ∧ Sr K Z F0 H0 F' ρ' σ H ∧ PO K Z W F0 H0 (forGo n b (xs.drop j) ρ') D F', ⟨xs.length, by omega, F1, ρ, .refl _, s.stp t1, PO.mono t1.f k⟩, ?_⟩
  rintro j m σ2 H2 ⟨hm, F2, ρ2, e2, s2, k2⟩
  by_cases hlt : j < xs.length
  · refine .inr ?_
    have hd : xs[j]? = some xs[j] := by simp [hlt]
    obtain ⟨go, yl⟩ := wk.go F2 H2 j xs[j] e2 s2.fH (e2.trans s2.fH) hd
    refine ⟨go, fun σ H => m - 1 + (j + 1) = xs.length ∧ ∃ F' ρ', Same F1 F' ∧ Sr K Z F0 H0 F' ρ' σ H ∧ PO K Z W F0 H0 (forGo n b (xs.drop (j + 1)) ρ') D F', fun σ' H' hH => ⟨m - 1, by omega, hH⟩, fun x H3 y => ?_⟩
    obtain ⟨G3, st3, r3⟩ := yl x H3 y
    rw [List.drop_eq_getElem_cons hlt] at k2
    unfold forGo at k2
    obtain ⟨ρ3, q3, k3⟩ := po_noX k2
    refine hg.run (s2.stp st3) r3 q3 fun σ4 s4 _ _ => hb.run s4 ?_
    have k3 := PO.mono st3.f k3
    cases q : b ρ3 with
    | nx ρ5 => rw [q] at k3; exact fun F' σ' H' e s' => ⟨by omega, F', ρ5, (e2.trans st3.f).trans e, s', PO.mono e k3⟩
    | ct ρ5 => rw [q] at k3; exact fun F' σ' H' e s' => ⟨by omega, F', ρ5, (e2.trans st3.f).trans e, s', PO.mono e k3⟩
    | bk ρ5 => rw [q] at k3; exact k3
    | rt v => rw [q] at k3; cases v <;> exact k3
    | ex c x ρ5 => rw [q] at k3; exact k3
    | bad => rw [q] at k3; exact k3
  · refine .inl ⟨wk.stop F2 H2 j e2 s2.fH (e2.trans s2.fH) (by omega), ?_⟩
    rw [List.drop_eq_nil_of_le (by omega)] at k2
    exact k2 F2 σ2 H2 (.refl _) s2)⟩
theorem ss_while (n : Nat) (hc : ST K Z W tt c) (hb : SS K Z W t b) : SS K Z W (L2.tWhile tt t) (sWhile n c b) := ⟨fun {F0 H0 F ρ σ H D} s h => by
  refine ⟨fun m σ H => ∃ F' ρ', Sr K Z F0 H0 F' ρ' σ H ∧ PO K Z W F0 H0 (whGo c b m ρ') D F', ⟨n, F, ρ, s, h⟩, ?_⟩
  rintro m σ2 H2 ⟨F2, ρ2, s2, k2⟩
  cases m with
  | zero => exact False.elim k2
  | succ m =>
    unfold whGo at k2
    refine hc.run s2 (po_got s2 k2 fun x _ k F3 H3 st => ?_)
    have k := PO.mono st.f k
    cases x with
    | false =>
      exact iteF (k F3 σ2 H3 (.refl _) (s2.stp st))
    | true =>
      rw [if_pos rfl] at k
      refine iteT ?_
      refine ⟨fun σ H => ∃ F' ρ', Sr K Z F0 H0 F' ρ' σ H ∧ PO K Z W F0 H0 (whGo c b m ρ') D F', fun σ' H' hH => ⟨m, Nat.lt_succ_self m, hH⟩, hb.run (s2.stp st) ?_⟩
      cases q : b ρ2 with
      | nx ρ5 => rw [q] at k; exact fun F' σ' H' e s' => ⟨F', ρ5, s', PO.mono e k⟩
      | ct ρ5 => rw [q] at k; exact fun F' σ' H' e s' => ⟨F', ρ5, s', PO.mono e k⟩
      | bk ρ5 => rw [q] at k; exact k
      | rt v => rw [q] at k; cases v <;> exact k
      | ex c x ρ5 => rw [q] at k; exact k
      | bad => rw [q] at k; exact k⟩
/-- raise X('..'), X without a field -/
theorem ss_raise (x : Str) : SS K Z W (fun _ σ H => (fun _ H (Q : XK) => Q (.ref (He.ga K x)) none H) σ H fun cls d H' => W cls d σ H') (sRaise x) := ⟨fun s h => h _ _ _ _ _ (.refl _) s ⟨rfl, rfl⟩⟩
end
/-! ### defs -/
abbrev Z0 : ZZ := ⟨fun _ => True, 0⟩
/-- a def's promise: n data in, what g tells out -/
def spF (K : PySem.W.Frag) (n : Nat) (g : List VD.D → XR B) : Sp := fun vs H Q E => ∃ F ds, Same F H ∧ RepL K F vs ds ∧ ds.length = n ∧ PX K (fun cl dd _ H' => E cl dd H') [] (g ds) (kO K Q) F H
theorem spF_len {K : PySem.W.Frag} {n : Nat} {g : List VD.D → XR B} {vs : List V} {H : Hp} {Q : VK} {E : XK} (h : spF K n g vs H Q E) : vs.length = n := by
  obtain ⟨F, ds, _, r, hl, _⟩ := h
  rw [r.length, hl]
theorem so_call {K : PySem.W.Frag} {W : WX} {n : Nat} {g : List VD.D → XR B} {ta : TA} {a : ExA} (ha : SA K Z W ta a) : SO K Z W (tCallS (spF K n g) (WE W) ta) (oCallN n g a) := ⟨fun s h => ha.run s ((PX.bind h).imp fun xs _ h1 F1 vs H1 t1 r1 => by
  obtain ⟨hl, h1⟩ := px_if h1
  refine ⟨F1, xs, t1.fh, r1, hl, ?_⟩
  have h2 := PX.mono kO_mon t1 h1
  cases q : g xs with
  | ok b => rw [q] at h2; exact h2
  | ex c x => rw [q] at h2; exact h2
  | bad => rw [q] at h2; exact h2)⟩
theorem start_get {N : List Str} {vs : List V} {i : Nat} {v : V} (h : vs[i]? = some v) : (L2.start N vs)[i]? = some (some v) := by
  unfold L2.start
  rw [List.getElem?_append_left (by rw [List.length_map]; exact (List.getElem?_eq_some_iff.mp h).1), List.getElem?_map, h]
  rfl
theorem fn_end {K : PySem.W.Frag} {N : List Str} {n : Nat} {b : Sm} {vs : List V} {H : Hp} {Q : VK} {E : XK} {t : TS} (hn : n ≤ N.length) (hb : SS K Z0 (fun cl dd _ H' => E cl dd H') t b) (h : spF K n (VD.run N.length b) vs H Q E) :
    t { nx := fun _ H' => Q .non H', rt := Q } (L2.start N vs) H := by
  obtain ⟨F, ds, e, r, hl, h⟩ := h
  have hvl : vs.length = n := by rw [r.length, hl]
  have s : Sr K Z0 F H F (begin0 N.length ds) (L2.start N vs) H := by
    have bg : ∀ (i : Nat) x, (begin0 N.length ds)[i]? = some x → x ≠ .nil → ∃ d, x = .d d ∧ ds[i]? = some d := fun i x q ne => by
      unfold begin0 at q
      by_cases hi : i < ds.length
      · rw [List.getElem?_append_left (by simpa using hi), List.getElem?_map] at q
        obtain ⟨d, h1, h2⟩ := Option.map_eq_some_iff.mp q
        exact ⟨d, h2.symm, h1⟩
      · rw [List.getElem?_append_right (by simpa using hi), List.getElem?_replicate] at q
        split at q
        · cases q; exact absurd rfl ne
        · cases q
    refine ⟨fun _ _ _ _ => trivial, trivial, fun i q => ?_, .refl _, .refl _, e, fun _ _ q => q, ?_, fun i d q => ?_, fun i d q => ?_, fun i j d e _ q _ => ?_⟩
    · obtain ⟨d', h1, _⟩ := bg i _ q (fun z => by cases z)
      cases h1
    · unfold L2.start begin0
      simp only [List.length_append, List.length_map, List.length_replicate]
      omega
    · obtain ⟨d', h1, h2⟩ := bg i _ q (fun z => by cases z)
      cases h1
      obtain ⟨v, h3, h4⟩ := r.get i h2
      exact ⟨v, start_get h3, h4⟩
    · obtain ⟨d', h1, h2⟩ := bg i _ q (fun z => by cases z)
      cases h1
    · obtain ⟨d', h1, h2⟩ := bg i _ q (fun z => by cases z)
      cases h1
  have stp : ∀ {F' H'}, Fin F H F' H' → Stp F H F' H' := fun {F' H'} f => ⟨f.sF, f.s0, f.fH, f.fr⟩
  refine hb.run s ?_
  unfold VD.run at h
  cases q : b (begin0 N.length ds) with
  | nx ρ' => rw [q] at h; exact fun F' σ' H' _ s' => h F' .non H' (stp s'.fin) .non
  | rt v =>
    rw [q] at h
    cases v with
    | nil => exact h
    | exo => exact h
    | d d => exact fun F' v H' _ f r => h F' v H' (stp f) r
    | own d => exact fun F' p H' _ f n0 nf c => h F' p H' (stp f) n0 nf c
  | ex c x ρ' => rw [q] at h; exact fun F' σ' H' cl dd _ s' r => h F' H' cl dd (stp s'.fin) r
  | bk ρ' => rw [q] at h; exact False.elim h
  | ct ρ' => rw [q] at h; exact False.elim h
  | bad => rw [q] at h; exact False.elim h
section
variable {P : Program} {w : World} {K : PySem.W.Frag} {mg : Str → Option Value} {base : Heap} {x qual : Str} {params : Arguments} {body : List Stmt} {scope : Scope} {f : Addr} {fd : FuncData}
/-- THE RULE for a def: T its derivation, M what it computes -/
theorem ok_def {N ps : List Str} {k n : Nat} {b : Sm} (F : FunD K x qual params body scope [] [] f fd) (S : FnScope N ps scope) (hn : ps.length = n)
    (hbody : ∀ (cdv : Value) (A : Around) (outer : List PySem.Env) (s : Shared) (H : Hp) (E : XK), Room k (A.deeper (PyProof.Rows.envOfC qual scope s.heap.objs.size f cdv)) →
      ∃ t, PSs (cxOf (L2.CX P w) P w K mg base N qual scope f cdv A outer s H E) body t ∧ SS K Z0 (fun cl dd _ H' => E cl dd H') t b) :
    FnOk P w K mg base (L2.CX P w) (k + 1) f fd ps (spF K n (VD.run N.length b)) := by
  have hl : n ≤ N.length := by
    have := congrArg List.length S.pre
    rw [List.length_take] at this
    omega
  refine F.ok S (fun vs H Q E h => by rw [spF_len h, hn]) fun cdv A outer s H vs Q E hr h => ?_
  obtain ⟨t, h1, h2⟩ := hbody cdv A outer s H E hr
  exact ⟨t, h1, fn_end hl h2 h⟩
end
/-! ### isinstance -/
def tyN : Ty → String
  | .int => "int"
  | .bool => "bool"
  | .str => "str"
  | .list => "list"
  | .tuple => "tuple"
  | .dict => "dict"
section
variable {K : PySem.W.Frag} {Z : ZZ} {F H : Hp}
/-- the type of what stands for data -/
def tyD : VD.D → Option String
  | .non => some "NoneType"
  | .bl _ => some "bool"
  | .int _ => some "int"
  | .str _ => some "str"
  | .lst _ => some "list"
  | .tup _ => some "tuple"
  | .dic _ _ => some "dict"
  | .dit _ _ => some "dict"
  | _ => none
theorem tyX_of (e : Same F H) {x : V} {d : VD.D} (rx : RepB K F H x d) {s : String} (h : tyD d = some s) : TyX K H x (.type s) := by
  cases d with
  | non => cases rx.non; cases h; exact .base .non
  | bl b => cases rx.bl; cases h; exact .base (.bl b)
  | int b => cases rx.int; cases h; exact .base (.int b)
  | str b => cases rx.str; cases h; exact .base (.str b)
  | lst ds => obtain ⟨p, vs, rfl, hp, _⟩ := rx.lst e; cases h; exact .base (.lst hp)
  | tup ds => obtain ⟨p, vs, rfl, hp, _⟩ := rx.tup e; cases h; exact .base (.tup hp)
  | dic _ ds => obtain ⟨p, vs, rfl, hp, _⟩ := rx.dic e; cases h; exact .base (.dK hp)
  | dit _ ds => obtain ⟨p, vs, rfl, hp, _⟩ := rx.dit e; cases h; exact .base (.dT hp)
  | obj _ _ ds => cases h
  | scr ds => cases h
theorem isTy_ok {d : VD.D} {t : Ty} {b : Bool} (h : isTy d t = some b) : ∃ s, tyD d = some s ∧ kitB s (tyN t) = some b := by
  cases d <;> cases t <;> cases h <;> exact ⟨_, rfl, by decide +kernel⟩
theorem s_isi (t : Ty) {W : WX} {ta : TE} {f : Ex} (ha : SB K Z W ta f) : SO K Z W (tCB (rIsi K) (tCons ta (tCons (tC (.ty (tyN t))) tNil))) (oUn (opIsi t) f) := ⟨fun s h => ha.run s ((PX.bind h).imp fun x _ h1 F1 v1 H1 t1 r1 => by
  unfold opIsi at h1
  cases q : isTy x t with
  | none => rw [q] at h1; exact False.elim h1
  | some b =>
    rw [q] at h1
    obtain ⟨z, h2, h3⟩ := isTy_ok q
    exact ⟨v1, _, _, _, b, rfl, .ty _, tyX_of t1.fh r1 h2, kit_ty h3, kO.bl t1.fh (kO_mon _ _ _ _ _ t1 h1)⟩)⟩
end
/-! ### try -/
section
variable {K : PySem.W.Frag} {Z : ZZ} {W : WX}
/-- within a suite: the exception is of the own class c, with the field x -/
abbrev Zx (K : PySem.W.Frag) (a : Addr) (cls : Value) (d : Option Addr) (c : Str) (x : Option (Str × VD.D)) : ZZ := ⟨fun F => XRep K F cls d c x, a⟩
/-- what the clause tells of own exceptions is right -/
def HX (K : PySem.W.Frag) (cv : Value) (ts : Addr → Value → Option Addr → TS) (h : Str → Option (Str × VD.D) → Option (Option Sm)) : Prop :=
  ∀ c x, match h c x with
    | none => True
    | some none => PySem.W.exmOne K (.ref (He.ga K c)) cv = some false
    | some (some g) => PySem.W.exmOne K (.ref (He.ga K c)) cv = some true ∧ ∀ a cls d, SS K (Zx K a cls d c x) W0 (ts a cls d) g
theorem ss_try {cv : Value} {i : Nat} {tb : WX → TS} {ts : Addr → Value → Option Addr → TS} {b : Sm} {h : Str → Option (Str × VD.D) → Option (Option Sm)} (hb : ∀ W', SS K Z W' (tb W') b) (hx : HX K cv ts h) :
    SS K Z W (fun D σ H => tb (wAs K cv i ts W D) D σ H) (sTry i b h) := ⟨fun {F0 H0 F ρ σ H D} s k => (hb _).run s (by
  unfold sTry at k
  cases q : b ρ with
  | nx ρ5 => rw [q] at k; exact k
  | ct ρ5 => rw [q] at k; exact k
  | bk ρ5 => rw [q] at k; exact k
  | rt v => rw [q] at k; cases v <;> exact k
  | bad => rw [q] at k; exact k
  | ex c x ρ1 =>
    rw [q] at k
    intro F' σ' H' cl dd e s' xr
    have hh := hx c x
    have ecl : cl = .ref (He.ga K c) := xr.1
    cases hq : h c x with
    | none => simp only [hq] at k; exact False.elim k
    | some o =>
      rw [hq] at hh
      cases o with
      | none =>
        simp only [hq] at k
        subst ecl
        exact ⟨false, hh, (fun z => Bool.noConfusion z), fun _ => k F' σ' H' _ dd e s' xr⟩
      | some g =>
        simp only [hq] at k
        subst ecl
        obtain ⟨h1, h2⟩ := hh
        refine ⟨true, h1, fun _ a _ => ?_, fun z => Bool.noConfusion z⟩
        have sx : Sr K (Zx K a (.ref (He.ga K c)) dd c x) F0 H0 F' (clr ρ1) σ' H' := Sr.turn (Z := Zx K a (.ref (He.ga K c)) dd c x) (ρ := clr ρ1) (σ := σ') (F := F') (H := H') ⟨fun _ _ e z => XRep.mono e z, xr, fun i h => absurd rfl (clr_get h).1, (Sr.turn s' s' s'.im s'.iv).s0, s'.sF, s'.fH, s'.fr, (Sr.turn s' s' s'.im s'.iv).len, (Sr.turn s' s' s'.im s'.iv).val, (Sr.turn s' s' s'.im s'.iv).own, (Sr.turn s' s' s'.im s'.iv).sep⟩ s' (fun _ _ e z => XRep.mono e z) xr
        refine (h2 a _ dd).run (sx.hold i fun j h => absurd rfl (clr_get h).1) ?_
        have k := PO.mono e k
        have back : ∀ {F2 : Hp} {ρ2 : VD.Env} {σ2 : L2.St} {H2 : Hp}, Same F' F2 → Sr K (Zx K a (.ref (He.ga K c)) dd c x) F0 H0 F2 ρ2 σ2 H2 → Sr K Z F0 H0 F2 (clr (ρ2.set i .nil)) (σ2.set i none) H2 := fun e2 s2 => Sr.turn s' (s2.gone i none) s'.im (s'.im _ _ e2 s'.iv)
        cases qs : g ((clr ρ1).set i .exo) with
        | nx ρ5 => rw [qs] at k; exact fun F2 σ2 H2 e2 s2 => k F2 _ H2 e2 (back e2 s2)
        | ct ρ5 => rw [qs] at k; exact fun F2 σ2 H2 e2 s2 => k F2 _ H2 e2 (back e2 s2)
        | bk ρ5 => rw [qs] at k; exact fun F2 σ2 H2 e2 s2 => k F2 _ H2 e2 (back e2 s2)
        | rt v => rw [qs] at k; cases v <;> exact k
        | bad => rw [qs] at k; exact k
        | ex c x ρ1 => rw [qs] at k; exact False.elim k)⟩
end
end VS

set_option Elab.async false
set_option linter.all false
set_option maxRecDepth 100000
set_option maxHeartbeats 4000000
namespace VS
open PySem PySem.Spec L2 VD
/-! ### a def that keeps its promise, with what a caller asks -/
structure Gd (P : Program) (w : World) (K : PySem.W.Frag) (mg : Str → Option Value) (base : Heap) (k : Nat) (x : Str) (ps : List Str) (g : List VD.D → XR B) : Prop where
  ex : ∃ fd, (∃ oc od osl, K.lookup (He.ga K x) = some ⟨oc, od, .func fd, osl⟩) ∧ FnOk P w K mg base (L2.CX P w) k (He.ga K x) fd ps (spF K ps.length g) ∧ Binds K fd ps []
  gm : mg x = some (.ref (He.ga K x))
  kp : PySem.W.keepIn K (.ref (He.ga K x)) = true
/-- a global def as the head tells it -/
structure Df (K : PySem.W.Frag) (mg : Str → Option Value) (x : Str) (st : Stmt) : Prop where
  ex : ∃ fd, FunD K x x (defArgs st) (defBody st) (defScope st) [] [] (He.ga K x) fd
  gm : mg x = some (.ref (He.ga K x))
theorem bindsD {K : PySem.W.Frag} {x qual : Str} {params : Arguments} {body : List Stmt} {scope : Scope} {f : Addr} {fd : FuncData} {ps : List Str} (F : FunD K x qual params body scope [] [] f fd)
    (h : ∀ (dV kV doc pm : Value) (an : Option Addr) (cdv ct : Value) (us : List Value), us.length = ps.length → bindArgs (PySem.W.fnOf x qual params body scope .none kV doc pm an cdv ct) ⟨us, []⟩ = pure (ps.zip us)) : Binds K fd ps [] := by
  obtain ⟨oc, od, dV, kV, doc, pm, an, cdv, ct, osl, rfl, lk, hcd, hD, hK⟩ := F.ex
  rcases hD with ⟨_, rfl⟩ | ⟨z, _⟩
  · exact .all (h .none kV doc pm an cdv ct)
  · exact absurd rfl z
theorem fd_at {K : PySem.W.Frag} {x qual : Str} {params : Arguments} {body : List Stmt} {scope : Scope} {f : Addr} {fd : FuncData} (F : FunD K x qual params body scope [] [] f fd) : ∃ oc od osl, K.lookup f = some ⟨oc, od, .func fd, osl⟩ := by
  obtain ⟨oc, od, dV, kV, doc, pm, an, cdv, ct, osl, rfl, lk, _⟩ := F.ex
  exact ⟨_, _, _, lk⟩
theorem fd_same {K : PySem.W.Frag} {f : Addr} {fd fd2 : FuncData} (h : ∃ oc od osl, K.lookup f = some ⟨oc, od, .func fd, osl⟩) (g : ∃ oc od osl, K.lookup f = some ⟨oc, od, .func fd2, osl⟩) : fd2 = fd := by
  obtain ⟨_, _, _, h⟩ := h
  obtain ⟨_, _, _, g⟩ := g
  rw [h] at g
  cases g
  rfl
section
variable {P : Program} {w : World} {K : PySem.W.Frag} {mg : Str → Option Value} {base : Heap} {x : Str} {st : Stmt}
theorem gd_mk {N ps : List Str} {k : Nat} {b : Sm} (T : Df K mg x st) (S : FnScope N ps (defScope st))
    (hb : ∀ (dV kV doc pm : Value) (an : Option Addr) (cdv ct : Value) (us : List Value), us.length = ps.length → bindArgs (PySem.W.fnOf x x (defArgs st) (defBody st) (defScope st) .none kV doc pm an cdv ct) ⟨us, []⟩ = pure (ps.zip us))
    (hbody : ∀ (cdv : Value) (A : Around) (outer : List PySem.Env) (s : Shared) (H : Hp) (E : XK), Room k (A.deeper (PyProof.Rows.envOfC x (defScope st) s.heap.objs.size (He.ga K x) cdv)) →
      ∃ t, PSs (cxOf (L2.CX P w) P w K mg base N x (defScope st) (He.ga K x) cdv A outer s H E) (defBody st) t ∧ SS K Z0 (fun cl dd _ H' => E cl dd H') t b) :
    Gd P w K mg base (k + 1) x ps (VD.run N.length b) := by
  obtain ⟨fd, F⟩ := T.ex
  exact ⟨⟨fd, fd_at F, ok_def F S rfl hbody, bindsD F hb⟩, T.gm, F.kp⟩
end
/-- a def that lets nothing out, as one of which nothing is let out -/
theorem fn_shut {P : Program} {w : World} {K : PySem.W.Frag} {mg : Str → Option Value} {base : Heap} {k : Nat} {f : Addr} {fd : FuncData} {ps : List Str} {sp : Sp} (F : FnOk P w K mg base (L2.CX P w) k f fd ps sp) :
    FnOk P w K mg base CX0 k f fd ps (fun vs H Q _ => sp vs H Q fun _ _ _ => False) := by
  refine ⟨fun vs H Q E h => F.len vs H Q _ h, fun A outer s H args us vs Q E hr he hb hv hs => ?_⟩
  refine codeAny_mono (F.run A outer s H args us vs Q _ hr he hb hv hs) fun r s' hq => ?_
  cases r with
  | ok fl => cases fl <;> exact hq
  | error e =>
    obtain ⟨_, _, _, _, _, _, _, _, _, _, _, _, z⟩ := hq
    exact z.elim
/-! ### isinstance of a caught exception -/
def rIsX (K : PySem.W.Frag) (a : Addr) (cls : Value) (d : Option Addr) : List V → Hp → VK → Prop := fun xs H Q => ∃ (D : Addr) (c : V) (cv : Value) (b : Bool), cls = .ref D ∧ d = none ∧ ExcC K D ∧ xs = [.ref a, c] ∧ (∀ u, RelV c u → u = cv) ∧ PySem.W.kitOne K (.ref D) cv = some b ∧ Q (.bl b) H
theorem call_isX {X : Cx} {a : Addr} {cls : Value} {d : Option Addr} {oe : Obj} {pn : List (Addr × Obj)} (hz : Zc cls d oe) (hf : ∃ vs, oe.data = .fields vs) : CallR (X.suite a ((a, oe) :: pn)) (.builtin "isinstance") (rIsX X.K a cls d) := by
  intro pins s σ H xs us Q I r h
  obtain ⟨D, c, cv, b, rfl, rfl, C, e, h1, h2, q⟩ := h
  exact call_isE C hz hf pins s σ H xs us Q I r ⟨c, cv, b, e, h1, h2, q⟩
section
variable {K : PySem.W.Frag} {W : WX} {c : Str} {x : Option (Str × VD.D)} {a : Addr} {cls : Value} {d : Option Addr}
/-- isinstance(e, y): e the exception of the own class c that is held, without a field -/
theorem so_isX {i : Nat} {y : Str} {b : Bool} (C : ExcC K (He.ga K c)) (hk : PySem.W.kitOne K (.ref (He.ga K c)) (.ref (He.ga K y)) = some b) :
    SO K (Zx K a cls d c none) W (tCB (rIsX K a cls d) (tCons (tVar i) (tCons (tC (.ref (He.ga K y))) tNil))) (oIsX i b) := ⟨fun {F0 H0 F ρ σ H Q} s h => by
  unfold oIsX at h
  cases e : ρ[i]? with
  | none => rw [e] at h; exact False.elim h
  | some z =>
    rw [e] at h
    cases z with
    | exo => exact ⟨_, s.exo i e, He.ga K c, _, _, b, s.iv.1, s.iv.2, C, rfl, fun u r => r, hk, kO.bl s.fH h⟩
    | _ => exact False.elim h⟩
end
/-! ### the head's facts -/
abbrev AlE : Type := He.AlD × Bool
def allK (ex : List (PySem.W.Frag → Bool)) (K : PySem.W.Frag) : Bool := ex.all fun f => f K
def obsE (n : Nat) (fn : List He.DefD) (ex : List (PySem.W.Frag → Bool)) (g : Addr → Option Obj) : AlE := (He.obsD [] fn (He.frG g (He.asD g n)), allK ex (He.frG g (He.asD g n)))
def valE (fn : List He.DefD) : AlE := (He.valD fn, true)
def hookE (n : Nat) (fn : List He.DefD) (ex : List (PySem.W.Frag → Bool)) : PySem.W.Hook where
  α := AlE
  obs := fun s => obsE n fn ex s.heap.get?
  val := fun _ => valE fn
  says := fun _ h => ∃ K : PySem.W.Frag, K.In h ∧ He.SaysD [] fn K ∧ allK ex K = true
  of := fun _ _ e => ⟨_, He.frG_in, congrArg (fun z : AlE => z.1) e, congrArg (fun z : AlE => z.2) e⟩
  keeps := fun _ _ _ ⟨K, hK, c, d⟩ k => ⟨K, PySem.W.Frag.In.keeps hK k, c, d⟩
theorem obsE_eq {n : Nat} {fn : List He.DefD} {ex : List (PySem.W.Frag → Bool)} {g : Addr → Option Obj} {s : Shared} (h : ∀ a, g a = s.heap.get? a) : obsE n fn ex g = (hookE n fn ex).obs s := by
  have e : g = s.heap.get? := funext h
  rw [e] <;> rfl
theorem allK_at {ex : List (PySem.W.Frag → Bool)} {K : PySem.W.Frag} (h : allK ex K = true) (i : Nat) {f : PySem.W.Frag → Bool} (e : ex[i]? = some f := by rfl) : f K = true := List.all_eq_true.mp h f (List.mem_of_getElem? e)
/-! the facts, as Bools of the written part -/
def fGlo (x : Str) (K : PySem.W.Frag) : Bool := (He.Fa.glo x).ok K
def fFree (x : Str) (K : PySem.W.Frag) : Bool := (He.Fa.free x).ok K
def fInt (x : Str) (i : Int) (K : PySem.W.Frag) : Bool := (He.Fa.int x i).ok K
def fStr (x z : Str) (K : PySem.W.Frag) : Bool := (He.Fa.str x z).ok K
def fExm (x y : Str) (b : Bool) (K : PySem.W.Frag) : Bool := (He.Fa.exm x y b).ok K
def fKit (x y : Str) (b : Bool) (K : PySem.W.Frag) : Bool := decide (PySem.W.kitOne K (.ref (He.ga K x)) (.ref (He.ga K y)) = some b)
def fExcC (x : Str) (K : PySem.W.Frag) : Bool := decide (PySem.W.findIn K (.ref (He.ga K x)) "__getattribute__" = some (some (.builtin "BaseException.__getattribute__"))) && (decide (PySem.W.findIn K (.ref (He.ga K x)) "__getattr__" = some none) && (decide (PySem.W.subIn K (.ref (He.ga K x)) (.type "BaseException") = some true) &&
  (PySem.W.hasDictIn K (He.ga K x) && (decide (PySem.W.findIn K (.ref (He.ga K x)) "__class__" = some (some (.builtin "object.__class__"))) && (decide (PySem.W.specialIn K (.builtin "object.__class__") "__get__" = some (some (.builtin "getset_descriptor.__get__"))) &&
  (decide (PySem.W.takesIn K (.builtin "object.__class__") = some true) && decide (PySem.W.mroIn K (He.ga K x) (.type "object") = some true)))))))
theorem fExcC_ok {x : Str} {K : PySem.W.Frag} (h : fExcC x K = true) : ExcC K (He.ga K x) := by
  unfold fExcC at h
  simp only [Bool.and_eq_true, decide_eq_true_eq] at h
  obtain ⟨h1, h2, h3, h4, h5, h6, h7, h8⟩ := h
  exact ⟨h1, h2, h3, h4, h5, h6, h7, h8⟩
/-- an own exception without a field: what its making asks -/
structure Ex0 (K : PySem.W.Frag) (mg : Str → Option Value) (x : Str) : Prop where
  g : mg x = some (.ref (He.ga K x))
  q : PySem.W.excIn K (He.ga K x) He.veBase "ValueError.__new__" = true
  kp : PySem.W.keepIn K (.ref (He.ga K x)) = true
  s : PySem.W.subIn K (.ref (He.ga K x)) (.type "BaseException") = some true
  t : PySem.W.typeIn K (.ref (He.ga K x)) = some (.type "type")
def fExc (x : Str) (K : PySem.W.Frag) : Bool := (He.Fa.exc x).ok K
theorem ex0_mk {K : PySem.W.Frag} {mg : Str → Option Value} {x : Str} (g : mg x = some (.ref (He.ga K x))) (h : fExc x K = true) : Ex0 K mg x := by
  obtain ⟨h1, h2, h3, h4⟩ := He.exc_ok h
  exact ⟨g, h1, h2, h3, h4⟩
theorem fKit_ok {x y : Str} {b : Bool} {K : PySem.W.Frag} (h : fKit x y b K = true) : PySem.W.kitOne K (.ref (He.ga K x)) (.ref (He.ga K y)) = some b := of_decide_eq_true h
theorem fExm_ok {x y : Str} {b : Bool} {K : PySem.W.Frag} (h : fExm x y b K = true) : PySem.W.exmOne K (.ref (He.ga K x)) (.ref (He.ga K y)) = some b := He.exm_ok h
/-! built-ins by name -/
theorem boot_len' : bootBuiltins "len" = some (.builtin "len") := by decide +kernel
theorem boot_all' : bootBuiltins "all" = some (.builtin "all") := by decide +kernel
theorem boot_any' : bootBuiltins "any" = some (.builtin "any") := by decide +kernel
theorem boot_sum' : bootBuiltins "sum" = some (.builtin "sum") := by decide +kernel
theorem boot_sorted' : bootBuiltins "sorted" = some (.builtin "sorted") := by decide +kernel
theorem boot_isinstance' : bootBuiltins "isinstance" = some (.builtin "isinstance") := by decide +kernel
theorem boot_int' : bootBuiltins "int" = some (.type "int") := by decide +kernel
theorem boot_str' : bootBuiltins "str" = some (.type "str") := by decide +kernel
theorem boot_bool' : bootBuiltins "bool" = some (.type "bool") := by decide +kernel
theorem boot_list' : bootBuiltins "list" = some (.type "list") := by decide +kernel
theorem boot_tuple' : bootBuiltins "tuple" = some (.type "tuple") := by decide +kernel
theorem boot_dict' : bootBuiltins "dict" = some (.type "dict") := by decide +kernel
end VS

set_option Elab.async false
set_option linter.all false
set_option maxRecDepth 100000
set_option maxHeartbeats 4000000
namespace VS
open PySem PySem.Spec L2 VD
/-! ### rules with the written part said (within a comprehension's block it must not be read off the block) -/
section
variable {X : Cx} {tg l e : Expr} {tl te : TE} {pos : Pos}
theorem pi_listK (K : PySem.W.Frag) (hl : PE X l tl) (hK : X.K = K := by rfl) : PI X tg l (L2.iList K tl) := by
  subst hK; exact pi_list hl
theorem pi_tupK (K : PySem.W.Frag) (hl : PE X l tl) (hK : X.K = K := by rfl) : PI X tg l (L2.iTup K tl) := by
  subst hK; exact pi_tup hl
theorem pg_tupK (K : PySem.W.Frag) {es : List Expr} {k : Nat} {t : TGs} {n : Nat} (hc : X.calm = true) (h : PGs X es t)
    (hn : (assignEach es X.env).length = n := by rfl) (hst : (assignEach es X.env).findIdx? (·.1) = none := by rfl) (hK : X.K = K := by rfl) : PG X (.Tuple es k pos) (L2.gTup K n t) := by
  subst hK; exact pg_tup hc h hn hst
theorem pe_sliceK (K : PySem.W.Frag) {lo hi : Option Expr} {t1 t2 : TO} {p2 : Pos} (he : PE X e te) (hl : L2.PO X lo t1) (hu : L2.PO X hi t2) (hK : X.K = K := by rfl) : PE X (.Subscript e (.Slice lo hi none p2) pos) (tSl (rSlL K) te t1 t2) := by
  subst hK; exact pe_slice sl_list he hl hu
theorem pe_revLK (K : PySem.W.Frag) {k : Nat} {p1 p2 p3 : Pos} (he : PE X e te) (hK : X.K = K := by rfl) : PE X (.Subscript e (.Slice none none (some (.UnaryOp .USub (.Constant (.int 1) k p1) p2)) p3) pos) (tRevL K te) := by
  subst hK; exact pe_revL he
theorem pe_ixK (K : PySem.W.Frag) {b : Expr} {tb : TE} (ha : PE X e te) (hb : PE X b tb) (hs : PlainIx b) (hK : X.K = K := by rfl) : PE X (.Subscript e b pos) (tOp (rIx K) te tb) := by
  subst hK; exact pe_ix ix_seq ha hb hs
theorem pe_bmK (K : PySem.W.Frag) {o : Expr} {es : List Expr} {to : TE} {t : TA} {name : Str} {apos cpos : Pos} {T id : String} {r : V → List V → Hp → VK → Prop} (pa : PlainAttrs T) (slot : Slot T name id) (hty : typeOf (.builtin id) = pure (.type "method_descriptor")) (hm : MtR X id r) (ho : PE X o to) (ha : PA X (e :: es) t) (hK : X.K = K := by rfl)
    (hbase : attributeBase o name X.env (eval o X.env) = eval o X.env := by rfl)
    (hfew : ((backTo cpos (starEach (e :: es) X.env)).all (fun x => !x.1) && (backToKw cpos (keywordEach [] X.env)).all (fun x => x.1.isSome)
      && decide ((e :: es).length + ([] : List Keyword).length + (if ([] : List Keyword).isEmpty then 0 else 1) < 30)) = true := by rfl)
    (hline : (apos.endLine == cpos.line) = true := by rfl) (hs : starEach (e :: es) X.env = (false, eval e X.env) :: starEach es X.env := by rfl) (hplain : (backTo cpos (starEach es X.env)).any (·.1) = false := by rfl) :
    PE X (.Call (.Attribute o name apos) (e :: es) [] cpos) (tBM K T r to t) := by
  subst hK; exact pe_bm pa slot hty hm ho ha hbase hfew hline hs hplain
theorem pi_zipK (K : PySem.W.Frag) {e2 : Expr} {ta : TA} {p tpos : Pos} {elts : List Expr} {kk : Nat} (hg : Gl X "zip") (hm : X.mg "zip" = none) (ha : PA X [e, e2] ta) (hK : X.K = K := by rfl)
    (hs : starEach [e, e2] X.env = (false, eval e X.env) :: starEach [e2] X.env := by rfl) (hpl : (backTo pos (starEach [e2] X.env)).any (·.1) = false := by rfl) : PI X (.Tuple elts kk tpos) (.Call (.Name "zip" p) [e, e2] [] pos) (L2.iZip K ta) := by
  subst hK
  exact pi_zip hg hm ha hs hpl
theorem pi_enumK (K : PySem.W.Frag) {ta : TA} {p tpos : Pos} {elts : List Expr} {kk : Nat} (hg : Gl X "enumerate") (hm : X.mg "enumerate" = none) (ha : PA X [e] ta) (hK : X.K = K := by rfl)
    (hs : starEach [e] X.env = [(false, eval e X.env)] := by rfl) : PI X (.Tuple elts kk tpos) (.Call (.Name "enumerate" p) [e] [] pos) (L2.iEnum K ta) := by
  subst hK; exact pi_enum hg hm ha hs
end
end VS

set_option Elab.async false
set_option linter.all false
set_option maxRecDepth 100000
namespace G
open PySem VD
abbrev FUEL : Nat := 1000000
def E_has_name_signs_1 : Ex := (eOr (eFz (oOp opIn (eLook 1) (eC (.str (Str.ofString "abcdefghijklmnopqrstuvwxyz"))))) (eFz (oOp opIn (eLook 1) (eC (.str (Str.ofString "0123456789"))))))
def C_has_name_signs_1 : ExO := (oLc (wStr (eLook 0)) (nName 1) bYes E_has_name_signs_1 [1])
def b_has_name_signs : Sm := (sSeq (sIf (bOf (oOp opNotIn (eFz (oOp opIx (eLook 0) (eC (.int 0)))) (eC (.str (Str.ofString "abcdefghijklmnopqrstuvwxyz"))))) (sRet (oE (eC (.bl false)))) sNext)
  (sRet (oCall cAll (aCons (eFz C_has_name_signs_1) aNil))))
def m_has_name_signs : List D → XR B := run 2 b_has_name_signs
def b_is_name : Sm := (sSeq (sIf (bNot (bOf (oUn (opIsi .str) (eLook 0)))) (sRet (oE (eC (.bl false)))) sNext)
  (sSeq (sIf (bNot (bOf (oChain opLe opLe (eC (.int 1)) (eFz (oCall cLen (aCons (eLook 0) aNil))) (eC (.int (12)))))) (sRet (oE (eC (.bl false)))) sNext)
  (sRet (oCallN 1 m_has_name_signs (aCons (eVar 0) aNil)))))
def m_is_name : List D → XR B := run 1 b_is_name
def E_is_ascending_1 : Ex := (eFz (oOp opLt (eLook 1) (eLook 2)))
def C_is_ascending_1 : ExO := (oLc (wZip (aCons (eLook 0) (aCons (eFz (oSl (eLook 0) (pSome (eC (.int 1))) pNone)) aNil))) (nTup 2 (nCons (nName 1) (nCons (nName 2) nNil))) bYes E_is_ascending_1 [1, 2])
def b_is_ascending : Sm := (sRet (oCall cAll (aCons (eFz C_is_ascending_1) aNil)))
def m_is_ascending : List D → XR B := run 3 b_is_ascending
def E_are_names_1 : Ex := (eFz (oCallN 1 m_is_name (aCons (eVar 1) aNil)))
def C_are_names_1 : ExO := (oLc (wList (eLook 0)) (nName 1) bYes E_are_names_1 [1])
def b_are_names : Sm := (sSeq (sIf (bOr (bNot (bOf (oUn (opIsi .list) (eLook 0)))) (bNot (bOf (oCall cAll (aCons (eFz C_are_names_1) aNil))))) (sRet (oE (eC (.bl false)))) sNext)
  (sRet (oCallN 1 m_is_ascending (aCons (eVar 0) aNil))))
def m_are_names : List D → XR B := run 2 b_are_names
def b_are_places : Sm := (sRet (oE (eAnd (eFz (oCallN 1 m_are_names (aCons (eVar 0) aNil))) (eFz (oChain opLe opLe (eC (.int 1)) (eFz (oCall cLen (aCons (eLook 0) aNil))) (eC (.int (40))))))))
def m_are_places : List D → XR B := run 1 b_are_places
def b_check_places : Sm := (sIf (bOr (bNot (bOf (oCallN 1 m_are_places (aCons (eVar 0) aNil)))) (bOf (oOp opLt (eFz (oCall cLen (aCons (eLook 0) aNil))) (eC (.int (2)))))) (sRaise "BadRow") sNext)
def m_check_places : List D → XR B := run 1 b_check_places
def E_is_row_1 : Ex := (eAnd (eFz (oUn (opIsi .str) (eLook 2))) (eFz (oOp opIn (eLook 2) (eLook 0))))
def C_is_row_1 : ExO := (oLc (wList (eLook 1)) (nName 2) bYes E_is_row_1 [2])
def b_is_row : Sm := (sSeq (sIf (bOr (bNot (bOf (oUn (opIsi .list) (eLook 1)))) (bOf (oOp opNe (eFz (oCall cLen (aCons (eLook 1) aNil))) (eFz (oOp opSub (eFz (oCall cLen (aCons (eLook 0) aNil))) (eC (.int (2)))))))) (sRet (oE (eC (.bl false)))) sNext)
  (sRet (oCall cAll (aCons (eFz C_is_row_1) aNil))))
def m_is_row : List D → XR B := run 3 b_is_row
def b_check_row : Sm := (sSeq (sDrop (eFz (oCallN 1 m_check_places (aCons (eVar 0) aNil))))
  (sIf (bNot (bOf (oCallN 2 m_is_row (aCons (eVar 0) (aCons (eVar 1) aNil))))) (sRaise "BadRow") sNext))
def m_check_row : List D → XR B := run 2 b_check_row
def K_power_1 : Sm := (sSet 2 (oOp opMul (eLook 2) (eLook 0)))
def L_power_1 : Sm := (sFor (wRange1 (eLook 1)) (nName 3) K_power_1)
def b_power : Sm := (sSeq (sSet 2 (oE (eC (.int 1))))
  (sSeq L_power_1
  (sRetV 2)))
def m_power : List D → XR B := run 4 b_power
def b_how_many : Sm := (sRet (oCallN 2 m_power (aCons (eVar 0) (aCons (eFz (oOp opSub (eLook 0) (eC (.int (2))))) aNil))))
def m_how_many : List D → XR B := run 1 b_how_many
def K_row_at_1 : Sm := (sSeq (sApp 3 (eFz (oOp opIx (eLook 0) (eFz (oOp opMod (eLook 4) (eLook 2))))))
  (sSet 4 (oOp opDiv (eLook 4) (eLook 2))))
def L_row_at_1 : Sm := (sFor (wRange1 (eFz (oOp opSub (eLook 2) (eC (.int (2)))))) (nName 5) K_row_at_1)
def b_row_at : Sm := (sSeq (sDrop (eFz (oCallN 1 m_check_places (aCons (eVar 0) aNil))))
  (sSeq (sSet 2 (oCall cLen (aCons (eLook 0) aNil)))
  (sSeq (sFz 2 (sIf (bNot (bOf (oChain opLe opLt (eC (.int 0)) (eLook 1) (eFz (oCallN 1 m_how_many (aCons (eVar 2) aNil)))))) (sRet (oE (eC .non))) sNext))
  (sSeq (sSet 3 (oLst aNil))
  (sSeq (sSet 4 (oE (eVar 1)))
  (sSeq L_row_at_1
  (sSeq (sRev 3)
  (sRetV 3))))))))
def m_row_at : List D → XR B := run 6 b_row_at
def K_number_of_1 : Sm := (sSet 2 (oOp opAdd (eFz (oOp opMul (eLook 2) (eFz (oCall cLen (aCons (eLook 0) aNil))))) (eFz (oMethL mIndex (eLook 0) (aCons (eLook 3) aNil)))))
def L_number_of_1 : Sm := (sFor (wList (eVar 1)) (nName 3) K_number_of_1)
def b_number_of : Sm := (sSeq (sDrop (eFz (oCallN 2 m_check_row (aCons (eVar 0) (aCons (eVar 1) aNil)))))
  (sSeq (sSet 2 (oE (eC (.int 0))))
  (sSeq L_number_of_1
  (sRetV 2))))
def m_number_of : List D → XR B := run 4 b_number_of
def K__law_numbers_1 : Sm := (sIf (bOf (oOp opGe (eLook 3) (eFz (oOp opPow (eC (.int 10)) (eC (.int 18)))))) (sSeq (sApp 4 (eFz (oOp opMod (eLook 3) (eC (.int 1009)))))
  (sSet 3 (oOp opDiv (eLook 3) (eC (.int 1009))))) (sSeq (sSet 6 (oOp opMod (eFz (oOp opAdd (eFz (oOp opAdd (eFz (oOp opMul (eLook 3) (eC (.int 48271)))) (eFz (oOp opMul (eFz (oOp opAdd (eLook 5) (eC (.int 1)))) (eC (.int 69621)))))) (eFz (oOp opMul (eLook 1) (eC (.int 4001)))))) (eC (.int 2147483647))))
  (sSeq (sSet 6 (oOp opMod (eFz (oOp opAdd (eFz (oOp opMul (eLook 6) (eLook 6))) (eFz (oOp opMul (eC (.int 16807)) (eFz (oOp opAdd (eLook 5) (eC (.int 3)))))))) (eC (.int 2147483629))))
  (sApp 4 (eFz (oOp opMod (eFz (oOp opDiv (eLook 6) (eC (.int 7)))) (eC (.int 1009))))))))
def L__law_numbers_1 : Sm := (sFor (wRange1 (eLook 2)) (nName 5) K__law_numbers_1)
def b__law_numbers : Sm := (sSeq (sSet 3 (oOp opMul (eC (.int 1000003)) (eFz (oOp opAdd (eLook 1) (eC (.int 1))))))
  (sSeq (sIf (bOf (oOp opLt (eLook 1) (eFz (oCall cLen (aCons (eLook 0) aNil))))) (sSet 3 (oCall cInt (aCons (eFz (oOp opIx (eLook 0) (eLook 1))) aNil))) sNext)
  (sSeq (sIf (bOf (oOp opLt (eLook 3) (eC (.int 0)))) (sSet 3 (oOp opSub (eC (.int 1)) (eFz (oOp opMul (eC (.int 2)) (eLook 3))))) sNext)
  (sSeq (sSet 4 (oLst aNil))
  (sSeq L__law_numbers_1
  (sRetV 4))))))
def m__law_numbers : List D → XR B := run 7 b__law_numbers
def b__law_is_integer : Sm := (sRet (oE (eAnd (eFz (oUn (opIsi .int) (eLook 0))) (eNot (eFz (oUn (opIsi .bool) (eLook 0)))))))
def m__law_is_integer : List D → XR B := run 1 b__law_is_integer
def K__law_name_1 : Sm := (sSet 4 (oOp opAdd (eLook 4) (eFz (oOp opIx (eLook 3) (eFz (oOp opMod (eFz (oOp opAdd (eFz (oOp opAdd (eFz (oOp opMul (eFz (oOp opIx (eLook 0) (eFz (oOp opAdd (eLook 1) (eC (.int 2)))))) (eFz (oOp opAdd (eLook 5) (eC (.int 1)))))) (eFz (oOp opDiv (eFz (oOp opIx (eLook 0) (eFz (oOp opAdd (eFz (oOp opAdd (eLook 1) (eC (.int 1)))) (eFz (oOp opMod (eLook 5) (eC (.int 2)))))))) (eC (.int 7)))))) (eLook 5))) (eC (.int 36))))))))
def L__law_name_1 : Sm := (sFor (wRange1 (eFz (oOp opMod (eFz (oOp opIx (eLook 0) (eFz (oOp opAdd (eLook 1) (eC (.int 1)))))) (eLook 2)))) (nName 5) K__law_name_1)
def b__law_name : Sm := (sSeq (sSet 3 (oE (eC (.str (Str.ofString "abcdefghijklmnopqrstuvwxyz0123456789")))))
  (sSeq (sSet 4 (oOp opIx (eLook 3) (eFz (oOp opMod (eFz (oOp opIx (eLook 0) (eLook 1))) (eC (.int 26))))))
  (sSeq L__law_name_1
  (sRetV 4))))
def m__law_name : List D → XR B := run 6 b__law_name
def K__law_names_1 : Sm := (sSeq (sSet 6 (oCallN 3 m__law_numbers (aCons (eVar 0) (aCons (eFz (oOp opAdd (eLook 1) (eFz (oOp opDiv (eLook 5) (eC (.int 10)))))) (aCons (eFz (oOp opMul (eC (.int 4)) (eFz (oOp opAdd (eC (.int 1)) (eFz (oOp opMod (eLook 5) (eC (.int 10)))))))) aNil)))))
  (sSeq (sFz 6 (sSet 7 (oCallN 3 m__law_name (aCons (eVar 6) (aCons (eFz (oOp opMul (eC (.int 4)) (eFz (oOp opMod (eLook 5) (eC (.int 10)))))) (aCons (eVar 3) aNil))))))
  (sIf (bOf (oOp opNotIn (eLook 7) (eLook 4))) (sFz 7 (sApp 4 (eVar 7))) sNext)))
def L__law_names_1 : Sm := (sFor (wRange1 (eLook 2)) (nName 5) K__law_names_1)
def b__law_names : Sm := (sSeq (sSet 4 (oLst aNil))
  (sSeq L__law_names_1
  (sRetV 4)))
def m__law_names : List D → XR B := run 8 b__law_names
def b__law_drawn_places : Sm := (sSeq (sSet 2 (oCallN 3 m__law_numbers (aCons (eVar 0) (aCons (eC (.int 0)) (aCons (eC (.int 4)) aNil)))))
  (sSeq (sSet 3 (oOp opAdd (eC (.int 2)) (eFz (oOp opMod (eFz (oOp opIx (eLook 2) (eC (.int 0)))) (eFz (oOp opSub (eLook 1) (eC (.int 1))))))))
  (sSeq (sIf (bOf (oOp opEq (eFz (oOp opMod (eFz (oOp opIx (eLook 2) (eC (.int 1)))) (eC (.int 10)))) (eC (.int 0)))) (sSet 3 (oOp opAdd (eC (.int 36)) (eFz (oOp opMod (eFz (oOp opIx (eLook 2) (eC (.int 0)))) (eC (.int 5)))))) sNext)
  (sSeq (sFz 3 (sSet 4 (oCall cSorted (aCons (eFz (oCallN 4 m__law_names (aCons (eVar 0) (aCons (eC (.int 1)) (aCons (eVar 3) (aCons (eC (.int 12)) aNil)))))) aNil))))
  (sSeq (sIf (bOf (oOp opLt (eFz (oCall cLen (aCons (eLook 4) aNil))) (eC (.int 2)))) (sSet 4 (oLst (aCons (eC (.str (Str.ofString "a"))) (aCons (eC (.str (Str.ofString "b"))) aNil)))) sNext)
  (sRetV 4))))))
def m__law_drawn_places : List D → XR B := run 5 b__law_drawn_places
def E__law_drawn_row_1 : Ex := (eFz (oOp opIx (eLook 2) (eFz (oOp opMod (eFz (oOp opMul (eFz (oOp opIx (eLook 3) (eLook 5))) (eFz (oOp opAdd (eLook 5) (eC (.int 1)))))) (eLook 4)))))
def C__law_drawn_row_1 : ExO := (oLc (wRange1 (eFz (oOp opSub (eFz (oCall cLen (aCons (eLook 2) aNil))) (eC (.int 2))))) (nName 5) bYes E__law_drawn_row_1 [5])
def b__law_drawn_row : Sm := (sSeq (sSet 3 (oCallN 3 m__law_numbers (aCons (eVar 0) (aCons (eVar 1) (aCons (eC (.int 60)) aNil)))))
  (sSeq (sSet 4 (oOp opAdd (eC (.int 1)) (eFz (oOp opMod (eFz (oOp opIx (eLook 3) (eC (.int 59)))) (eFz (oCall cLen (aCons (eLook 2) aNil)))))))
  (sRet C__law_drawn_row_1)))
def m__law_drawn_row : List D → XR B := run 6 b__law_drawn_row
def K__law_power_1 : Sm := (sSet 2 (oOp opMul (eLook 2) (eLook 0)))
def L__law_power_1 : Sm := (sFor (wRange1 (eLook 1)) (nName 3) K__law_power_1)
def b__law_power : Sm := (sSeq (sSet 2 (oE (eC (.int 1))))
  (sSeq L__law_power_1
  (sRetV 2)))
def m__law_power : List D → XR B := run 4 b__law_power
def T__law_number_1 : ExT := (bOf (oOp opLt (eLook 5) (eLook 4)))
def E__law_number_1 : Ex := (eVar 5)
def C__law_number_1 : ExO := (oLc (wList (eLook 0)) (nName 5) T__law_number_1 E__law_number_1 [5])
def K__law_number_1 : Sm := (sSeq (sSet 3 (oOp opDiv (eLook 3) (eFz (oCall cLen (aCons (eLook 0) aNil)))))
  (sSet 2 (oOp opAdd (eLook 2) (eFz (oOp opMul (eLook 3) (eFz (oCall cLen (aCons (eFz C__law_number_1) aNil))))))))
def L__law_number_1 : Sm := (sFor (wList (eVar 1)) (nName 4) K__law_number_1)
def b__law_number : Sm := (sSeq (sSet 2 (oE (eC (.int 0))))
  (sSeq (sSet 3 (oCallN 2 m__law_power (aCons (eFz (oCall cLen (aCons (eLook 0) aNil))) (aCons (eFz (oCall cLen (aCons (eLook 1) aNil))) aNil))))
  (sSeq L__law_number_1
  (sRetV 2))))
def m__law_number : List D → XR B := run 6 b__law_number
def K__law_row_at_1 : Sm := (sSeq (sSet 3 (oOp opDiv (eLook 3) (eFz (oCall cLen (aCons (eLook 0) aNil)))))
  (sApp 2 (eFz (oOp opIx (eLook 0) (eFz (oOp opMod (eFz (oOp opDiv (eLook 1) (eLook 3))) (eFz (oCall cLen (aCons (eLook 0) aNil)))))))))
def L__law_row_at_1 : Sm := (sFor (wRange1 (eFz (oOp opSub (eFz (oCall cLen (aCons (eLook 0) aNil))) (eC (.int 2))))) (nName 4) K__law_row_at_1)
def b__law_row_at : Sm := (sSeq (sSet 2 (oLst aNil))
  (sSeq (sSet 3 (oCallN 2 m__law_power (aCons (eFz (oCall cLen (aCons (eLook 0) aNil))) (aCons (eFz (oOp opSub (eFz (oCall cLen (aCons (eLook 0) aNil))) (eC (.int 2)))) aNil))))
  (sSeq L__law_row_at_1
  (sRetV 2))))
def m__law_row_at : List D → XR B := run 5 b__law_row_at
def h__law_refused_139 (c : Str) (x : Option (Str × D)) : Option (Option Sm) := if c = Str.ofString "BadRow" then (match x with | none => some (some (sRet (oE (eAnd (eFz (oIsX 3 true)) (eNot (eFz (oIsX 3 false))))))) | some _ => none) else none
def b__law_refused : Sm := (sSeq (sTry 3 (sIf (bOf (oOp opEq (eLook 0) (eC (.int 0)))) (sDrop (eFz (oCallN 2 m_number_of (aCons (eVar 1) (aCons (eVar 2) aNil))))) (sDrop (eFz (oCallN 2 m_row_at (aCons (eVar 1) (aCons (eC (.int 0)) aNil)))))) h__law_refused_139)
  (sRet (oE (eC (.bl false)))))
def m__law_refused : List D → XR B := run 4 b__law_refused
def b__law_row_holds : Sm := (sSeq (sSet 2 (oLst (aCons (eFz (oCall cList (aCons (eLook 0) aNil))) (aCons (eFz (oCall cList (aCons (eLook 1) aNil))) aNil))))
  (sSeq (sSet 3 (oCallN 2 m_number_of (aCons (eFz (oOp opIx (eLook 2) (eC (.int 0)))) (aCons (eFz (oOp opIx (eLook 2) (eC (.int 1)))) aNil))))
  (sSeq (sFz 3 (sIf (bOr (bOf (oOp opNe (eLook 2) (eFz (oLst (aCons (eVar 0) (aCons (eVar 1) aNil)))))) (bOr (bNot (bOf (oCallN 1 m__law_is_integer (aCons (eVar 3) aNil)))) (bOf (oOp opNe (eLook 3) (eFz (oCallN 2 m__law_number (aCons (eVar 0) (aCons (eVar 1) aNil)))))))) (sRet (oE (eC (.bl false)))) sNext))
  (sSeq (sFz 3 (sSet 4 (oCallN 2 m_row_at (aCons (eFz (oOp opIx (eLook 2) (eC (.int 0)))) (aCons (eVar 3) aNil)))))
  (sSeq (sIf (bOr (bNot (bOf (oUn (opIsi .list) (eLook 4)))) (bOr (bOf (oOp opNe (eLook 4) (eLook 1))) (bOf (oOp opNe (eFz (oOp opIx (eLook 2) (eC (.int 0)))) (eLook 0))))) (sRet (oE (eC (.bl false)))) sNext)
  (sSeq (sApp 4 (eC (.str (Str.ofString "a"))))
  (sSeq (sSet 5 (oCallN 2 m_row_at (aCons (eFz (oOp opIx (eLook 2) (eC (.int 0)))) (aCons (eFz (oOp opAdd (eLook 3) (eC (.int 1)))) aNil))))
  (sSeq (sIf (bOf (oOp opEq (eFz (oOp opAdd (eLook 3) (eC (.int 1)))) (eFz (oCallN 1 m_how_many (aCons (eFz (oCall cLen (aCons (eLook 0) aNil))) aNil))))) (sRet (oOp opIs (eLook 5) (eC .non))) sNext)
  (sFz 5 (sRet (oE (eAnd (eFz (oOp opGt (eLook 5) (eLook 1))) (eAnd (eFz (oOp opEq (eLook 5) (eFz (oCallN 2 m__law_row_at (aCons (eVar 0) (aCons (eFz (oOp opAdd (eLook 3) (eC (.int 1)))) aNil)))))) (eFz (oOp opEq (eFz (oCallN 2 m_number_of (aCons (eVar 0) (aCons (eVar 5) aNil)))) (eFz (oOp opAdd (eLook 3) (eC (.int 1)))))))))))))))))))
def m__law_row_holds : List D → XR B := run 6 b__law_row_holds
def K_law_1 : Sm := (sFz 1 (sIf (bNot (bOf (oCallN 2 m__law_row_holds (aCons (eVar 1) (aCons (eFz (oCallN 3 m__law_drawn_row (aCons (eVar 0) (aCons (eFz (oOp opAdd (eC (.int 7)) (eLook 4))) (aCons (eVar 1) aNil))))) aNil))))) (sRet (oE (eC (.bl false)))) sNext))
def L_law_1 : Sm := (sFor (wRange1 (eC (.int 3))) (nName 4) K_law_1)
def K_law_2 : Sm := (sSet 6 (oOp opAdd (eFz (oOp opMul (eLook 6) (eC (.int 1009)))) (eLook 7)))
def L_law_2 : Sm := (sFor (wList (eFz (oSl (eLook 5) pNone (pSome (eC (.int 45)))))) (nName 7) K_law_2)
def K_law_3 : Sm := (sSeq (sSet 8 (oCallN 2 m_row_at (aCons (eFz (oCall cList (aCons (eLook 1) aNil))) (aCons (eVar 7) aNil))))
  (sIf (bOf (oChain opLe opLt (eC (.int 0)) (eLook 7) (eLook 3))) (sFz 8 (sFz 1 (sIf (bOr (bNot (bOf (oUn (opIsi .list) (eLook 8)))) (bOr (bOf (oOp opNe (eLook 8) (eFz (oCallN 2 m__law_row_at (aCons (eVar 1) (aCons (eVar 7) aNil)))))) (bOf (oOp opNe (eFz (oCallN 2 m_number_of (aCons (eVar 1) (aCons (eVar 8) aNil)))) (eLook 7))))) (sRet (oE (eC (.bl false)))) sNext))) (sIf (bOf (oOp opIsNot (eLook 8) (eC .non))) (sRet (oE (eC (.bl false)))) sNext)))
def L_law_3 : Sm := (sFor (wList (eFz (oLst (aCons (eC (.int 0)) (aCons (eFz (oOp opSub (eLook 3) (eC (.int 1)))) (aCons (eFz (oOp opMod (eLook 6) (eLook 3))) (aCons (eFz (oOp opMod (eFz (oOp opIx (eLook 5) (eC (.int 45)))) (eLook 3))) (aCons (eVar 3) (aCons (eFz (oOp opAdd (eLook 3) (eFz (oOp opIx (eLook 5) (eC (.int 46)))))) (aCons (eFz (oOp opMul (eLook 3) (eC (.int 7)))) (aCons (eFz (oUn opNeg (eC (.int 1)))) (aCons (eFz (oUn opNeg (eLook 3))) (aCons (eFz (oOp opSub (eFz (oOp opSub (eC (.int 0)) (eFz (oOp opIx (eLook 5) (eC (.int 47)))))) (eC (.int 1)))) aNil))))))))))))) (nName 7) K_law_3)
def K_law_4 : Sm := (sFz 9 (sIf (bOr (bNot (bOf (oCallN 3 m__law_refused (aCons (eC (.int 0)) (aCons (eVar 10) (aCons (eVar 9) aNil)))))) (bNot (bOf (oCallN 3 m__law_refused (aCons (eC (.int 1)) (aCons (eVar 10) (aCons (eVar 9) aNil))))))) (sRet (oE (eC (.bl false)))) sNext))
def L_law_4 : Sm := (sFor (wList (eFz (oLst (aCons (eFz (oUn opRev (eLook 1))) (aCons (eFz (oSl (eLook 1) pNone (pSome (eC (.int 1))))) (aCons (eFz (oLst aNil)) (aCons (eC .non) (aCons (eFz (oOp opAdd (eLook 1) (eFz (oSl (eLook 1) (pSome (eFz (oUn opNeg (eC (.int 1))))) pNone)))) (aCons (eFz (oOp opAdd (eFz (oLst (aCons (eC (.str (Str.ofString "A"))) aNil))) (eLook 1))) (aCons (eFz (oCall cTuple (aCons (eLook 1) aNil))) aNil)))))))))) (nName 10) K_law_4)
def K_law_5 : Sm := (sFz 1 (sIf (bAnd (bOr (bOf (oOp opNe (eLook 10) (eLook 9))) (bNot (bOf (oUn (opIsi .list) (eLook 10))))) (bNot (bOf (oCallN 3 m__law_refused (aCons (eC (.int 0)) (aCons (eVar 1) (aCons (eVar 10) aNil))))))) (sRet (oE (eC (.bl false)))) sNext))
def L_law_5 : Sm := (sFor (wList (eFz (oLst (aCons (eFz (oOp opAdd (eLook 9) (eFz (oSl (eLook 1) pNone (pSome (eC (.int 1))))))) (aCons (eFz (oCall cTuple (aCons (eLook 9) aNil))) (aCons (eC .non) (aCons (eFz (oOp opAdd (eLook 9) (eFz (oLst (aCons (eC .non) aNil))))) (aCons (eFz (oSl (eFz (oOp opAdd (eLook 9) (eFz (oLst (aCons (eC (.str (Str.ofString "zzzzzzzzzzzz"))) aNil))))) (pSome (eC (.int 1))) pNone)) (aCons (eC (.str (Str.ofString "a"))) aNil))))))))) (nName 10) K_law_5)
def b_law : Sm := (sSeq (sSet 1 (oCallN 2 m__law_drawn_places (aCons (eVar 0) (aCons (eC (.int 12)) aNil))))
  (sSeq (sSet 2 (oCall cLen (aCons (eLook 1) aNil)))
  (sSeq (sFz 2 (sSet 3 (oCallN 1 m_how_many (aCons (eVar 2) aNil))))
  (sSeq (sFz 3 (sFz 2 (sIf (bOr (bNot (bOf (oCallN 1 m__law_is_integer (aCons (eVar 3) aNil)))) (bOf (oOp opNe (eLook 3) (eFz (oCallN 2 m__law_power (aCons (eVar 2) (aCons (eFz (oOp opSub (eLook 2) (eC (.int 2)))) aNil))))))) (sRet (oE (eC (.bl false)))) sNext)))
  (sSeq L_law_1
  (sSeq (sFz 1 (sIf (bOr (bNot (bOf (oCallN 2 m__law_row_holds (aCons (eVar 1) (aCons (eFz (oOp opMul (eFz (oLst (aCons (eFz (oOp opIx (eLook 1) (eFz (oUn opNeg (eC (.int 1)))))) aNil))) (eFz (oOp opSub (eLook 2) (eC (.int 2)))))) aNil))))) (bNot (bOf (oCallN 2 m__law_row_holds (aCons (eVar 1) (aCons (eFz (oOp opMul (eFz (oLst (aCons (eFz (oOp opIx (eLook 1) (eC (.int 0)))) aNil))) (eFz (oOp opSub (eLook 2) (eC (.int 2)))))) aNil)))))) (sRet (oE (eC (.bl false)))) sNext))
  (sSeq (sSet 5 (oCallN 3 m__law_numbers (aCons (eVar 0) (aCons (eC (.int 10)) (aCons (eC (.int 50)) aNil)))))
  (sSeq (sSet 6 (oE (eC (.int 0))))
  (sSeq L_law_2
  (sSeq (sFz 3 L_law_3)
  (sSeq (sSet 9 (oOp opMul (eFz (oLst (aCons (eFz (oOp opIx (eLook 1) (eC (.int 0)))) aNil))) (eFz (oOp opSub (eLook 2) (eC (.int 2))))))
  (sSeq L_law_4
  (sSeq L_law_5
  (sRet (oE (eAnd (eFz (oOp opEq (eFz (oCallN 1 m_how_many (aCons (eC (.int 2)) aNil))) (eC (.int 1)))) (eAnd (eFz (oOp opEq (eFz (oCallN 1 m_how_many (aCons (eC (.int 3)) aNil))) (eC (.int 3)))) (eFz (oOp opEq (eFz (oCallN 1 m_how_many (aCons (eC (.int 4)) aNil))) (eC (.int 16)))))))))))))))))))))
def m_law : List D → XR B := run 11 b_law
end G

set_option Elab.async false
set_option linter.all false
set_option maxRecDepth 100000
set_option maxHeartbeats 0
namespace G
open PySem VD
abbrev LET : Str := Str.ofString "abcdefghijklmnopqrstuvwxyz"
abbrev FIG : Str := Str.ofString "0123456789"
abbrev SGN : Str := Str.ofString "abcdefghijklmnopqrstuvwxyz0123456789"
/-! ### powers -/
theorem power_eq (n e : Nat) (hn : n ≤ 64) (he : e ≤ 64) : m_power [.int n, .int e] = .ok (.d (.int ((n ^ e : Nat) : Int))) := by
  obtain ⟨ρ', h1, v, h2⟩ : ∃ ρ', L_power_1 [.d (.int n), .d (.int e), .d (.int 1), .nil] = .nx ρ' ∧ ∃ v, ρ' = [.d (.int n), .d (.int e), .d (.int ((n ^ e : Nat) : Int)), v] := by
    obtain ⟨ρ', h1, h2⟩ := sFor_inv (g := nName 3) (b := K_power_1) (rng 0 e) (fun k ρ => ∃ v, ρ = [.d (.int n), .d (.int e), .d (.int ((n ^ k : Nat) : Int)), v]) (range1_eq (e := eLook 1) (ρ := [.d (.int n), .d (.int e), .d (.int 1), .nil]) e rfl rfl (by omega)) ⟨_, rfl⟩ (by
      rintro k x _ hx ⟨v, rfl⟩
      obtain ⟨hk, rfl⟩ := rng_get hx
      refine ⟨_, _, rfl, ?_, .d (.int k), rfl⟩
      have e1 : (((n ^ k : Nat) : Int) * (n : Int)) = ((n ^ (k + 1) : Nat) : Int) := by rw [Nat.pow_succ]; push_cast; rfl
      have e2 : mulB ((n ^ k : Nat) : Int) (n : Int) = true := mulB_r (by omega)
      simp only [K_power_1, VD.run, VD.begin0, VD.sSeq, VD.Out.thn, VD.sIf, VD.got_ok, VD.got_ex, VD.got_bad, VD.sRet, VD.sRetV, VD.sSet, VD.setB, VD.sDrop, VD.sFz, VD.fz1, VD.sApp, VD.sRev, VD.sNext, VD.sRaise, VD.sAug, VD.sFor, VD.sTry, VD.clr, VD.oE, VD.eFz, VD.frz, VD.oOp, VD.oUn, VD.oCall, VD.oCallN, VD.oMethL, VD.oSl, VD.pNone, VD.pSome, VD.aCons, VD.aNil, VD.eLook, VD.eVar, VD.eC, VD.eAnd, VD.eOr, VD.eNot, VD.eIf, VD.oChain, VD.oLst, VD.oTup, VD.oLc, VD.bYes, VD.nName, VD.nTup, VD.nCons, VD.nNil, VD.wList, VD.wStr, VD.wRange1, VD.wZip, VD.wipeB, VD.XR.bind_ok, VD.XR.bind_ex, VD.XR.bind_bad, VD.bOf, VD.bNot, VD.bOr, VD.bAnd, VD.opAdd, VD.opSub, VD.opMul, VD.opMod, VD.opNeg, VD.opDiv, VD.opPow, VD.opLt, VD.opLe, VD.opGt, VD.opGe, VD.opIs, VD.opIsNot, VD.isNon, VD.opIsi, VD.isTy, VD.opRev, VD.cLen, VD.cList, VD.cTuple, VD.cInt, VD.eI, List.length_cons, List.length_nil, List.length_map, List.map_cons, List.map_nil, List.getElem?_cons_zero, List.getElem?_cons_succ, List.set_cons_zero, List.set_cons_succ, List.replicate_succ, List.replicate_zero, List.cons_append, List.nil_append, Nat.reduceSub, Nat.reduceAdd, Nat.reduceLeDiff, Nat.reduceLT, Nat.reduceEqDiff, Nat.reduceMul, Bool.not_true, Bool.not_false, if_true, if_false, ite_true, ite_false, reduceIte, Bool.false_eq_true, reduceCtorEq, VD.LIM, VD.noX, e2, e1])
    exact ⟨ρ', h1, by rwa [rng_len] at h2⟩
  subst h2
  simp only [m_power, b_power, VD.run, VD.begin0, VD.sSeq, VD.Out.thn, VD.sIf, VD.got_ok, VD.got_ex, VD.got_bad, VD.sRet, VD.sRetV, VD.sSet, VD.setB, VD.sDrop, VD.sFz, VD.fz1, VD.sApp, VD.sRev, VD.sNext, VD.sRaise, VD.sAug, VD.sFor, VD.sTry, VD.clr, VD.oE, VD.eFz, VD.frz, VD.oOp, VD.oUn, VD.oCall, VD.oCallN, VD.oMethL, VD.oSl, VD.pNone, VD.pSome, VD.aCons, VD.aNil, VD.eLook, VD.eVar, VD.eC, VD.eAnd, VD.eOr, VD.eNot, VD.eIf, VD.oChain, VD.oLst, VD.oTup, VD.oLc, VD.bYes, VD.nName, VD.nTup, VD.nCons, VD.nNil, VD.wList, VD.wStr, VD.wRange1, VD.wZip, VD.wipeB, VD.XR.bind_ok, VD.XR.bind_ex, VD.XR.bind_bad, VD.bOf, VD.bNot, VD.bOr, VD.bAnd, VD.opAdd, VD.opSub, VD.opMul, VD.opMod, VD.opNeg, VD.opDiv, VD.opPow, VD.opLt, VD.opLe, VD.opGt, VD.opGe, VD.opIs, VD.opIsNot, VD.isNon, VD.opIsi, VD.isTy, VD.opRev, VD.cLen, VD.cList, VD.cTuple, VD.cInt, VD.eI, List.length_cons, List.length_nil, List.length_map, List.map_cons, List.map_nil, List.getElem?_cons_zero, List.getElem?_cons_succ, List.set_cons_zero, List.set_cons_succ, List.replicate_succ, List.replicate_zero, List.cons_append, List.nil_append, Nat.reduceSub, Nat.reduceAdd, Nat.reduceLeDiff, Nat.reduceLT, Nat.reduceEqDiff, Nat.reduceMul, Bool.not_true, Bool.not_false, if_true, if_false, ite_true, ite_false, reduceIte, Bool.false_eq_true, reduceCtorEq, VD.LIM, VD.noX, h1]
theorem lpower_eq (n e : Nat) (hn : n ≤ 64) (he : e ≤ 64) : m__law_power [.int n, .int e] = .ok (.d (.int ((n ^ e : Nat) : Int))) := by
  obtain ⟨ρ', h1, v, h2⟩ : ∃ ρ', L__law_power_1 [.d (.int n), .d (.int e), .d (.int 1), .nil] = .nx ρ' ∧ ∃ v, ρ' = [.d (.int n), .d (.int e), .d (.int ((n ^ e : Nat) : Int)), v] := by
    obtain ⟨ρ', h1, h2⟩ := sFor_inv (g := nName 3) (b := K__law_power_1) (rng 0 e) (fun k ρ => ∃ v, ρ = [.d (.int n), .d (.int e), .d (.int ((n ^ k : Nat) : Int)), v]) (range1_eq (e := eLook 1) (ρ := [.d (.int n), .d (.int e), .d (.int 1), .nil]) e rfl rfl (by omega)) ⟨_, rfl⟩ (by
      rintro k x _ hx ⟨v, rfl⟩
      obtain ⟨hk, rfl⟩ := rng_get hx
      refine ⟨_, _, rfl, ?_, .d (.int k), rfl⟩
      have e1 : (((n ^ k : Nat) : Int) * (n : Int)) = ((n ^ (k + 1) : Nat) : Int) := by rw [Nat.pow_succ]; push_cast; rfl
      have e2 : mulB ((n ^ k : Nat) : Int) (n : Int) = true := mulB_r (by omega)
      simp only [K__law_power_1, VD.run, VD.begin0, VD.sSeq, VD.Out.thn, VD.sIf, VD.got_ok, VD.got_ex, VD.got_bad, VD.sRet, VD.sRetV, VD.sSet, VD.setB, VD.sDrop, VD.sFz, VD.fz1, VD.sApp, VD.sRev, VD.sNext, VD.sRaise, VD.sAug, VD.sFor, VD.sTry, VD.clr, VD.oE, VD.eFz, VD.frz, VD.oOp, VD.oUn, VD.oCall, VD.oCallN, VD.oMethL, VD.oSl, VD.pNone, VD.pSome, VD.aCons, VD.aNil, VD.eLook, VD.eVar, VD.eC, VD.eAnd, VD.eOr, VD.eNot, VD.eIf, VD.oChain, VD.oLst, VD.oTup, VD.oLc, VD.bYes, VD.nName, VD.nTup, VD.nCons, VD.nNil, VD.wList, VD.wStr, VD.wRange1, VD.wZip, VD.wipeB, VD.XR.bind_ok, VD.XR.bind_ex, VD.XR.bind_bad, VD.bOf, VD.bNot, VD.bOr, VD.bAnd, VD.opAdd, VD.opSub, VD.opMul, VD.opMod, VD.opNeg, VD.opDiv, VD.opPow, VD.opLt, VD.opLe, VD.opGt, VD.opGe, VD.opIs, VD.opIsNot, VD.isNon, VD.opIsi, VD.isTy, VD.opRev, VD.cLen, VD.cList, VD.cTuple, VD.cInt, VD.eI, List.length_cons, List.length_nil, List.length_map, List.map_cons, List.map_nil, List.getElem?_cons_zero, List.getElem?_cons_succ, List.set_cons_zero, List.set_cons_succ, List.replicate_succ, List.replicate_zero, List.cons_append, List.nil_append, Nat.reduceSub, Nat.reduceAdd, Nat.reduceLeDiff, Nat.reduceLT, Nat.reduceEqDiff, Nat.reduceMul, Bool.not_true, Bool.not_false, if_true, if_false, ite_true, ite_false, reduceIte, Bool.false_eq_true, reduceCtorEq, VD.LIM, VD.noX, e2, e1])
    exact ⟨ρ', h1, by rwa [rng_len] at h2⟩
  subst h2
  simp only [m__law_power, b__law_power, VD.run, VD.begin0, VD.sSeq, VD.Out.thn, VD.sIf, VD.got_ok, VD.got_ex, VD.got_bad, VD.sRet, VD.sRetV, VD.sSet, VD.setB, VD.sDrop, VD.sFz, VD.fz1, VD.sApp, VD.sRev, VD.sNext, VD.sRaise, VD.sAug, VD.sFor, VD.sTry, VD.clr, VD.oE, VD.eFz, VD.frz, VD.oOp, VD.oUn, VD.oCall, VD.oCallN, VD.oMethL, VD.oSl, VD.pNone, VD.pSome, VD.aCons, VD.aNil, VD.eLook, VD.eVar, VD.eC, VD.eAnd, VD.eOr, VD.eNot, VD.eIf, VD.oChain, VD.oLst, VD.oTup, VD.oLc, VD.bYes, VD.nName, VD.nTup, VD.nCons, VD.nNil, VD.wList, VD.wStr, VD.wRange1, VD.wZip, VD.wipeB, VD.XR.bind_ok, VD.XR.bind_ex, VD.XR.bind_bad, VD.bOf, VD.bNot, VD.bOr, VD.bAnd, VD.opAdd, VD.opSub, VD.opMul, VD.opMod, VD.opNeg, VD.opDiv, VD.opPow, VD.opLt, VD.opLe, VD.opGt, VD.opGe, VD.opIs, VD.opIsNot, VD.isNon, VD.opIsi, VD.isTy, VD.opRev, VD.cLen, VD.cList, VD.cTuple, VD.cInt, VD.eI, List.length_cons, List.length_nil, List.length_map, List.map_cons, List.map_nil, List.getElem?_cons_zero, List.getElem?_cons_succ, List.set_cons_zero, List.set_cons_succ, List.replicate_succ, List.replicate_zero, List.cons_append, List.nil_append, Nat.reduceSub, Nat.reduceAdd, Nat.reduceLeDiff, Nat.reduceLT, Nat.reduceEqDiff, Nat.reduceMul, Bool.not_true, Bool.not_false, if_true, if_false, ite_true, ite_false, reduceIte, Bool.false_eq_true, reduceCtorEq, VD.LIM, VD.noX, h1]
theorem how_many_eq (n : Nat) (h2 : 2 ≤ n) (hn : n ≤ 64) : m_how_many [.int n] = .ok (.d (.int ((n ^ (n - 2) : Nat) : Int))) := by
  have e : (n : Int) - 2 = ((n - 2 : Nat) : Int) := by omega
  have h := power_eq n (n - 2) hn (by omega)
  simp only [m_how_many, b_how_many, VD.run, VD.begin0, VD.sSeq, VD.Out.thn, VD.sIf, VD.got_ok, VD.got_ex, VD.got_bad, VD.sRet, VD.sRetV, VD.sSet, VD.setB, VD.sDrop, VD.sFz, VD.fz1, VD.sApp, VD.sRev, VD.sNext, VD.sRaise, VD.sAug, VD.sFor, VD.sTry, VD.clr, VD.oE, VD.eFz, VD.frz, VD.oOp, VD.oUn, VD.oCall, VD.oCallN, VD.oMethL, VD.oSl, VD.pNone, VD.pSome, VD.aCons, VD.aNil, VD.eLook, VD.eVar, VD.eC, VD.eAnd, VD.eOr, VD.eNot, VD.eIf, VD.oChain, VD.oLst, VD.oTup, VD.oLc, VD.bYes, VD.nName, VD.nTup, VD.nCons, VD.nNil, VD.wList, VD.wStr, VD.wRange1, VD.wZip, VD.wipeB, VD.XR.bind_ok, VD.XR.bind_ex, VD.XR.bind_bad, VD.bOf, VD.bNot, VD.bOr, VD.bAnd, VD.opAdd, VD.opSub, VD.opMul, VD.opMod, VD.opNeg, VD.opDiv, VD.opPow, VD.opLt, VD.opLe, VD.opGt, VD.opGe, VD.opIs, VD.opIsNot, VD.isNon, VD.opIsi, VD.isTy, VD.opRev, VD.cLen, VD.cList, VD.cTuple, VD.cInt, VD.eI, List.length_cons, List.length_nil, List.length_map, List.map_cons, List.map_nil, List.getElem?_cons_zero, List.getElem?_cons_succ, List.set_cons_zero, List.set_cons_succ, List.replicate_succ, List.replicate_zero, List.cons_append, List.nil_append, Nat.reduceSub, Nat.reduceAdd, Nat.reduceLeDiff, Nat.reduceLT, Nat.reduceEqDiff, Nat.reduceMul, Bool.not_true, Bool.not_false, if_true, if_false, ite_true, ite_false, reduceIte, Bool.false_eq_true, reduceCtorEq, VD.LIM, VD.noX, e, h]
theorem is_int_eq (n : Int) : m__law_is_integer [.int n] = OB true := by
  simp only [m__law_is_integer, b__law_is_integer, VD.run, VD.begin0, VD.sSeq, VD.Out.thn, VD.sIf, VD.got_ok, VD.got_ex, VD.got_bad, VD.sRet, VD.sRetV, VD.sSet, VD.setB, VD.sDrop, VD.sFz, VD.fz1, VD.sApp, VD.sRev, VD.sNext, VD.sRaise, VD.sAug, VD.sFor, VD.sTry, VD.clr, VD.oE, VD.eFz, VD.frz, VD.oOp, VD.oUn, VD.oCall, VD.oCallN, VD.oMethL, VD.oSl, VD.pNone, VD.pSome, VD.aCons, VD.aNil, VD.eLook, VD.eVar, VD.eC, VD.eAnd, VD.eOr, VD.eNot, VD.eIf, VD.oChain, VD.oLst, VD.oTup, VD.oLc, VD.bYes, VD.nName, VD.nTup, VD.nCons, VD.nNil, VD.wList, VD.wStr, VD.wRange1, VD.wZip, VD.wipeB, VD.XR.bind_ok, VD.XR.bind_ex, VD.XR.bind_bad, VD.bOf, VD.bNot, VD.bOr, VD.bAnd, VD.opAdd, VD.opSub, VD.opMul, VD.opMod, VD.opNeg, VD.opDiv, VD.opPow, VD.opLt, VD.opLe, VD.opGt, VD.opGe, VD.opIs, VD.opIsNot, VD.isNon, VD.opIsi, VD.isTy, VD.opRev, VD.cLen, VD.cList, VD.cTuple, VD.cInt, VD.eI, List.length_cons, List.length_nil, List.length_map, List.map_cons, List.map_nil, List.getElem?_cons_zero, List.getElem?_cons_succ, List.set_cons_zero, List.set_cons_succ, List.replicate_succ, List.replicate_zero, List.cons_append, List.nil_append, Nat.reduceSub, Nat.reduceAdd, Nat.reduceLeDiff, Nat.reduceLT, Nat.reduceEqDiff, Nat.reduceMul, Bool.not_true, Bool.not_false, if_true, if_false, ite_true, ite_false, reduceIte, Bool.false_eq_true, reduceCtorEq, VD.LIM, VD.noX]
/-! ### names -/
def signOk (c : Nat) : Bool := signIn c LET || signIn c FIG
def nameSigns (s : Str) : Bool := match s.cps.toList with
  | [] => false
  | c :: r => signIn c LET && (c :: r).all signOk
def okName (s : Str) : Bool := decide (1 ≤ s.length) && (decide (s.length ≤ 12) && nameSigns s)
theorem in_sign (c : Nat) (z : Str) : inD (.str ⟨#[c]⟩) (.str z) = .ok (signIn c z) := rfl
theorem len_list (s : Str) : s.length = s.cps.toList.length := by simp [Str.length]
theorem signs_eq (s : Str) (c : Nat) (r : List Nat) (hs : s.cps.toList = c :: r) (hl : s.length ≤ 12) : m_has_name_signs [.str s] = OB (nameSigns s) := by
  have hx : opIx (.str s) (.int 0) = .ok (.d (.str ⟨#[c]⟩)) := by
    unfold opIx
    simp only [hs]
    rw [if_pos (Nat.le_trans hl (by decide))]
    have : atD (c :: r) 0 = some c := by simp [atD]
    rw [this]
  have hc : C_has_name_signs_1 [.d (.str s), .nil] = .ok (.own (.lst ((s.cps.toList.map signOk).map .bl))) := by
    have := oLc_map (i := wStr (eLook 0)) (g := nName 1) (e := E_has_name_signs_1) (vs := [1]) (ρ := [.d (.str s), .nil]) (s.cps.toList.map fun c => .str ⟨#[c]⟩) (fun x => match x with | .str z => .bl (signOk (z.cps.toList.headD 0)) | _ => .non) rfl (by rw [List.length_map, ← len_list]; exact Nat.le_trans hl (by decide)) (by
      intro x hx
      obtain ⟨d, _, rfl⟩ := List.mem_map.mp hx
      refine ⟨_, rfl, ?_⟩
      simp only [E_has_name_signs_1, VD.run, VD.begin0, VD.sSeq, VD.Out.thn, VD.sIf, VD.got_ok, VD.got_ex, VD.got_bad, VD.sRet, VD.sRetV, VD.sSet, VD.setB, VD.sDrop, VD.sFz, VD.fz1, VD.sApp, VD.sRev, VD.sNext, VD.sRaise, VD.sAug, VD.sFor, VD.sTry, VD.clr, VD.oE, VD.eFz, VD.frz, VD.oOp, VD.oUn, VD.oCall, VD.oCallN, VD.oMethL, VD.oSl, VD.pNone, VD.pSome, VD.aCons, VD.aNil, VD.eLook, VD.eVar, VD.eC, VD.eAnd, VD.eOr, VD.eNot, VD.eIf, VD.oChain, VD.oLst, VD.oTup, VD.oLc, VD.bYes, VD.nName, VD.nTup, VD.nCons, VD.nNil, VD.wList, VD.wStr, VD.wRange1, VD.wZip, VD.wipeB, VD.XR.bind_ok, VD.XR.bind_ex, VD.XR.bind_bad, VD.bOf, VD.bNot, VD.bOr, VD.bAnd, VD.opAdd, VD.opSub, VD.opMul, VD.opMod, VD.opNeg, VD.opDiv, VD.opPow, VD.opLt, VD.opLe, VD.opGt, VD.opGe, VD.opIs, VD.opIsNot, VD.isNon, VD.opIsi, VD.isTy, VD.opRev, VD.cLen, VD.cList, VD.cTuple, VD.cInt, VD.eI, List.length_cons, List.length_nil, List.length_map, List.map_cons, List.map_nil, List.getElem?_cons_zero, List.getElem?_cons_succ, List.set_cons_zero, List.set_cons_succ, List.replicate_succ, List.replicate_zero, List.cons_append, List.nil_append, Nat.reduceSub, Nat.reduceAdd, Nat.reduceLeDiff, Nat.reduceLT, Nat.reduceEqDiff, Nat.reduceMul, Bool.not_true, Bool.not_false, if_true, if_false, ite_true, ite_false, reduceIte, Bool.false_eq_true, reduceCtorEq, VD.LIM, VD.noX, opIn, in_sign, signOk, List.headD_cons]
      cases signIn d LET <;> rfl)
    rw [show C_has_name_signs_1 [.d (.str s), .nil] = oLc (wStr (eLook 0)) (nName 1) bYes E_has_name_signs_1 [1] [.d (.str s), .nil] from rfl, this, List.map_map, List.map_map]
    rfl
  obtain ⟨bs, hbs⟩ : ∃ bs, bs = s.cps.toList.map signOk := ⟨_, rfl⟩
  rw [← hbs] at hc
  have e2 : nameSigns s = (signIn c LET && bs.all id) := by
    unfold nameSigns
    rw [hbs, hs, List.all_map]
    rfl
  rw [e2]
  simp only [m_has_name_signs, b_has_name_signs, VD.run, VD.begin0, VD.sSeq, VD.Out.thn, VD.sIf, VD.got_ok, VD.got_ex, VD.got_bad, VD.sRet, VD.sRetV, VD.sSet, VD.setB, VD.sDrop, VD.sFz, VD.fz1, VD.sApp, VD.sRev, VD.sNext, VD.sRaise, VD.sAug, VD.sFor, VD.sTry, VD.clr, VD.oE, VD.eFz, VD.frz, VD.oOp, VD.oUn, VD.oCall, VD.oCallN, VD.oMethL, VD.oSl, VD.pNone, VD.pSome, VD.aCons, VD.aNil, VD.eLook, VD.eVar, VD.eC, VD.eAnd, VD.eOr, VD.eNot, VD.eIf, VD.oChain, VD.oLst, VD.oTup, VD.oLc, VD.bYes, VD.nName, VD.nTup, VD.nCons, VD.nNil, VD.wList, VD.wStr, VD.wRange1, VD.wZip, VD.wipeB, VD.XR.bind_ok, VD.XR.bind_ex, VD.XR.bind_bad, VD.bOf, VD.bNot, VD.bOr, VD.bAnd, VD.opAdd, VD.opSub, VD.opMul, VD.opMod, VD.opNeg, VD.opDiv, VD.opPow, VD.opLt, VD.opLe, VD.opGt, VD.opGe, VD.opIs, VD.opIsNot, VD.isNon, VD.opIsi, VD.isTy, VD.opRev, VD.cLen, VD.cList, VD.cTuple, VD.cInt, VD.eI, List.length_cons, List.length_nil, List.length_map, List.map_cons, List.map_nil, List.getElem?_cons_zero, List.getElem?_cons_succ, List.set_cons_zero, List.set_cons_succ, List.replicate_succ, List.replicate_zero, List.cons_append, List.nil_append, Nat.reduceSub, Nat.reduceAdd, Nat.reduceLeDiff, Nat.reduceLT, Nat.reduceEqDiff, Nat.reduceMul, Bool.not_true, Bool.not_false, if_true, if_false, ite_true, ite_false, reduceIte, Bool.false_eq_true, reduceCtorEq, VD.LIM, VD.noX, opNotIn, hx, in_sign, hc, cAll_bl]
  cases e : signIn c LET with
  | true => simp only [VD.run, VD.begin0, VD.sSeq, VD.Out.thn, VD.sIf, VD.got_ok, VD.got_ex, VD.got_bad, VD.sRet, VD.sRetV, VD.sSet, VD.setB, VD.sDrop, VD.sFz, VD.fz1, VD.sApp, VD.sRev, VD.sNext, VD.sRaise, VD.sAug, VD.sFor, VD.sTry, VD.clr, VD.oE, VD.eFz, VD.frz, VD.oOp, VD.oUn, VD.oCall, VD.oCallN, VD.oMethL, VD.oSl, VD.pNone, VD.pSome, VD.aCons, VD.aNil, VD.eLook, VD.eVar, VD.eC, VD.eAnd, VD.eOr, VD.eNot, VD.eIf, VD.oChain, VD.oLst, VD.oTup, VD.oLc, VD.bYes, VD.nName, VD.nTup, VD.nCons, VD.nNil, VD.wList, VD.wStr, VD.wRange1, VD.wZip, VD.wipeB, VD.XR.bind_ok, VD.XR.bind_ex, VD.XR.bind_bad, VD.bOf, VD.bNot, VD.bOr, VD.bAnd, VD.opAdd, VD.opSub, VD.opMul, VD.opMod, VD.opNeg, VD.opDiv, VD.opPow, VD.opLt, VD.opLe, VD.opGt, VD.opGe, VD.opIs, VD.opIsNot, VD.isNon, VD.opIsi, VD.isTy, VD.opRev, VD.cLen, VD.cList, VD.cTuple, VD.cInt, VD.eI, List.length_cons, List.length_nil, List.length_map, List.map_cons, List.map_nil, List.getElem?_cons_zero, List.getElem?_cons_succ, List.set_cons_zero, List.set_cons_succ, List.replicate_succ, List.replicate_zero, List.cons_append, List.nil_append, Nat.reduceSub, Nat.reduceAdd, Nat.reduceLeDiff, Nat.reduceLT, Nat.reduceEqDiff, Nat.reduceMul, Bool.not_true, Bool.not_false, if_true, if_false, ite_true, ite_false, reduceIte, Bool.false_eq_true, reduceCtorEq, VD.LIM, VD.noX, hc, cAll_bl, Bool.true_and]
  | false => rfl
theorem is_name_eq (s : Str) (hl : s.length ≤ 100000) : m_is_name [.str s] = OB (okName s) := by
  have e1 : decide ((1 : Int) ≤ (s.length : Int)) = decide (1 ≤ s.length) := by congr 1; apply propext; omega
  have e2 : decide ((s.length : Int) ≤ 12) = decide (s.length ≤ 12) := by congr 1; apply propext; omega
  unfold okName
  by_cases h1 : 1 ≤ s.length
  · by_cases h2 : s.length ≤ 12
    · obtain ⟨c, r, hs⟩ : ∃ c r, s.cps.toList = c :: r := by
        cases q : s.cps.toList with
        | nil => rw [len_list, q] at h1; simp at h1
        | cons c r => exact ⟨c, r, rfl⟩
      have hh := signs_eq s c r hs h2
      simp only [m_is_name, b_is_name, VD.run, VD.begin0, VD.sSeq, VD.Out.thn, VD.sIf, VD.got_ok, VD.got_ex, VD.got_bad, VD.sRet, VD.sRetV, VD.sSet, VD.setB, VD.sDrop, VD.sFz, VD.fz1, VD.sApp, VD.sRev, VD.sNext, VD.sRaise, VD.sAug, VD.sFor, VD.sTry, VD.clr, VD.oE, VD.eFz, VD.frz, VD.oOp, VD.oUn, VD.oCall, VD.oCallN, VD.oMethL, VD.oSl, VD.pNone, VD.pSome, VD.aCons, VD.aNil, VD.eLook, VD.eVar, VD.eC, VD.eAnd, VD.eOr, VD.eNot, VD.eIf, VD.oChain, VD.oLst, VD.oTup, VD.oLc, VD.bYes, VD.nName, VD.nTup, VD.nCons, VD.nNil, VD.wList, VD.wStr, VD.wRange1, VD.wZip, VD.wipeB, VD.XR.bind_ok, VD.XR.bind_ex, VD.XR.bind_bad, VD.bOf, VD.bNot, VD.bOr, VD.bAnd, VD.opAdd, VD.opSub, VD.opMul, VD.opMod, VD.opNeg, VD.opDiv, VD.opPow, VD.opLt, VD.opLe, VD.opGt, VD.opGe, VD.opIs, VD.opIsNot, VD.isNon, VD.opIsi, VD.isTy, VD.opRev, VD.cLen, VD.cList, VD.cTuple, VD.cInt, VD.eI, List.length_cons, List.length_nil, List.length_map, List.map_cons, List.map_nil, List.getElem?_cons_zero, List.getElem?_cons_succ, List.set_cons_zero, List.set_cons_succ, List.replicate_succ, List.replicate_zero, List.cons_append, List.nil_append, Nat.reduceSub, Nat.reduceAdd, Nat.reduceLeDiff, Nat.reduceLT, Nat.reduceEqDiff, Nat.reduceMul, Bool.not_true, Bool.not_false, if_true, if_false, ite_true, ite_false, reduceIte, Bool.false_eq_true, reduceCtorEq, VD.LIM, VD.noX, hl, e1, e2, decide_eq_true h1, decide_eq_true h2, hh, Bool.true_and]
    · simp only [m_is_name, b_is_name, VD.run, VD.begin0, VD.sSeq, VD.Out.thn, VD.sIf, VD.got_ok, VD.got_ex, VD.got_bad, VD.sRet, VD.sRetV, VD.sSet, VD.setB, VD.sDrop, VD.sFz, VD.fz1, VD.sApp, VD.sRev, VD.sNext, VD.sRaise, VD.sAug, VD.sFor, VD.sTry, VD.clr, VD.oE, VD.eFz, VD.frz, VD.oOp, VD.oUn, VD.oCall, VD.oCallN, VD.oMethL, VD.oSl, VD.pNone, VD.pSome, VD.aCons, VD.aNil, VD.eLook, VD.eVar, VD.eC, VD.eAnd, VD.eOr, VD.eNot, VD.eIf, VD.oChain, VD.oLst, VD.oTup, VD.oLc, VD.bYes, VD.nName, VD.nTup, VD.nCons, VD.nNil, VD.wList, VD.wStr, VD.wRange1, VD.wZip, VD.wipeB, VD.XR.bind_ok, VD.XR.bind_ex, VD.XR.bind_bad, VD.bOf, VD.bNot, VD.bOr, VD.bAnd, VD.opAdd, VD.opSub, VD.opMul, VD.opMod, VD.opNeg, VD.opDiv, VD.opPow, VD.opLt, VD.opLe, VD.opGt, VD.opGe, VD.opIs, VD.opIsNot, VD.isNon, VD.opIsi, VD.isTy, VD.opRev, VD.cLen, VD.cList, VD.cTuple, VD.cInt, VD.eI, List.length_cons, List.length_nil, List.length_map, List.map_cons, List.map_nil, List.getElem?_cons_zero, List.getElem?_cons_succ, List.set_cons_zero, List.set_cons_succ, List.replicate_succ, List.replicate_zero, List.cons_append, List.nil_append, Nat.reduceSub, Nat.reduceAdd, Nat.reduceLeDiff, Nat.reduceLT, Nat.reduceEqDiff, Nat.reduceMul, Bool.not_true, Bool.not_false, if_true, if_false, ite_true, ite_false, reduceIte, Bool.false_eq_true, reduceCtorEq, VD.LIM, VD.noX, hl, e1, e2, decide_eq_true h1, decide_eq_false h2, Bool.true_and, Bool.false_and]
  · simp only [m_is_name, b_is_name, VD.run, VD.begin0, VD.sSeq, VD.Out.thn, VD.sIf, VD.got_ok, VD.got_ex, VD.got_bad, VD.sRet, VD.sRetV, VD.sSet, VD.setB, VD.sDrop, VD.sFz, VD.fz1, VD.sApp, VD.sRev, VD.sNext, VD.sRaise, VD.sAug, VD.sFor, VD.sTry, VD.clr, VD.oE, VD.eFz, VD.frz, VD.oOp, VD.oUn, VD.oCall, VD.oCallN, VD.oMethL, VD.oSl, VD.pNone, VD.pSome, VD.aCons, VD.aNil, VD.eLook, VD.eVar, VD.eC, VD.eAnd, VD.eOr, VD.eNot, VD.eIf, VD.oChain, VD.oLst, VD.oTup, VD.oLc, VD.bYes, VD.nName, VD.nTup, VD.nCons, VD.nNil, VD.wList, VD.wStr, VD.wRange1, VD.wZip, VD.wipeB, VD.XR.bind_ok, VD.XR.bind_ex, VD.XR.bind_bad, VD.bOf, VD.bNot, VD.bOr, VD.bAnd, VD.opAdd, VD.opSub, VD.opMul, VD.opMod, VD.opNeg, VD.opDiv, VD.opPow, VD.opLt, VD.opLe, VD.opGt, VD.opGe, VD.opIs, VD.opIsNot, VD.isNon, VD.opIsi, VD.isTy, VD.opRev, VD.cLen, VD.cList, VD.cTuple, VD.cInt, VD.eI, List.length_cons, List.length_nil, List.length_map, List.map_cons, List.map_nil, List.getElem?_cons_zero, List.getElem?_cons_succ, List.set_cons_zero, List.set_cons_succ, List.replicate_succ, List.replicate_zero, List.cons_append, List.nil_append, Nat.reduceSub, Nat.reduceAdd, Nat.reduceLeDiff, Nat.reduceLT, Nat.reduceEqDiff, Nat.reduceMul, Bool.not_true, Bool.not_false, if_true, if_false, ite_true, ite_false, reduceIte, Bool.false_eq_true, reduceCtorEq, VD.LIM, VD.noX, hl, e1, e2, decide_eq_false h1, Bool.false_and]
/-! ### places -/
def ascB : List Str → Bool
  | [] => true
  | [_] => true
  | x :: y :: r => sLt x y && ascB (y :: r)
theorem asc_of : ∀ {l : List Str}, ascB l = true → Asc l
  | [], _ => List.Pairwise.nil
  | [x], _ => List.pairwise_singleton _ _
  | x :: y :: r, h => by
    obtain ⟨h1, h2⟩ := Bool.and_eq_true_iff.mp (show (sLt x y && ascB (y :: r)) = true from h)
    have a := asc_of h2
    refine List.pairwise_cons.mpr ⟨fun z hz => ?_, a⟩
    rcases List.mem_cons.mp hz with rfl | hz
    · exact h1
    · exact sLt_trans h1 ((List.pairwise_cons.mp a).1 z hz)
theorem of_asc : ∀ {l : List Str}, Asc l → ascB l = true
  | [], _ => rfl
  | [x], _ => rfl
  | x :: y :: r, h => by
    obtain ⟨h1, h2⟩ := List.pairwise_cons.mp h
    show (sLt x y && ascB (y :: r)) = true
    rw [h1 y (List.mem_cons_self ..), of_asc h2]
    rfl
def pairs (l : List Str) : List D := ((l.map D.str).zip ((l.map D.str).drop 1)).map fun p => .tup [p.1, p.2]
def ltP : D → D
  | .tup [.str a, .str b] => .bl (sLt a b)
  | _ => .non
theorem pairs_all : ∀ l : List Str, ∃ bs : List Bool, (pairs l).map ltP = bs.map .bl ∧ bs.all id = ascB l
  | [] => ⟨[], rfl, rfl⟩
  | [x] => ⟨[], rfl, rfl⟩
  | x :: y :: r => by
    obtain ⟨bs, h1, h2⟩ := pairs_all (y :: r)
    refine ⟨sLt x y :: bs, ?_, ?_⟩
    · rw [List.map_cons, ← h1]
      rfl
    · rw [List.all_cons, h2]
      rfl
theorem pairs_mem {l : List Str} {x : D} (h : x ∈ pairs l) : ∃ a b, x = .tup [.str a, .str b] := by
  obtain ⟨p, hp, rfl⟩ := List.mem_map.mp h
  obtain ⟨a, _, h1⟩ := List.mem_map.mp (List.of_mem_zip hp).1
  obtain ⟨b, _, h2⟩ := List.mem_map.mp (List.mem_of_mem_drop (List.of_mem_zip hp).2)
  exact ⟨a, b, by rw [h1, h2]⟩
theorem pairs_len (l : List Str) : (pairs l).length ≤ l.length := by
  unfold pairs
  rw [List.length_map, List.length_zip, List.length_map]
  exact Nat.min_le_left _ _
theorem cut1 (l : List D) : cut l (some 1) none = l.drop 1 := by
  have e1 : sEnd l.length 0 (some 1) = min 1 l.length := by simp [sEnd]
  have e2 : sEnd l.length l.length none = l.length := rfl
  unfold cut
  rw [e1, e2]
  cases l with
  | nil => rfl
  | cons x r => simp
theorem is_asc_eq (l : List Str) (hl : l.length ≤ 100000) : m_is_ascending [DS l] = OB (ascB l) := by
  obtain ⟨bs, h1, h2⟩ := pairs_all l
  have hc : C_is_ascending_1 [.d (DS l), .nil, .nil] = .ok (.own (.lst (bs.map .bl))) := by
    have := oLc_map (i := wZip (aCons (eLook 0) (aCons (eFz (oSl (eLook 0) (pSome (eC (.int 1))) pNone)) aNil))) (g := nTup 2 (nCons (nName 1) (nCons (nName 2) nNil))) (e := E_is_ascending_1) (vs := [1, 2]) (ρ := [.d (DS l), .nil, .nil]) (pairs l) ltP (by
        simp only [VD.run, VD.begin0, VD.sSeq, VD.Out.thn, VD.sIf, VD.got_ok, VD.got_ex, VD.got_bad, VD.sRet, VD.sRetV, VD.sSet, VD.setB, VD.sDrop, VD.sFz, VD.fz1, VD.sApp, VD.sRev, VD.sNext, VD.sRaise, VD.sAug, VD.sFor, VD.sTry, VD.clr, VD.oE, VD.eFz, VD.frz, VD.oOp, VD.oUn, VD.oCall, VD.oCallN, VD.oMethL, VD.oSl, VD.pNone, VD.pSome, VD.aCons, VD.aNil, VD.eLook, VD.eVar, VD.eC, VD.eAnd, VD.eOr, VD.eNot, VD.eIf, VD.oChain, VD.oLst, VD.oTup, VD.oLc, VD.bYes, VD.nName, VD.nTup, VD.nCons, VD.nNil, VD.wList, VD.wStr, VD.wRange1, VD.wZip, VD.wipeB, VD.XR.bind_ok, VD.XR.bind_ex, VD.XR.bind_bad, VD.bOf, VD.bNot, VD.bOr, VD.bAnd, VD.opAdd, VD.opSub, VD.opMul, VD.opMod, VD.opNeg, VD.opDiv, VD.opPow, VD.opLt, VD.opLe, VD.opGt, VD.opGe, VD.opIs, VD.opIsNot, VD.isNon, VD.opIsi, VD.isTy, VD.opRev, VD.cLen, VD.cList, VD.cTuple, VD.cInt, VD.eI, List.length_cons, List.length_nil, List.length_map, List.map_cons, List.map_nil, List.getElem?_cons_zero, List.getElem?_cons_succ, List.set_cons_zero, List.set_cons_succ, List.replicate_succ, List.replicate_zero, List.cons_append, List.nil_append, Nat.reduceSub, Nat.reduceAdd, Nat.reduceLeDiff, Nat.reduceLT, Nat.reduceEqDiff, Nat.reduceMul, Bool.not_true, Bool.not_false, if_true, if_false, ite_true, ite_false, reduceIte, Bool.false_eq_true, reduceCtorEq, VD.LIM, VD.noX, DS, opSl, cut1]
        rfl) (Nat.le_trans (pairs_len l) hl) (by
      intro x hx
      obtain ⟨a, b, rfl⟩ := pairs_mem hx
      refine ⟨_, rfl, ?_⟩
      simp only [E_is_ascending_1, VD.run, VD.begin0, VD.sSeq, VD.Out.thn, VD.sIf, VD.got_ok, VD.got_ex, VD.got_bad, VD.sRet, VD.sRetV, VD.sSet, VD.setB, VD.sDrop, VD.sFz, VD.fz1, VD.sApp, VD.sRev, VD.sNext, VD.sRaise, VD.sAug, VD.sFor, VD.sTry, VD.clr, VD.oE, VD.eFz, VD.frz, VD.oOp, VD.oUn, VD.oCall, VD.oCallN, VD.oMethL, VD.oSl, VD.pNone, VD.pSome, VD.aCons, VD.aNil, VD.eLook, VD.eVar, VD.eC, VD.eAnd, VD.eOr, VD.eNot, VD.eIf, VD.oChain, VD.oLst, VD.oTup, VD.oLc, VD.bYes, VD.nName, VD.nTup, VD.nCons, VD.nNil, VD.wList, VD.wStr, VD.wRange1, VD.wZip, VD.wipeB, VD.XR.bind_ok, VD.XR.bind_ex, VD.XR.bind_bad, VD.bOf, VD.bNot, VD.bOr, VD.bAnd, VD.opAdd, VD.opSub, VD.opMul, VD.opMod, VD.opNeg, VD.opDiv, VD.opPow, VD.opLt, VD.opLe, VD.opGt, VD.opGe, VD.opIs, VD.opIsNot, VD.isNon, VD.opIsi, VD.isTy, VD.opRev, VD.cLen, VD.cList, VD.cTuple, VD.cInt, VD.eI, List.length_cons, List.length_nil, List.length_map, List.map_cons, List.map_nil, List.getElem?_cons_zero, List.getElem?_cons_succ, List.set_cons_zero, List.set_cons_succ, List.replicate_succ, List.replicate_zero, List.cons_append, List.nil_append, Nat.reduceSub, Nat.reduceAdd, Nat.reduceLeDiff, Nat.reduceLT, Nat.reduceEqDiff, Nat.reduceMul, Bool.not_true, Bool.not_false, if_true, if_false, ite_true, ite_false, reduceIte, Bool.false_eq_true, reduceCtorEq, VD.LIM, VD.noX, ltP])
    rw [h1] at this
    exact this
  simp only [m_is_ascending, b_is_ascending, VD.run, VD.begin0, VD.sSeq, VD.Out.thn, VD.sIf, VD.got_ok, VD.got_ex, VD.got_bad, VD.sRet, VD.sRetV, VD.sSet, VD.setB, VD.sDrop, VD.sFz, VD.fz1, VD.sApp, VD.sRev, VD.sNext, VD.sRaise, VD.sAug, VD.sFor, VD.sTry, VD.clr, VD.oE, VD.eFz, VD.frz, VD.oOp, VD.oUn, VD.oCall, VD.oCallN, VD.oMethL, VD.oSl, VD.pNone, VD.pSome, VD.aCons, VD.aNil, VD.eLook, VD.eVar, VD.eC, VD.eAnd, VD.eOr, VD.eNot, VD.eIf, VD.oChain, VD.oLst, VD.oTup, VD.oLc, VD.bYes, VD.nName, VD.nTup, VD.nCons, VD.nNil, VD.wList, VD.wStr, VD.wRange1, VD.wZip, VD.wipeB, VD.XR.bind_ok, VD.XR.bind_ex, VD.XR.bind_bad, VD.bOf, VD.bNot, VD.bOr, VD.bAnd, VD.opAdd, VD.opSub, VD.opMul, VD.opMod, VD.opNeg, VD.opDiv, VD.opPow, VD.opLt, VD.opLe, VD.opGt, VD.opGe, VD.opIs, VD.opIsNot, VD.isNon, VD.opIsi, VD.isTy, VD.opRev, VD.cLen, VD.cList, VD.cTuple, VD.cInt, VD.eI, List.length_cons, List.length_nil, List.length_map, List.map_cons, List.map_nil, List.getElem?_cons_zero, List.getElem?_cons_succ, List.set_cons_zero, List.set_cons_succ, List.replicate_succ, List.replicate_zero, List.cons_append, List.nil_append, Nat.reduceSub, Nat.reduceAdd, Nat.reduceLeDiff, Nat.reduceLT, Nat.reduceEqDiff, Nat.reduceMul, Bool.not_true, Bool.not_false, if_true, if_false, ite_true, ite_false, reduceIte, Bool.false_eq_true, reduceCtorEq, VD.LIM, VD.noX, hc, cAll_bl, h2]
abbrev Short (l : List Str) : Prop := ∀ x, x ∈ l → x.length ≤ 100000
theorem are_names_eq (l : List Str) (hl : l.length ≤ 100000) (hs : Short l) : m_are_names [DS l] = OB (l.all okName && ascB l) := by
  obtain ⟨bs, hb⟩ : ∃ bs, bs = l.map okName := ⟨_, rfl⟩
  have hc : C_are_names_1 [.d (DS l), .nil] = .ok (.own (.lst (bs.map .bl))) := by
    have := oLc_map (i := wList (eLook 0)) (g := nName 1) (e := E_are_names_1) (vs := [1]) (ρ := [.d (DS l), .nil]) (l.map .str) (fun x => match x with | .str z => .bl (okName z) | _ => .non) rfl (by rw [List.length_map]; exact hl) (by
      intro x hx
      obtain ⟨d, hd, rfl⟩ := List.mem_map.mp hx
      refine ⟨_, rfl, ?_⟩
      simp only [E_are_names_1, VD.run, VD.begin0, VD.sSeq, VD.Out.thn, VD.sIf, VD.got_ok, VD.got_ex, VD.got_bad, VD.sRet, VD.sRetV, VD.sSet, VD.setB, VD.sDrop, VD.sFz, VD.fz1, VD.sApp, VD.sRev, VD.sNext, VD.sRaise, VD.sAug, VD.sFor, VD.sTry, VD.clr, VD.oE, VD.eFz, VD.frz, VD.oOp, VD.oUn, VD.oCall, VD.oCallN, VD.oMethL, VD.oSl, VD.pNone, VD.pSome, VD.aCons, VD.aNil, VD.eLook, VD.eVar, VD.eC, VD.eAnd, VD.eOr, VD.eNot, VD.eIf, VD.oChain, VD.oLst, VD.oTup, VD.oLc, VD.bYes, VD.nName, VD.nTup, VD.nCons, VD.nNil, VD.wList, VD.wStr, VD.wRange1, VD.wZip, VD.wipeB, VD.XR.bind_ok, VD.XR.bind_ex, VD.XR.bind_bad, VD.bOf, VD.bNot, VD.bOr, VD.bAnd, VD.opAdd, VD.opSub, VD.opMul, VD.opMod, VD.opNeg, VD.opDiv, VD.opPow, VD.opLt, VD.opLe, VD.opGt, VD.opGe, VD.opIs, VD.opIsNot, VD.isNon, VD.opIsi, VD.isTy, VD.opRev, VD.cLen, VD.cList, VD.cTuple, VD.cInt, VD.eI, List.length_cons, List.length_nil, List.length_map, List.map_cons, List.map_nil, List.getElem?_cons_zero, List.getElem?_cons_succ, List.set_cons_zero, List.set_cons_succ, List.replicate_succ, List.replicate_zero, List.cons_append, List.nil_append, Nat.reduceSub, Nat.reduceAdd, Nat.reduceLeDiff, Nat.reduceLT, Nat.reduceEqDiff, Nat.reduceMul, Bool.not_true, Bool.not_false, if_true, if_false, ite_true, ite_false, reduceIte, Bool.false_eq_true, reduceCtorEq, VD.LIM, VD.noX, is_name_eq d (hs d hd)])
    rw [hb, List.map_map]
    rw [List.map_map] at this
    exact this
  have ha := is_asc_eq l hl
  have e : l.all okName = bs.all id := by rw [hb, List.all_map]; rfl
  rw [e]
  cases q : bs.all id with
  | true => simp only [m_are_names, b_are_names, VD.run, VD.begin0, VD.sSeq, VD.Out.thn, VD.sIf, VD.got_ok, VD.got_ex, VD.got_bad, VD.sRet, VD.sRetV, VD.sSet, VD.setB, VD.sDrop, VD.sFz, VD.fz1, VD.sApp, VD.sRev, VD.sNext, VD.sRaise, VD.sAug, VD.sFor, VD.sTry, VD.clr, VD.oE, VD.eFz, VD.frz, VD.oOp, VD.oUn, VD.oCall, VD.oCallN, VD.oMethL, VD.oSl, VD.pNone, VD.pSome, VD.aCons, VD.aNil, VD.eLook, VD.eVar, VD.eC, VD.eAnd, VD.eOr, VD.eNot, VD.eIf, VD.oChain, VD.oLst, VD.oTup, VD.oLc, VD.bYes, VD.nName, VD.nTup, VD.nCons, VD.nNil, VD.wList, VD.wStr, VD.wRange1, VD.wZip, VD.wipeB, VD.XR.bind_ok, VD.XR.bind_ex, VD.XR.bind_bad, VD.bOf, VD.bNot, VD.bOr, VD.bAnd, VD.opAdd, VD.opSub, VD.opMul, VD.opMod, VD.opNeg, VD.opDiv, VD.opPow, VD.opLt, VD.opLe, VD.opGt, VD.opGe, VD.opIs, VD.opIsNot, VD.isNon, VD.opIsi, VD.isTy, VD.opRev, VD.cLen, VD.cList, VD.cTuple, VD.cInt, VD.eI, List.length_cons, List.length_nil, List.length_map, List.map_cons, List.map_nil, List.getElem?_cons_zero, List.getElem?_cons_succ, List.set_cons_zero, List.set_cons_succ, List.replicate_succ, List.replicate_zero, List.cons_append, List.nil_append, Nat.reduceSub, Nat.reduceAdd, Nat.reduceLeDiff, Nat.reduceLT, Nat.reduceEqDiff, Nat.reduceMul, Bool.not_true, Bool.not_false, if_true, if_false, ite_true, ite_false, reduceIte, Bool.false_eq_true, reduceCtorEq, VD.LIM, VD.noX, DS, hc, cAll_bl, q, ha, Bool.true_and]
  | false => simp only [m_are_names, b_are_names, VD.run, VD.begin0, VD.sSeq, VD.Out.thn, VD.sIf, VD.got_ok, VD.got_ex, VD.got_bad, VD.sRet, VD.sRetV, VD.sSet, VD.setB, VD.sDrop, VD.sFz, VD.fz1, VD.sApp, VD.sRev, VD.sNext, VD.sRaise, VD.sAug, VD.sFor, VD.sTry, VD.clr, VD.oE, VD.eFz, VD.frz, VD.oOp, VD.oUn, VD.oCall, VD.oCallN, VD.oMethL, VD.oSl, VD.pNone, VD.pSome, VD.aCons, VD.aNil, VD.eLook, VD.eVar, VD.eC, VD.eAnd, VD.eOr, VD.eNot, VD.eIf, VD.oChain, VD.oLst, VD.oTup, VD.oLc, VD.bYes, VD.nName, VD.nTup, VD.nCons, VD.nNil, VD.wList, VD.wStr, VD.wRange1, VD.wZip, VD.wipeB, VD.XR.bind_ok, VD.XR.bind_ex, VD.XR.bind_bad, VD.bOf, VD.bNot, VD.bOr, VD.bAnd, VD.opAdd, VD.opSub, VD.opMul, VD.opMod, VD.opNeg, VD.opDiv, VD.opPow, VD.opLt, VD.opLe, VD.opGt, VD.opGe, VD.opIs, VD.opIsNot, VD.isNon, VD.opIsi, VD.isTy, VD.opRev, VD.cLen, VD.cList, VD.cTuple, VD.cInt, VD.eI, List.length_cons, List.length_nil, List.length_map, List.map_cons, List.map_nil, List.getElem?_cons_zero, List.getElem?_cons_succ, List.set_cons_zero, List.set_cons_succ, List.replicate_succ, List.replicate_zero, List.cons_append, List.nil_append, Nat.reduceSub, Nat.reduceAdd, Nat.reduceLeDiff, Nat.reduceLT, Nat.reduceEqDiff, Nat.reduceMul, Bool.not_true, Bool.not_false, if_true, if_false, ite_true, ite_false, reduceIte, Bool.false_eq_true, reduceCtorEq, VD.LIM, VD.noX, DS, hc, cAll_bl, q, Bool.false_and]
def areP (l : List Str) : Bool := l.all okName && (ascB l && (decide (1 ≤ l.length) && decide (l.length ≤ 40)))
theorem are_places_eq (l : List Str) (hl : l.length ≤ 100000) (hs : Short l) : m_are_places [DS l] = OB (areP l) := by
  have h := are_names_eq l hl hs
  have e1 : decide ((1 : Int) ≤ (l.length : Int)) = decide (1 ≤ l.length) := by congr 1; apply propext; omega
  have e2 : decide ((l.length : Int) ≤ 40) = decide (l.length ≤ 40) := by congr 1; apply propext; omega
  unfold areP
  rw [← Bool.and_assoc]
  cases q : (l.all okName && ascB l) with
  | false => simp only [m_are_places, b_are_places, VD.run, VD.begin0, VD.sSeq, VD.Out.thn, VD.sIf, VD.got_ok, VD.got_ex, VD.got_bad, VD.sRet, VD.sRetV, VD.sSet, VD.setB, VD.sDrop, VD.sFz, VD.fz1, VD.sApp, VD.sRev, VD.sNext, VD.sRaise, VD.sAug, VD.sFor, VD.sTry, VD.clr, VD.oE, VD.eFz, VD.frz, VD.oOp, VD.oUn, VD.oCall, VD.oCallN, VD.oMethL, VD.oSl, VD.pNone, VD.pSome, VD.aCons, VD.aNil, VD.eLook, VD.eVar, VD.eC, VD.eAnd, VD.eOr, VD.eNot, VD.eIf, VD.oChain, VD.oLst, VD.oTup, VD.oLc, VD.bYes, VD.nName, VD.nTup, VD.nCons, VD.nNil, VD.wList, VD.wStr, VD.wRange1, VD.wZip, VD.wipeB, VD.XR.bind_ok, VD.XR.bind_ex, VD.XR.bind_bad, VD.bOf, VD.bNot, VD.bOr, VD.bAnd, VD.opAdd, VD.opSub, VD.opMul, VD.opMod, VD.opNeg, VD.opDiv, VD.opPow, VD.opLt, VD.opLe, VD.opGt, VD.opGe, VD.opIs, VD.opIsNot, VD.isNon, VD.opIsi, VD.isTy, VD.opRev, VD.cLen, VD.cList, VD.cTuple, VD.cInt, VD.eI, List.length_cons, List.length_nil, List.length_map, List.map_cons, List.map_nil, List.getElem?_cons_zero, List.getElem?_cons_succ, List.set_cons_zero, List.set_cons_succ, List.replicate_succ, List.replicate_zero, List.cons_append, List.nil_append, Nat.reduceSub, Nat.reduceAdd, Nat.reduceLeDiff, Nat.reduceLT, Nat.reduceEqDiff, Nat.reduceMul, Bool.not_true, Bool.not_false, if_true, if_false, ite_true, ite_false, reduceIte, Bool.false_eq_true, reduceCtorEq, VD.LIM, VD.noX, h, q, Bool.false_and]
  | true =>
    by_cases h1 : 1 ≤ l.length
    · simp only [m_are_places, b_are_places, VD.run, VD.begin0, VD.sSeq, VD.Out.thn, VD.sIf, VD.got_ok, VD.got_ex, VD.got_bad, VD.sRet, VD.sRetV, VD.sSet, VD.setB, VD.sDrop, VD.sFz, VD.fz1, VD.sApp, VD.sRev, VD.sNext, VD.sRaise, VD.sAug, VD.sFor, VD.sTry, VD.clr, VD.oE, VD.eFz, VD.frz, VD.oOp, VD.oUn, VD.oCall, VD.oCallN, VD.oMethL, VD.oSl, VD.pNone, VD.pSome, VD.aCons, VD.aNil, VD.eLook, VD.eVar, VD.eC, VD.eAnd, VD.eOr, VD.eNot, VD.eIf, VD.oChain, VD.oLst, VD.oTup, VD.oLc, VD.bYes, VD.nName, VD.nTup, VD.nCons, VD.nNil, VD.wList, VD.wStr, VD.wRange1, VD.wZip, VD.wipeB, VD.XR.bind_ok, VD.XR.bind_ex, VD.XR.bind_bad, VD.bOf, VD.bNot, VD.bOr, VD.bAnd, VD.opAdd, VD.opSub, VD.opMul, VD.opMod, VD.opNeg, VD.opDiv, VD.opPow, VD.opLt, VD.opLe, VD.opGt, VD.opGe, VD.opIs, VD.opIsNot, VD.isNon, VD.opIsi, VD.isTy, VD.opRev, VD.cLen, VD.cList, VD.cTuple, VD.cInt, VD.eI, List.length_cons, List.length_nil, List.length_map, List.map_cons, List.map_nil, List.getElem?_cons_zero, List.getElem?_cons_succ, List.set_cons_zero, List.set_cons_succ, List.replicate_succ, List.replicate_zero, List.cons_append, List.nil_append, Nat.reduceSub, Nat.reduceAdd, Nat.reduceLeDiff, Nat.reduceLT, Nat.reduceEqDiff, Nat.reduceMul, Bool.not_true, Bool.not_false, if_true, if_false, ite_true, ite_false, reduceIte, Bool.false_eq_true, reduceCtorEq, VD.LIM, VD.noX, h, q, DS, e1, e2, decide_eq_true h1, Bool.true_and]
    · simp only [m_are_places, b_are_places, VD.run, VD.begin0, VD.sSeq, VD.Out.thn, VD.sIf, VD.got_ok, VD.got_ex, VD.got_bad, VD.sRet, VD.sRetV, VD.sSet, VD.setB, VD.sDrop, VD.sFz, VD.fz1, VD.sApp, VD.sRev, VD.sNext, VD.sRaise, VD.sAug, VD.sFor, VD.sTry, VD.clr, VD.oE, VD.eFz, VD.frz, VD.oOp, VD.oUn, VD.oCall, VD.oCallN, VD.oMethL, VD.oSl, VD.pNone, VD.pSome, VD.aCons, VD.aNil, VD.eLook, VD.eVar, VD.eC, VD.eAnd, VD.eOr, VD.eNot, VD.eIf, VD.oChain, VD.oLst, VD.oTup, VD.oLc, VD.bYes, VD.nName, VD.nTup, VD.nCons, VD.nNil, VD.wList, VD.wStr, VD.wRange1, VD.wZip, VD.wipeB, VD.XR.bind_ok, VD.XR.bind_ex, VD.XR.bind_bad, VD.bOf, VD.bNot, VD.bOr, VD.bAnd, VD.opAdd, VD.opSub, VD.opMul, VD.opMod, VD.opNeg, VD.opDiv, VD.opPow, VD.opLt, VD.opLe, VD.opGt, VD.opGe, VD.opIs, VD.opIsNot, VD.isNon, VD.opIsi, VD.isTy, VD.opRev, VD.cLen, VD.cList, VD.cTuple, VD.cInt, VD.eI, List.length_cons, List.length_nil, List.length_map, List.map_cons, List.map_nil, List.getElem?_cons_zero, List.getElem?_cons_succ, List.set_cons_zero, List.set_cons_succ, List.replicate_succ, List.replicate_zero, List.cons_append, List.nil_append, Nat.reduceSub, Nat.reduceAdd, Nat.reduceLeDiff, Nat.reduceLT, Nat.reduceEqDiff, Nat.reduceMul, Bool.not_true, Bool.not_false, if_true, if_false, ite_true, ite_false, reduceIte, Bool.false_eq_true, reduceCtorEq, VD.LIM, VD.noX, h, q, DS, e1, e2, decide_eq_false h1, Bool.true_and, Bool.false_and]
/-- what check_places lets pass -/
def okP (l : List Str) : Bool := areP l && decide (2 ≤ l.length)
abbrev NO : XR B := .ex (Str.ofString "BadRow") none
theorem check_places_eq (l : List Str) (hl : l.length ≤ 100000) (hs : Short l) : m_check_places [DS l] = if okP l = true then .ok (.d .non) else NO := by
  have h := are_places_eq l hl hs
  have e1 : decide ((l.length : Int) < 2) = !decide (2 ≤ l.length) := by
    by_cases g : 2 ≤ l.length
    · rw [decide_eq_true g]; exact decide_eq_false (by omega)
    · rw [decide_eq_false g]; exact decide_eq_true (by omega)
  unfold okP
  cases q : areP l with
  | false => simp only [m_check_places, b_check_places, VD.run, VD.begin0, VD.sSeq, VD.Out.thn, VD.sIf, VD.got_ok, VD.got_ex, VD.got_bad, VD.sRet, VD.sRetV, VD.sSet, VD.setB, VD.sDrop, VD.sFz, VD.fz1, VD.sApp, VD.sRev, VD.sNext, VD.sRaise, VD.sAug, VD.sFor, VD.sTry, VD.clr, VD.oE, VD.eFz, VD.frz, VD.oOp, VD.oUn, VD.oCall, VD.oCallN, VD.oMethL, VD.oSl, VD.pNone, VD.pSome, VD.aCons, VD.aNil, VD.eLook, VD.eVar, VD.eC, VD.eAnd, VD.eOr, VD.eNot, VD.eIf, VD.oChain, VD.oLst, VD.oTup, VD.oLc, VD.bYes, VD.nName, VD.nTup, VD.nCons, VD.nNil, VD.wList, VD.wStr, VD.wRange1, VD.wZip, VD.wipeB, VD.XR.bind_ok, VD.XR.bind_ex, VD.XR.bind_bad, VD.bOf, VD.bNot, VD.bOr, VD.bAnd, VD.opAdd, VD.opSub, VD.opMul, VD.opMod, VD.opNeg, VD.opDiv, VD.opPow, VD.opLt, VD.opLe, VD.opGt, VD.opGe, VD.opIs, VD.opIsNot, VD.isNon, VD.opIsi, VD.isTy, VD.opRev, VD.cLen, VD.cList, VD.cTuple, VD.cInt, VD.eI, List.length_cons, List.length_nil, List.length_map, List.map_cons, List.map_nil, List.getElem?_cons_zero, List.getElem?_cons_succ, List.set_cons_zero, List.set_cons_succ, List.replicate_succ, List.replicate_zero, List.cons_append, List.nil_append, Nat.reduceSub, Nat.reduceAdd, Nat.reduceLeDiff, Nat.reduceLT, Nat.reduceEqDiff, Nat.reduceMul, Bool.not_true, Bool.not_false, if_true, if_false, ite_true, ite_false, reduceIte, Bool.false_eq_true, reduceCtorEq, VD.LIM, VD.noX, h, q, Bool.false_and]
  | true => cases q2 : decide (2 ≤ l.length) with
    | true => simp only [m_check_places, b_check_places, VD.run, VD.begin0, VD.sSeq, VD.Out.thn, VD.sIf, VD.got_ok, VD.got_ex, VD.got_bad, VD.sRet, VD.sRetV, VD.sSet, VD.setB, VD.sDrop, VD.sFz, VD.fz1, VD.sApp, VD.sRev, VD.sNext, VD.sRaise, VD.sAug, VD.sFor, VD.sTry, VD.clr, VD.oE, VD.eFz, VD.frz, VD.oOp, VD.oUn, VD.oCall, VD.oCallN, VD.oMethL, VD.oSl, VD.pNone, VD.pSome, VD.aCons, VD.aNil, VD.eLook, VD.eVar, VD.eC, VD.eAnd, VD.eOr, VD.eNot, VD.eIf, VD.oChain, VD.oLst, VD.oTup, VD.oLc, VD.bYes, VD.nName, VD.nTup, VD.nCons, VD.nNil, VD.wList, VD.wStr, VD.wRange1, VD.wZip, VD.wipeB, VD.XR.bind_ok, VD.XR.bind_ex, VD.XR.bind_bad, VD.bOf, VD.bNot, VD.bOr, VD.bAnd, VD.opAdd, VD.opSub, VD.opMul, VD.opMod, VD.opNeg, VD.opDiv, VD.opPow, VD.opLt, VD.opLe, VD.opGt, VD.opGe, VD.opIs, VD.opIsNot, VD.isNon, VD.opIsi, VD.isTy, VD.opRev, VD.cLen, VD.cList, VD.cTuple, VD.cInt, VD.eI, List.length_cons, List.length_nil, List.length_map, List.map_cons, List.map_nil, List.getElem?_cons_zero, List.getElem?_cons_succ, List.set_cons_zero, List.set_cons_succ, List.replicate_succ, List.replicate_zero, List.cons_append, List.nil_append, Nat.reduceSub, Nat.reduceAdd, Nat.reduceLeDiff, Nat.reduceLT, Nat.reduceEqDiff, Nat.reduceMul, Bool.not_true, Bool.not_false, if_true, if_false, ite_true, ite_false, reduceIte, Bool.false_eq_true, reduceCtorEq, VD.LIM, VD.noX, h, q, DS, e1, q2, Bool.true_and]
    | false => simp only [m_check_places, b_check_places, VD.run, VD.begin0, VD.sSeq, VD.Out.thn, VD.sIf, VD.got_ok, VD.got_ex, VD.got_bad, VD.sRet, VD.sRetV, VD.sSet, VD.setB, VD.sDrop, VD.sFz, VD.fz1, VD.sApp, VD.sRev, VD.sNext, VD.sRaise, VD.sAug, VD.sFor, VD.sTry, VD.clr, VD.oE, VD.eFz, VD.frz, VD.oOp, VD.oUn, VD.oCall, VD.oCallN, VD.oMethL, VD.oSl, VD.pNone, VD.pSome, VD.aCons, VD.aNil, VD.eLook, VD.eVar, VD.eC, VD.eAnd, VD.eOr, VD.eNot, VD.eIf, VD.oChain, VD.oLst, VD.oTup, VD.oLc, VD.bYes, VD.nName, VD.nTup, VD.nCons, VD.nNil, VD.wList, VD.wStr, VD.wRange1, VD.wZip, VD.wipeB, VD.XR.bind_ok, VD.XR.bind_ex, VD.XR.bind_bad, VD.bOf, VD.bNot, VD.bOr, VD.bAnd, VD.opAdd, VD.opSub, VD.opMul, VD.opMod, VD.opNeg, VD.opDiv, VD.opPow, VD.opLt, VD.opLe, VD.opGt, VD.opGe, VD.opIs, VD.opIsNot, VD.isNon, VD.opIsi, VD.isTy, VD.opRev, VD.cLen, VD.cList, VD.cTuple, VD.cInt, VD.eI, List.length_cons, List.length_nil, List.length_map, List.map_cons, List.map_nil, List.getElem?_cons_zero, List.getElem?_cons_succ, List.set_cons_zero, List.set_cons_succ, List.replicate_succ, List.replicate_zero, List.cons_append, List.nil_append, Nat.reduceSub, Nat.reduceAdd, Nat.reduceLeDiff, Nat.reduceLT, Nat.reduceEqDiff, Nat.reduceMul, Bool.not_true, Bool.not_false, if_true, if_false, ite_true, ite_false, reduceIte, Bool.false_eq_true, reduceCtorEq, VD.LIM, VD.noX, h, q, DS, e1, q2, Bool.true_and]
theorem check_non : m_check_places [.non] = NO := by
  simp only [m_check_places, b_check_places, m_are_places, b_are_places, m_are_names, b_are_names, VD.run, VD.begin0, VD.sSeq, VD.Out.thn, VD.sIf, VD.got_ok, VD.got_ex, VD.got_bad, VD.sRet, VD.sRetV, VD.sSet, VD.setB, VD.sDrop, VD.sFz, VD.fz1, VD.sApp, VD.sRev, VD.sNext, VD.sRaise, VD.sAug, VD.sFor, VD.sTry, VD.clr, VD.oE, VD.eFz, VD.frz, VD.oOp, VD.oUn, VD.oCall, VD.oCallN, VD.oMethL, VD.oSl, VD.pNone, VD.pSome, VD.aCons, VD.aNil, VD.eLook, VD.eVar, VD.eC, VD.eAnd, VD.eOr, VD.eNot, VD.eIf, VD.oChain, VD.oLst, VD.oTup, VD.oLc, VD.bYes, VD.nName, VD.nTup, VD.nCons, VD.nNil, VD.wList, VD.wStr, VD.wRange1, VD.wZip, VD.wipeB, VD.XR.bind_ok, VD.XR.bind_ex, VD.XR.bind_bad, VD.bOf, VD.bNot, VD.bOr, VD.bAnd, VD.opAdd, VD.opSub, VD.opMul, VD.opMod, VD.opNeg, VD.opDiv, VD.opPow, VD.opLt, VD.opLe, VD.opGt, VD.opGe, VD.opIs, VD.opIsNot, VD.isNon, VD.opIsi, VD.isTy, VD.opRev, VD.cLen, VD.cList, VD.cTuple, VD.cInt, VD.eI, List.length_cons, List.length_nil, List.length_map, List.map_cons, List.map_nil, List.getElem?_cons_zero, List.getElem?_cons_succ, List.set_cons_zero, List.set_cons_succ, List.replicate_succ, List.replicate_zero, List.cons_append, List.nil_append, Nat.reduceSub, Nat.reduceAdd, Nat.reduceLeDiff, Nat.reduceLT, Nat.reduceEqDiff, Nat.reduceMul, Bool.not_true, Bool.not_false, if_true, if_false, ite_true, ite_false, reduceIte, Bool.false_eq_true, reduceCtorEq, VD.LIM, VD.noX]
theorem check_tup (xs : List D) : m_check_places [.tup xs] = NO := by
  simp only [m_check_places, b_check_places, m_are_places, b_are_places, m_are_names, b_are_names, VD.run, VD.begin0, VD.sSeq, VD.Out.thn, VD.sIf, VD.got_ok, VD.got_ex, VD.got_bad, VD.sRet, VD.sRetV, VD.sSet, VD.setB, VD.sDrop, VD.sFz, VD.fz1, VD.sApp, VD.sRev, VD.sNext, VD.sRaise, VD.sAug, VD.sFor, VD.sTry, VD.clr, VD.oE, VD.eFz, VD.frz, VD.oOp, VD.oUn, VD.oCall, VD.oCallN, VD.oMethL, VD.oSl, VD.pNone, VD.pSome, VD.aCons, VD.aNil, VD.eLook, VD.eVar, VD.eC, VD.eAnd, VD.eOr, VD.eNot, VD.eIf, VD.oChain, VD.oLst, VD.oTup, VD.oLc, VD.bYes, VD.nName, VD.nTup, VD.nCons, VD.nNil, VD.wList, VD.wStr, VD.wRange1, VD.wZip, VD.wipeB, VD.XR.bind_ok, VD.XR.bind_ex, VD.XR.bind_bad, VD.bOf, VD.bNot, VD.bOr, VD.bAnd, VD.opAdd, VD.opSub, VD.opMul, VD.opMod, VD.opNeg, VD.opDiv, VD.opPow, VD.opLt, VD.opLe, VD.opGt, VD.opGe, VD.opIs, VD.opIsNot, VD.isNon, VD.opIsi, VD.isTy, VD.opRev, VD.cLen, VD.cList, VD.cTuple, VD.cInt, VD.eI, List.length_cons, List.length_nil, List.length_map, List.map_cons, List.map_nil, List.getElem?_cons_zero, List.getElem?_cons_succ, List.set_cons_zero, List.set_cons_succ, List.replicate_succ, List.replicate_zero, List.cons_append, List.nil_append, Nat.reduceSub, Nat.reduceAdd, Nat.reduceLeDiff, Nat.reduceLT, Nat.reduceEqDiff, Nat.reduceMul, Bool.not_true, Bool.not_false, if_true, if_false, ite_true, ite_false, reduceIte, Bool.false_eq_true, reduceCtorEq, VD.LIM, VD.noX]
/-! ### rows -/
def memD (ps : List Str) : D → Bool
  | .str s => decide (s ∈ ps)
  | _ => false
def rowB (ps : List Str) : D → Bool
  | .lst xs => decide (xs.length + 2 = ps.length) && xs.all (memD ps)
  | _ => false
theorem is_row_lst (ps : List Str) (xs : List D) (h2 : 2 ≤ ps.length) (hl : xs.length ≤ 100000) (hx : ∀ x, x ∈ xs → (∃ s, x = .str s) ∨ x = .non) : m_is_row [DS ps, .lst xs] = OB (rowB ps (.lst xs)) := by
  obtain ⟨bs, hb⟩ : ∃ bs, bs = xs.map (memD ps) := ⟨_, rfl⟩
  have hc : C_is_row_1 [.d (DS ps), .d (.lst xs), .nil] = .ok (.own (.lst (bs.map .bl))) := by
    have := oLc_map (i := wList (eLook 1)) (g := nName 2) (e := E_is_row_1) (vs := [2]) (ρ := [.d (DS ps), .d (.lst xs), .nil]) xs (fun x => .bl (memD ps x)) rfl hl (by
      intro x hm
      refine ⟨_, rfl, ?_⟩
      rcases hx x hm with ⟨s, rfl⟩ | rfl
      · simp only [E_is_row_1, VD.run, VD.begin0, VD.sSeq, VD.Out.thn, VD.sIf, VD.got_ok, VD.got_ex, VD.got_bad, VD.sRet, VD.sRetV, VD.sSet, VD.setB, VD.sDrop, VD.sFz, VD.fz1, VD.sApp, VD.sRev, VD.sNext, VD.sRaise, VD.sAug, VD.sFor, VD.sTry, VD.clr, VD.oE, VD.eFz, VD.frz, VD.oOp, VD.oUn, VD.oCall, VD.oCallN, VD.oMethL, VD.oSl, VD.pNone, VD.pSome, VD.aCons, VD.aNil, VD.eLook, VD.eVar, VD.eC, VD.eAnd, VD.eOr, VD.eNot, VD.eIf, VD.oChain, VD.oLst, VD.oTup, VD.oLc, VD.bYes, VD.nName, VD.nTup, VD.nCons, VD.nNil, VD.wList, VD.wStr, VD.wRange1, VD.wZip, VD.wipeB, VD.XR.bind_ok, VD.XR.bind_ex, VD.XR.bind_bad, VD.bOf, VD.bNot, VD.bOr, VD.bAnd, VD.opAdd, VD.opSub, VD.opMul, VD.opMod, VD.opNeg, VD.opDiv, VD.opPow, VD.opLt, VD.opLe, VD.opGt, VD.opGe, VD.opIs, VD.opIsNot, VD.isNon, VD.opIsi, VD.isTy, VD.opRev, VD.cLen, VD.cList, VD.cTuple, VD.cInt, VD.eI, List.length_cons, List.length_nil, List.length_map, List.map_cons, List.map_nil, List.getElem?_cons_zero, List.getElem?_cons_succ, List.set_cons_zero, List.set_cons_succ, List.replicate_succ, List.replicate_zero, List.cons_append, List.nil_append, Nat.reduceSub, Nat.reduceAdd, Nat.reduceLeDiff, Nat.reduceLT, Nat.reduceEqDiff, Nat.reduceMul, Bool.not_true, Bool.not_false, if_true, if_false, ite_true, ite_false, reduceIte, Bool.false_eq_true, reduceCtorEq, VD.LIM, VD.noX, opIn_DS, memD]
      · simp only [E_is_row_1, VD.run, VD.begin0, VD.sSeq, VD.Out.thn, VD.sIf, VD.got_ok, VD.got_ex, VD.got_bad, VD.sRet, VD.sRetV, VD.sSet, VD.setB, VD.sDrop, VD.sFz, VD.fz1, VD.sApp, VD.sRev, VD.sNext, VD.sRaise, VD.sAug, VD.sFor, VD.sTry, VD.clr, VD.oE, VD.eFz, VD.frz, VD.oOp, VD.oUn, VD.oCall, VD.oCallN, VD.oMethL, VD.oSl, VD.pNone, VD.pSome, VD.aCons, VD.aNil, VD.eLook, VD.eVar, VD.eC, VD.eAnd, VD.eOr, VD.eNot, VD.eIf, VD.oChain, VD.oLst, VD.oTup, VD.oLc, VD.bYes, VD.nName, VD.nTup, VD.nCons, VD.nNil, VD.wList, VD.wStr, VD.wRange1, VD.wZip, VD.wipeB, VD.XR.bind_ok, VD.XR.bind_ex, VD.XR.bind_bad, VD.bOf, VD.bNot, VD.bOr, VD.bAnd, VD.opAdd, VD.opSub, VD.opMul, VD.opMod, VD.opNeg, VD.opDiv, VD.opPow, VD.opLt, VD.opLe, VD.opGt, VD.opGe, VD.opIs, VD.opIsNot, VD.isNon, VD.opIsi, VD.isTy, VD.opRev, VD.cLen, VD.cList, VD.cTuple, VD.cInt, VD.eI, List.length_cons, List.length_nil, List.length_map, List.map_cons, List.map_nil, List.getElem?_cons_zero, List.getElem?_cons_succ, List.set_cons_zero, List.set_cons_succ, List.replicate_succ, List.replicate_zero, List.cons_append, List.nil_append, Nat.reduceSub, Nat.reduceAdd, Nat.reduceLeDiff, Nat.reduceLT, Nat.reduceEqDiff, Nat.reduceMul, Bool.not_true, Bool.not_false, if_true, if_false, ite_true, ite_false, reduceIte, Bool.false_eq_true, reduceCtorEq, VD.LIM, VD.noX, memD])
    rw [hb, List.map_map]
    exact this
  have e : xs.all (memD ps) = bs.all id := by rw [hb, List.all_map]; rfl
  have e1 : decide ((xs.length : Int) = (ps.length : Int) - 2) = decide (xs.length + 2 = ps.length) := by congr 1; apply propext; omega
  show _ = OB (decide (xs.length + 2 = ps.length) && xs.all (memD ps))
  rw [e]
  cases q : decide (xs.length + 2 = ps.length) with
  | true => simp only [m_is_row, b_is_row, VD.run, VD.begin0, VD.sSeq, VD.Out.thn, VD.sIf, VD.got_ok, VD.got_ex, VD.got_bad, VD.sRet, VD.sRetV, VD.sSet, VD.setB, VD.sDrop, VD.sFz, VD.fz1, VD.sApp, VD.sRev, VD.sNext, VD.sRaise, VD.sAug, VD.sFor, VD.sTry, VD.clr, VD.oE, VD.eFz, VD.frz, VD.oOp, VD.oUn, VD.oCall, VD.oCallN, VD.oMethL, VD.oSl, VD.pNone, VD.pSome, VD.aCons, VD.aNil, VD.eLook, VD.eVar, VD.eC, VD.eAnd, VD.eOr, VD.eNot, VD.eIf, VD.oChain, VD.oLst, VD.oTup, VD.oLc, VD.bYes, VD.nName, VD.nTup, VD.nCons, VD.nNil, VD.wList, VD.wStr, VD.wRange1, VD.wZip, VD.wipeB, VD.XR.bind_ok, VD.XR.bind_ex, VD.XR.bind_bad, VD.bOf, VD.bNot, VD.bOr, VD.bAnd, VD.opAdd, VD.opSub, VD.opMul, VD.opMod, VD.opNeg, VD.opDiv, VD.opPow, VD.opLt, VD.opLe, VD.opGt, VD.opGe, VD.opIs, VD.opIsNot, VD.isNon, VD.opIsi, VD.isTy, VD.opRev, VD.cLen, VD.cList, VD.cTuple, VD.cInt, VD.eI, List.length_cons, List.length_nil, List.length_map, List.map_cons, List.map_nil, List.getElem?_cons_zero, List.getElem?_cons_succ, List.set_cons_zero, List.set_cons_succ, List.replicate_succ, List.replicate_zero, List.cons_append, List.nil_append, Nat.reduceSub, Nat.reduceAdd, Nat.reduceLeDiff, Nat.reduceLT, Nat.reduceEqDiff, Nat.reduceMul, Bool.not_true, Bool.not_false, if_true, if_false, ite_true, ite_false, reduceIte, Bool.false_eq_true, reduceCtorEq, VD.LIM, VD.noX, DS, opNe_int, e1, q, hc, cAll_bl, Bool.true_and]
  | false => simp only [m_is_row, b_is_row, VD.run, VD.begin0, VD.sSeq, VD.Out.thn, VD.sIf, VD.got_ok, VD.got_ex, VD.got_bad, VD.sRet, VD.sRetV, VD.sSet, VD.setB, VD.sDrop, VD.sFz, VD.fz1, VD.sApp, VD.sRev, VD.sNext, VD.sRaise, VD.sAug, VD.sFor, VD.sTry, VD.clr, VD.oE, VD.eFz, VD.frz, VD.oOp, VD.oUn, VD.oCall, VD.oCallN, VD.oMethL, VD.oSl, VD.pNone, VD.pSome, VD.aCons, VD.aNil, VD.eLook, VD.eVar, VD.eC, VD.eAnd, VD.eOr, VD.eNot, VD.eIf, VD.oChain, VD.oLst, VD.oTup, VD.oLc, VD.bYes, VD.nName, VD.nTup, VD.nCons, VD.nNil, VD.wList, VD.wStr, VD.wRange1, VD.wZip, VD.wipeB, VD.XR.bind_ok, VD.XR.bind_ex, VD.XR.bind_bad, VD.bOf, VD.bNot, VD.bOr, VD.bAnd, VD.opAdd, VD.opSub, VD.opMul, VD.opMod, VD.opNeg, VD.opDiv, VD.opPow, VD.opLt, VD.opLe, VD.opGt, VD.opGe, VD.opIs, VD.opIsNot, VD.isNon, VD.opIsi, VD.isTy, VD.opRev, VD.cLen, VD.cList, VD.cTuple, VD.cInt, VD.eI, List.length_cons, List.length_nil, List.length_map, List.map_cons, List.map_nil, List.getElem?_cons_zero, List.getElem?_cons_succ, List.set_cons_zero, List.set_cons_succ, List.replicate_succ, List.replicate_zero, List.cons_append, List.nil_append, Nat.reduceSub, Nat.reduceAdd, Nat.reduceLeDiff, Nat.reduceLT, Nat.reduceEqDiff, Nat.reduceMul, Bool.not_true, Bool.not_false, if_true, if_false, ite_true, ite_false, reduceIte, Bool.false_eq_true, reduceCtorEq, VD.LIM, VD.noX, DS, opNe_int, e1, q, Bool.false_and]
theorem is_row_non (p : D) : m_is_row [p, .non] = OB false := by simp only [m_is_row, b_is_row, VD.run, VD.begin0, VD.sSeq, VD.Out.thn, VD.sIf, VD.got_ok, VD.got_ex, VD.got_bad, VD.sRet, VD.sRetV, VD.sSet, VD.setB, VD.sDrop, VD.sFz, VD.fz1, VD.sApp, VD.sRev, VD.sNext, VD.sRaise, VD.sAug, VD.sFor, VD.sTry, VD.clr, VD.oE, VD.eFz, VD.frz, VD.oOp, VD.oUn, VD.oCall, VD.oCallN, VD.oMethL, VD.oSl, VD.pNone, VD.pSome, VD.aCons, VD.aNil, VD.eLook, VD.eVar, VD.eC, VD.eAnd, VD.eOr, VD.eNot, VD.eIf, VD.oChain, VD.oLst, VD.oTup, VD.oLc, VD.bYes, VD.nName, VD.nTup, VD.nCons, VD.nNil, VD.wList, VD.wStr, VD.wRange1, VD.wZip, VD.wipeB, VD.XR.bind_ok, VD.XR.bind_ex, VD.XR.bind_bad, VD.bOf, VD.bNot, VD.bOr, VD.bAnd, VD.opAdd, VD.opSub, VD.opMul, VD.opMod, VD.opNeg, VD.opDiv, VD.opPow, VD.opLt, VD.opLe, VD.opGt, VD.opGe, VD.opIs, VD.opIsNot, VD.isNon, VD.opIsi, VD.isTy, VD.opRev, VD.cLen, VD.cList, VD.cTuple, VD.cInt, VD.eI, List.length_cons, List.length_nil, List.length_map, List.map_cons, List.map_nil, List.getElem?_cons_zero, List.getElem?_cons_succ, List.set_cons_zero, List.set_cons_succ, List.replicate_succ, List.replicate_zero, List.cons_append, List.nil_append, Nat.reduceSub, Nat.reduceAdd, Nat.reduceLeDiff, Nat.reduceLT, Nat.reduceEqDiff, Nat.reduceMul, Bool.not_true, Bool.not_false, if_true, if_false, ite_true, ite_false, reduceIte, Bool.false_eq_true, reduceCtorEq, VD.LIM, VD.noX]
theorem is_row_tup (p : D) (xs : List D) : m_is_row [p, .tup xs] = OB false := by simp only [m_is_row, b_is_row, VD.run, VD.begin0, VD.sSeq, VD.Out.thn, VD.sIf, VD.got_ok, VD.got_ex, VD.got_bad, VD.sRet, VD.sRetV, VD.sSet, VD.setB, VD.sDrop, VD.sFz, VD.fz1, VD.sApp, VD.sRev, VD.sNext, VD.sRaise, VD.sAug, VD.sFor, VD.sTry, VD.clr, VD.oE, VD.eFz, VD.frz, VD.oOp, VD.oUn, VD.oCall, VD.oCallN, VD.oMethL, VD.oSl, VD.pNone, VD.pSome, VD.aCons, VD.aNil, VD.eLook, VD.eVar, VD.eC, VD.eAnd, VD.eOr, VD.eNot, VD.eIf, VD.oChain, VD.oLst, VD.oTup, VD.oLc, VD.bYes, VD.nName, VD.nTup, VD.nCons, VD.nNil, VD.wList, VD.wStr, VD.wRange1, VD.wZip, VD.wipeB, VD.XR.bind_ok, VD.XR.bind_ex, VD.XR.bind_bad, VD.bOf, VD.bNot, VD.bOr, VD.bAnd, VD.opAdd, VD.opSub, VD.opMul, VD.opMod, VD.opNeg, VD.opDiv, VD.opPow, VD.opLt, VD.opLe, VD.opGt, VD.opGe, VD.opIs, VD.opIsNot, VD.isNon, VD.opIsi, VD.isTy, VD.opRev, VD.cLen, VD.cList, VD.cTuple, VD.cInt, VD.eI, List.length_cons, List.length_nil, List.length_map, List.map_cons, List.map_nil, List.getElem?_cons_zero, List.getElem?_cons_succ, List.set_cons_zero, List.set_cons_succ, List.replicate_succ, List.replicate_zero, List.cons_append, List.nil_append, Nat.reduceSub, Nat.reduceAdd, Nat.reduceLeDiff, Nat.reduceLT, Nat.reduceEqDiff, Nat.reduceMul, Bool.not_true, Bool.not_false, if_true, if_false, ite_true, ite_false, reduceIte, Bool.false_eq_true, reduceCtorEq, VD.LIM, VD.noX]
theorem is_row_str (p : D) (s : Str) : m_is_row [p, .str s] = OB false := by simp only [m_is_row, b_is_row, VD.run, VD.begin0, VD.sSeq, VD.Out.thn, VD.sIf, VD.got_ok, VD.got_ex, VD.got_bad, VD.sRet, VD.sRetV, VD.sSet, VD.setB, VD.sDrop, VD.sFz, VD.fz1, VD.sApp, VD.sRev, VD.sNext, VD.sRaise, VD.sAug, VD.sFor, VD.sTry, VD.clr, VD.oE, VD.eFz, VD.frz, VD.oOp, VD.oUn, VD.oCall, VD.oCallN, VD.oMethL, VD.oSl, VD.pNone, VD.pSome, VD.aCons, VD.aNil, VD.eLook, VD.eVar, VD.eC, VD.eAnd, VD.eOr, VD.eNot, VD.eIf, VD.oChain, VD.oLst, VD.oTup, VD.oLc, VD.bYes, VD.nName, VD.nTup, VD.nCons, VD.nNil, VD.wList, VD.wStr, VD.wRange1, VD.wZip, VD.wipeB, VD.XR.bind_ok, VD.XR.bind_ex, VD.XR.bind_bad, VD.bOf, VD.bNot, VD.bOr, VD.bAnd, VD.opAdd, VD.opSub, VD.opMul, VD.opMod, VD.opNeg, VD.opDiv, VD.opPow, VD.opLt, VD.opLe, VD.opGt, VD.opGe, VD.opIs, VD.opIsNot, VD.isNon, VD.opIsi, VD.isTy, VD.opRev, VD.cLen, VD.cList, VD.cTuple, VD.cInt, VD.eI, List.length_cons, List.length_nil, List.length_map, List.map_cons, List.map_nil, List.getElem?_cons_zero, List.getElem?_cons_succ, List.set_cons_zero, List.set_cons_succ, List.replicate_succ, List.replicate_zero, List.cons_append, List.nil_append, Nat.reduceSub, Nat.reduceAdd, Nat.reduceLeDiff, Nat.reduceLT, Nat.reduceEqDiff, Nat.reduceMul, Bool.not_true, Bool.not_false, if_true, if_false, ite_true, ite_false, reduceIte, Bool.false_eq_true, reduceCtorEq, VD.LIM, VD.noX]
theorem check_row_bad {p r : D} (h : m_check_places [p] = NO) : m_check_row [p, r] = NO := by
  simp only [m_check_row, b_check_row, VD.run, VD.begin0, VD.sSeq, VD.Out.thn, VD.sIf, VD.got_ok, VD.got_ex, VD.got_bad, VD.sRet, VD.sRetV, VD.sSet, VD.setB, VD.sDrop, VD.sFz, VD.fz1, VD.sApp, VD.sRev, VD.sNext, VD.sRaise, VD.sAug, VD.sFor, VD.sTry, VD.clr, VD.oE, VD.eFz, VD.frz, VD.oOp, VD.oUn, VD.oCall, VD.oCallN, VD.oMethL, VD.oSl, VD.pNone, VD.pSome, VD.aCons, VD.aNil, VD.eLook, VD.eVar, VD.eC, VD.eAnd, VD.eOr, VD.eNot, VD.eIf, VD.oChain, VD.oLst, VD.oTup, VD.oLc, VD.bYes, VD.nName, VD.nTup, VD.nCons, VD.nNil, VD.wList, VD.wStr, VD.wRange1, VD.wZip, VD.wipeB, VD.XR.bind_ok, VD.XR.bind_ex, VD.XR.bind_bad, VD.bOf, VD.bNot, VD.bOr, VD.bAnd, VD.opAdd, VD.opSub, VD.opMul, VD.opMod, VD.opNeg, VD.opDiv, VD.opPow, VD.opLt, VD.opLe, VD.opGt, VD.opGe, VD.opIs, VD.opIsNot, VD.isNon, VD.opIsi, VD.isTy, VD.opRev, VD.cLen, VD.cList, VD.cTuple, VD.cInt, VD.eI, List.length_cons, List.length_nil, List.length_map, List.map_cons, List.map_nil, List.getElem?_cons_zero, List.getElem?_cons_succ, List.set_cons_zero, List.set_cons_succ, List.replicate_succ, List.replicate_zero, List.cons_append, List.nil_append, Nat.reduceSub, Nat.reduceAdd, Nat.reduceLeDiff, Nat.reduceLT, Nat.reduceEqDiff, Nat.reduceMul, Bool.not_true, Bool.not_false, if_true, if_false, ite_true, ite_false, reduceIte, Bool.false_eq_true, reduceCtorEq, VD.LIM, VD.noX, h]
theorem check_row_no {p r : D} (h : m_check_places [p] = .ok (.d .non)) (g : m_is_row [p, r] = OB false) : m_check_row [p, r] = NO := by
  simp only [m_check_row, b_check_row, VD.run, VD.begin0, VD.sSeq, VD.Out.thn, VD.sIf, VD.got_ok, VD.got_ex, VD.got_bad, VD.sRet, VD.sRetV, VD.sSet, VD.setB, VD.sDrop, VD.sFz, VD.fz1, VD.sApp, VD.sRev, VD.sNext, VD.sRaise, VD.sAug, VD.sFor, VD.sTry, VD.clr, VD.oE, VD.eFz, VD.frz, VD.oOp, VD.oUn, VD.oCall, VD.oCallN, VD.oMethL, VD.oSl, VD.pNone, VD.pSome, VD.aCons, VD.aNil, VD.eLook, VD.eVar, VD.eC, VD.eAnd, VD.eOr, VD.eNot, VD.eIf, VD.oChain, VD.oLst, VD.oTup, VD.oLc, VD.bYes, VD.nName, VD.nTup, VD.nCons, VD.nNil, VD.wList, VD.wStr, VD.wRange1, VD.wZip, VD.wipeB, VD.XR.bind_ok, VD.XR.bind_ex, VD.XR.bind_bad, VD.bOf, VD.bNot, VD.bOr, VD.bAnd, VD.opAdd, VD.opSub, VD.opMul, VD.opMod, VD.opNeg, VD.opDiv, VD.opPow, VD.opLt, VD.opLe, VD.opGt, VD.opGe, VD.opIs, VD.opIsNot, VD.isNon, VD.opIsi, VD.isTy, VD.opRev, VD.cLen, VD.cList, VD.cTuple, VD.cInt, VD.eI, List.length_cons, List.length_nil, List.length_map, List.map_cons, List.map_nil, List.getElem?_cons_zero, List.getElem?_cons_succ, List.set_cons_zero, List.set_cons_succ, List.replicate_succ, List.replicate_zero, List.cons_append, List.nil_append, Nat.reduceSub, Nat.reduceAdd, Nat.reduceLeDiff, Nat.reduceLT, Nat.reduceEqDiff, Nat.reduceMul, Bool.not_true, Bool.not_false, if_true, if_false, ite_true, ite_false, reduceIte, Bool.false_eq_true, reduceCtorEq, VD.LIM, VD.noX, h, g]
theorem check_row_ok {p r : D} (h : m_check_places [p] = .ok (.d .non)) (g : m_is_row [p, r] = OB true) : m_check_row [p, r] = .ok (.d .non) := by
  simp only [m_check_row, b_check_row, VD.run, VD.begin0, VD.sSeq, VD.Out.thn, VD.sIf, VD.got_ok, VD.got_ex, VD.got_bad, VD.sRet, VD.sRetV, VD.sSet, VD.setB, VD.sDrop, VD.sFz, VD.fz1, VD.sApp, VD.sRev, VD.sNext, VD.sRaise, VD.sAug, VD.sFor, VD.sTry, VD.clr, VD.oE, VD.eFz, VD.frz, VD.oOp, VD.oUn, VD.oCall, VD.oCallN, VD.oMethL, VD.oSl, VD.pNone, VD.pSome, VD.aCons, VD.aNil, VD.eLook, VD.eVar, VD.eC, VD.eAnd, VD.eOr, VD.eNot, VD.eIf, VD.oChain, VD.oLst, VD.oTup, VD.oLc, VD.bYes, VD.nName, VD.nTup, VD.nCons, VD.nNil, VD.wList, VD.wStr, VD.wRange1, VD.wZip, VD.wipeB, VD.XR.bind_ok, VD.XR.bind_ex, VD.XR.bind_bad, VD.bOf, VD.bNot, VD.bOr, VD.bAnd, VD.opAdd, VD.opSub, VD.opMul, VD.opMod, VD.opNeg, VD.opDiv, VD.opPow, VD.opLt, VD.opLe, VD.opGt, VD.opGe, VD.opIs, VD.opIsNot, VD.isNon, VD.opIsi, VD.isTy, VD.opRev, VD.cLen, VD.cList, VD.cTuple, VD.cInt, VD.eI, List.length_cons, List.length_nil, List.length_map, List.map_cons, List.map_nil, List.getElem?_cons_zero, List.getElem?_cons_succ, List.set_cons_zero, List.set_cons_succ, List.replicate_succ, List.replicate_zero, List.cons_append, List.nil_append, Nat.reduceSub, Nat.reduceAdd, Nat.reduceLeDiff, Nat.reduceLT, Nat.reduceEqDiff, Nat.reduceMul, Bool.not_true, Bool.not_false, if_true, if_false, ite_true, ite_false, reduceIte, Bool.false_eq_true, reduceCtorEq, VD.LIM, VD.noX, h, g]
theorem number_of_bad {p r : D} (h : m_check_row [p, r] = NO) : m_number_of [p, r] = NO := by
  simp only [m_number_of, b_number_of, VD.run, VD.begin0, VD.sSeq, VD.Out.thn, VD.sIf, VD.got_ok, VD.got_ex, VD.got_bad, VD.sRet, VD.sRetV, VD.sSet, VD.setB, VD.sDrop, VD.sFz, VD.fz1, VD.sApp, VD.sRev, VD.sNext, VD.sRaise, VD.sAug, VD.sFor, VD.sTry, VD.clr, VD.oE, VD.eFz, VD.frz, VD.oOp, VD.oUn, VD.oCall, VD.oCallN, VD.oMethL, VD.oSl, VD.pNone, VD.pSome, VD.aCons, VD.aNil, VD.eLook, VD.eVar, VD.eC, VD.eAnd, VD.eOr, VD.eNot, VD.eIf, VD.oChain, VD.oLst, VD.oTup, VD.oLc, VD.bYes, VD.nName, VD.nTup, VD.nCons, VD.nNil, VD.wList, VD.wStr, VD.wRange1, VD.wZip, VD.wipeB, VD.XR.bind_ok, VD.XR.bind_ex, VD.XR.bind_bad, VD.bOf, VD.bNot, VD.bOr, VD.bAnd, VD.opAdd, VD.opSub, VD.opMul, VD.opMod, VD.opNeg, VD.opDiv, VD.opPow, VD.opLt, VD.opLe, VD.opGt, VD.opGe, VD.opIs, VD.opIsNot, VD.isNon, VD.opIsi, VD.isTy, VD.opRev, VD.cLen, VD.cList, VD.cTuple, VD.cInt, VD.eI, List.length_cons, List.length_nil, List.length_map, List.map_cons, List.map_nil, List.getElem?_cons_zero, List.getElem?_cons_succ, List.set_cons_zero, List.set_cons_succ, List.replicate_succ, List.replicate_zero, List.cons_append, List.nil_append, Nat.reduceSub, Nat.reduceAdd, Nat.reduceLeDiff, Nat.reduceLT, Nat.reduceEqDiff, Nat.reduceMul, Bool.not_true, Bool.not_false, if_true, if_false, ite_true, ite_false, reduceIte, Bool.false_eq_true, reduceCtorEq, VD.LIM, VD.noX, h]
theorem row_at_bad {p r : D} (h : m_check_places [p] = NO) : m_row_at [p, r] = NO := by
  simp only [m_row_at, b_row_at, VD.run, VD.begin0, VD.sSeq, VD.Out.thn, VD.sIf, VD.got_ok, VD.got_ex, VD.got_bad, VD.sRet, VD.sRetV, VD.sSet, VD.setB, VD.sDrop, VD.sFz, VD.fz1, VD.sApp, VD.sRev, VD.sNext, VD.sRaise, VD.sAug, VD.sFor, VD.sTry, VD.clr, VD.oE, VD.eFz, VD.frz, VD.oOp, VD.oUn, VD.oCall, VD.oCallN, VD.oMethL, VD.oSl, VD.pNone, VD.pSome, VD.aCons, VD.aNil, VD.eLook, VD.eVar, VD.eC, VD.eAnd, VD.eOr, VD.eNot, VD.eIf, VD.oChain, VD.oLst, VD.oTup, VD.oLc, VD.bYes, VD.nName, VD.nTup, VD.nCons, VD.nNil, VD.wList, VD.wStr, VD.wRange1, VD.wZip, VD.wipeB, VD.XR.bind_ok, VD.XR.bind_ex, VD.XR.bind_bad, VD.bOf, VD.bNot, VD.bOr, VD.bAnd, VD.opAdd, VD.opSub, VD.opMul, VD.opMod, VD.opNeg, VD.opDiv, VD.opPow, VD.opLt, VD.opLe, VD.opGt, VD.opGe, VD.opIs, VD.opIsNot, VD.isNon, VD.opIsi, VD.isTy, VD.opRev, VD.cLen, VD.cList, VD.cTuple, VD.cInt, VD.eI, List.length_cons, List.length_nil, List.length_map, List.map_cons, List.map_nil, List.getElem?_cons_zero, List.getElem?_cons_succ, List.set_cons_zero, List.set_cons_succ, List.replicate_succ, List.replicate_zero, List.cons_append, List.nil_append, Nat.reduceSub, Nat.reduceAdd, Nat.reduceLeDiff, Nat.reduceLT, Nat.reduceEqDiff, Nat.reduceMul, Bool.not_true, Bool.not_false, if_true, if_false, ite_true, ite_false, reduceIte, Bool.false_eq_true, reduceCtorEq, VD.LIM, VD.noX, h]
/-- places and a row of theirs -/
structure Pl (ps : List Str) : Prop where
  ok : okP ps = true
  sh : Short ps
  st : StrOk ps
theorem Pl.parts {ps : List Str} (h : Pl ps) : Asc ps ∧ 2 ≤ ps.length ∧ ps.length ≤ 40 := by
  have o := h.ok
  unfold okP areP at o
  simp only [Bool.and_eq_true, decide_eq_true_eq] at o
  exact ⟨asc_of o.1.2.1, o.2, o.1.2.2.2⟩
theorem Pl.check {ps : List Str} (h : Pl ps) : m_check_places [DS ps] = .ok (.d .non) := by
  rw [check_places_eq ps (by have := h.parts.2.2; omega) h.sh, if_pos h.ok]
structure Rw (ps r : List Str) : Prop where
  len : r.length + 2 = ps.length
  mem : ∀ x, x ∈ r → x ∈ ps
theorem Rw.rowB {ps r : List Str} (h : Rw ps r) : rowB ps (DS r) = true := by
  unfold G.rowB
  simp only [DS, List.length_map]
  rw [decide_eq_true h.len, Bool.true_and, List.all_eq_true]
  intro x hx
  obtain ⟨s, hs, rfl⟩ := List.mem_map.mp hx
  exact decide_eq_true (h.mem s hs)
theorem Rw.check {ps r : List Str} (p : Pl ps) (h : Rw ps r) : m_check_row [DS ps, DS r] = .ok (.d .non) := by
  refine check_row_ok p.check ?_
  rw [is_row_lst ps _ p.parts.2.1 (by have := p.parts.2.2; have := h.len; rw [List.length_map]; omega) (fun x hx => by
    obtain ⟨s, _, rfl⟩ := List.mem_map.mp hx
    exact .inl ⟨s, rfl⟩)]
  rw [show G.rowB ps (.lst (r.map .str)) = true from h.rowB]
theorem getstr {r : List Str} {k : Nat} {x : D} (h : (r.map D.str)[k]? = some x) : ∃ g : k < r.length, x = .str r[k] := by
  rw [List.getElem?_map] at h
  by_cases g : k < r.length
  · refine ⟨g, ?_⟩
    rw [List.getElem?_eq_getElem g] at h
    simpa using h.symm
  · rw [List.getElem?_eq_none (Nat.le_of_not_lt g)] at h
    cases h
theorem numN_take {l r : List Str} {k : Nat} (g : k < r.length) : numN l (r.take (k + 1)) = numN l (r.take k) * l.length + l.idxOf r[k] := by
  rw [List.take_succ_eq_append_getElem g, numN_snoc]
theorem number_of_eq {ps r : List Str} (p : Pl ps) (h : Rw ps r) : m_number_of [DS ps, DS r] = .ok (.d (.int (numN ps r : Nat))) := by
  have hp := p.parts
  obtain ⟨ρ', h1, v, h2⟩ : ∃ ρ', L_number_of_1 [.d (DS ps), .d (DS r), .d (.int 0), .nil] = .nx ρ' ∧ ∃ v, ρ' = [.d (DS ps), .d (DS r), .d (.int (numN ps r : Nat)), v] := by
    obtain ⟨ρ', h1, h2⟩ := sFor_inv (g := nName 3) (b := K_number_of_1) (r.map .str) (fun k ρ => ∃ v, ρ = [.d (DS ps), .d (DS r), .d (.int (numN ps (r.take k) : Nat)), v]) (wList_eq (e := eVar 1) (ρ := [.d (DS ps), .d (DS r), .d (.int 0), .nil]) rfl) ⟨_, rfl⟩ (by
      rintro k x _ hx ⟨v, rfl⟩
      obtain ⟨hk, rfl⟩ := getstr hx
      refine ⟨_, _, rfl, ?_, .d (.str r[k]), rfl⟩
      have e2 : mulB ((numN ps (r.take k) : Nat) : Int) (ps.length : Int) = true := mulB_r (by omega)
      have e3 := mIndex_DS (h.mem _ (List.getElem_mem hk))
      have e4 : ((numN ps (r.take k) : Nat) : Int) * (ps.length : Int) + ((ps.idxOf r[k] : Nat) : Int) = ((numN ps (r.take (k + 1)) : Nat) : Int) := by rw [numN_take hk]; push_cast; rfl
      simp only [K_number_of_1, VD.run, VD.begin0, VD.sSeq, VD.Out.thn, VD.sIf, VD.got_ok, VD.got_ex, VD.got_bad, VD.sRet, VD.sRetV, VD.sSet, VD.setB, VD.sDrop, VD.sFz, VD.fz1, VD.sApp, VD.sRev, VD.sNext, VD.sRaise, VD.sAug, VD.sFor, VD.sTry, VD.clr, VD.oE, VD.eFz, VD.frz, VD.oOp, VD.oUn, VD.oCall, VD.oCallN, VD.oMethL, VD.oSl, VD.pNone, VD.pSome, VD.aCons, VD.aNil, VD.eLook, VD.eVar, VD.eC, VD.eAnd, VD.eOr, VD.eNot, VD.eIf, VD.oChain, VD.oLst, VD.oTup, VD.oLc, VD.bYes, VD.nName, VD.nTup, VD.nCons, VD.nNil, VD.wList, VD.wStr, VD.wRange1, VD.wZip, VD.wipeB, VD.XR.bind_ok, VD.XR.bind_ex, VD.XR.bind_bad, VD.bOf, VD.bNot, VD.bOr, VD.bAnd, VD.opAdd, VD.opSub, VD.opMul, VD.opMod, VD.opNeg, VD.opDiv, VD.opPow, VD.opLt, VD.opLe, VD.opGt, VD.opGe, VD.opIs, VD.opIsNot, VD.isNon, VD.opIsi, VD.isTy, VD.opRev, VD.cLen, VD.cList, VD.cTuple, VD.cInt, VD.eI, List.length_cons, List.length_nil, List.length_map, List.map_cons, List.map_nil, List.getElem?_cons_zero, List.getElem?_cons_succ, List.set_cons_zero, List.set_cons_succ, List.replicate_succ, List.replicate_zero, List.cons_append, List.nil_append, Nat.reduceSub, Nat.reduceAdd, Nat.reduceLeDiff, Nat.reduceLT, Nat.reduceEqDiff, Nat.reduceMul, Bool.not_true, Bool.not_false, if_true, if_false, ite_true, ite_false, reduceIte, Bool.false_eq_true, reduceCtorEq, VD.LIM, VD.noX, DS, e2, e3, e4])
    refine ⟨ρ', h1, ?_⟩
    rw [List.length_map, List.take_of_length_le (Nat.le_refl _)] at h2
    exact h2
  subst h2
  have hc := h.check p
  simp only [m_number_of, b_number_of, VD.run, VD.begin0, VD.sSeq, VD.Out.thn, VD.sIf, VD.got_ok, VD.got_ex, VD.got_bad, VD.sRet, VD.sRetV, VD.sSet, VD.setB, VD.sDrop, VD.sFz, VD.fz1, VD.sApp, VD.sRev, VD.sNext, VD.sRaise, VD.sAug, VD.sFor, VD.sTry, VD.clr, VD.oE, VD.eFz, VD.frz, VD.oOp, VD.oUn, VD.oCall, VD.oCallN, VD.oMethL, VD.oSl, VD.pNone, VD.pSome, VD.aCons, VD.aNil, VD.eLook, VD.eVar, VD.eC, VD.eAnd, VD.eOr, VD.eNot, VD.eIf, VD.oChain, VD.oLst, VD.oTup, VD.oLc, VD.bYes, VD.nName, VD.nTup, VD.nCons, VD.nNil, VD.wList, VD.wStr, VD.wRange1, VD.wZip, VD.wipeB, VD.XR.bind_ok, VD.XR.bind_ex, VD.XR.bind_bad, VD.bOf, VD.bNot, VD.bOr, VD.bAnd, VD.opAdd, VD.opSub, VD.opMul, VD.opMod, VD.opNeg, VD.opDiv, VD.opPow, VD.opLt, VD.opLe, VD.opGt, VD.opGe, VD.opIs, VD.opIsNot, VD.isNon, VD.opIsi, VD.isTy, VD.opRev, VD.cLen, VD.cList, VD.cTuple, VD.cInt, VD.eI, List.length_cons, List.length_nil, List.length_map, List.map_cons, List.map_nil, List.getElem?_cons_zero, List.getElem?_cons_succ, List.set_cons_zero, List.set_cons_succ, List.replicate_succ, List.replicate_zero, List.cons_append, List.nil_append, Nat.reduceSub, Nat.reduceAdd, Nat.reduceLeDiff, Nat.reduceLT, Nat.reduceEqDiff, Nat.reduceMul, Bool.not_true, Bool.not_false, if_true, if_false, ite_true, ite_false, reduceIte, Bool.false_eq_true, reduceCtorEq, VD.LIM, VD.noX, hc, h1]
theorem opIx_nth {l : List Str} {i : Nat} (h : i < l.length) : opIx (DS l) (.int (i : Int)) = .ok (.d (.str (nth l i))) := by rw [opIx_DS h, nth_eq h]
theorem divB_n {n : Nat} (h : 0 < n) (g : n < 2 ^ 250) : divB (n : Int) = true := by
  unfold divB
  refine decide_eq_true ⟨by omega, ?_⟩
  rw [Int.natAbs_natCast]
  exact Nat.lt_trans ((Nat.log2_lt (by omega)).mpr g) (by decide)
theorem pow_small {n e : Nat} (hn : n ≤ 64) (he : e ≤ 40) : n ^ e < 2 ^ 250 := by
  have h1 : n ^ e ≤ 64 ^ e := Nat.pow_le_pow_left hn e
  have h2 : 64 ^ e ≤ 64 ^ 40 := Nat.pow_le_pow_right (by decide) he
  have h3 : (64 : Nat) ^ 40 < 2 ^ 250 := by decide
  omega
theorem revN_len (l : List Str) : ∀ m k, (revN l m k).length = m
  | 0, _ => rfl
  | m + 1, k => by rw [revN, List.length_cons, revN_len l m]
theorem row_at_eq {ps : List Str} (p : Pl ps) (k : Nat) (hk : k < ps.length ^ (ps.length - 2)) : m_row_at [DS ps, .int k] = .ok (.own (DS (rowN ps (ps.length - 2) k))) := by
  obtain ⟨pa, p2, p40⟩ := p.parts
  have em : (ps.length : Int) - 2 = ((ps.length - 2 : Nat) : Int) := by omega
  obtain ⟨ρ', h1, w, v, h2⟩ : ∃ ρ', L_row_at_1 [.d (DS ps), .d (.int k), .d (.int ps.length), .own (.lst []), .d (.int k), .nil] = .nx ρ' ∧ ∃ w v, ρ' = [.d (DS ps), .d (.int k), .d (.int ps.length), .own (.lst ((revN ps (ps.length - 2) k).map .str)), w, v] := by
    obtain ⟨ρ', h1, h2⟩ := sFor_inv (i := wRange1 (eFz (oOp opSub (eLook 2) (eC (.int (2)))))) (g := nName 5) (b := K_row_at_1) (rng 0 (ps.length - 2)) (fun t ρ => ∃ v, ρ = [.d (DS ps), .d (.int k), .d (.int ps.length), .own (.lst ((revN ps t k).map .str)), .d (.int ((k / ps.length ^ t : Nat) : Int)), v]) (range1_eq (ρ := [.d (DS ps), .d (.int k), .d (.int ps.length), .own (.lst []), .d (.int k), .nil]) (ps.length - 2) (j := (ps.length : Int) - 2) rfl em (by omega)) ⟨_, by rw [Nat.pow_zero, Nat.div_one]; rfl⟩ (by
      rintro t x _ hx ⟨v, rfl⟩
      obtain ⟨ht, rfl⟩ := rng_get hx
      refine ⟨_, _, rfl, ?_, .d (.int t), rfl⟩
      have e1 : (((k / ps.length ^ t : Nat) : Int) % (ps.length : Int)) = ((k / ps.length ^ t % ps.length : Nat) : Int) := by rfl
      have e2 := opIx_nth (l := ps) (i := k / ps.length ^ t % ps.length) (Nat.mod_lt _ (by omega))
      have e3 : (0 : Int) < (ps.length : Int) := by omega
      have e4 : divB (ps.length : Int) = true := divB_n (by omega) (Nat.lt_of_le_of_lt p40 (by decide))
      have e5 : (((k / ps.length ^ t : Nat) : Int) / (ps.length : Int)) = ((k / ps.length ^ (t + 1) : Nat) : Int) := by
        rw [Nat.pow_succ, ← Nat.div_div_eq_div_mul]; rfl
      have e6 : (revN ps t k).length < 100000 := by rw [revN_len]; omega
      have e7 : List.map D.str (revN ps t k) ++ [D.str (nth ps (k / ps.length ^ t % ps.length))] = List.map D.str (revN ps (t + 1) k) := by rw [revN_snoc, List.map_append]; rfl
      simp only [K_row_at_1, VD.run, VD.begin0, VD.sSeq, VD.Out.thn, VD.sIf, VD.got_ok, VD.got_ex, VD.got_bad, VD.sRet, VD.sRetV, VD.sSet, VD.setB, VD.sDrop, VD.sFz, VD.fz1, VD.sApp, VD.sRev, VD.sNext, VD.sRaise, VD.sAug, VD.sFor, VD.sTry, VD.clr, VD.oE, VD.eFz, VD.frz, VD.oOp, VD.oUn, VD.oCall, VD.oCallN, VD.oMethL, VD.oSl, VD.pNone, VD.pSome, VD.aCons, VD.aNil, VD.eLook, VD.eVar, VD.eC, VD.eAnd, VD.eOr, VD.eNot, VD.eIf, VD.oChain, VD.oLst, VD.oTup, VD.oLc, VD.bYes, VD.nName, VD.nTup, VD.nCons, VD.nNil, VD.wList, VD.wStr, VD.wRange1, VD.wZip, VD.wipeB, VD.XR.bind_ok, VD.XR.bind_ex, VD.XR.bind_bad, VD.bOf, VD.bNot, VD.bOr, VD.bAnd, VD.opAdd, VD.opSub, VD.opMul, VD.opMod, VD.opNeg, VD.opDiv, VD.opPow, VD.opLt, VD.opLe, VD.opGt, VD.opGe, VD.opIs, VD.opIsNot, VD.isNon, VD.opIsi, VD.isTy, VD.opRev, VD.cLen, VD.cList, VD.cTuple, VD.cInt, VD.eI, List.length_cons, List.length_nil, List.length_map, List.map_cons, List.map_nil, List.getElem?_cons_zero, List.getElem?_cons_succ, List.set_cons_zero, List.set_cons_succ, List.replicate_succ, List.replicate_zero, List.cons_append, List.nil_append, Nat.reduceSub, Nat.reduceAdd, Nat.reduceLeDiff, Nat.reduceLT, Nat.reduceEqDiff, Nat.reduceMul, Bool.not_true, Bool.not_false, if_true, if_false, ite_true, ite_false, reduceIte, Bool.false_eq_true, reduceCtorEq, VD.LIM, VD.noX, e1, e2, e3, e4, e5, e6, e7])
    rw [rng_len] at h2
    exact ⟨ρ', h1, h2.elim fun v h => ⟨_, v, h⟩⟩
  subst h2
  have hc := p.check
  have hm := how_many_eq ps.length p2 (by omega)
  have e1 : decide ((0 : Int) ≤ (k : Int)) = true := decide_eq_true (by omega)
  have e2 : decide ((k : Int) < ((ps.length ^ (ps.length - 2) : Nat) : Int)) = true := decide_eq_true (by omega)
  have e3 : (List.map D.str (revN ps (ps.length - 2) k)).reverse = List.map D.str (rowN ps (ps.length - 2) k) := by unfold rowN; rw [List.map_reverse]
  simp only [m_row_at, b_row_at, VD.run, VD.begin0, VD.sSeq, VD.Out.thn, VD.sIf, VD.got_ok, VD.got_ex, VD.got_bad, VD.sRet, VD.sRetV, VD.sSet, VD.setB, VD.sDrop, VD.sFz, VD.fz1, VD.sApp, VD.sRev, VD.sNext, VD.sRaise, VD.sAug, VD.sFor, VD.sTry, VD.clr, VD.oE, VD.eFz, VD.frz, VD.oOp, VD.oUn, VD.oCall, VD.oCallN, VD.oMethL, VD.oSl, VD.pNone, VD.pSome, VD.aCons, VD.aNil, VD.eLook, VD.eVar, VD.eC, VD.eAnd, VD.eOr, VD.eNot, VD.eIf, VD.oChain, VD.oLst, VD.oTup, VD.oLc, VD.bYes, VD.nName, VD.nTup, VD.nCons, VD.nNil, VD.wList, VD.wStr, VD.wRange1, VD.wZip, VD.wipeB, VD.XR.bind_ok, VD.XR.bind_ex, VD.XR.bind_bad, VD.bOf, VD.bNot, VD.bOr, VD.bAnd, VD.opAdd, VD.opSub, VD.opMul, VD.opMod, VD.opNeg, VD.opDiv, VD.opPow, VD.opLt, VD.opLe, VD.opGt, VD.opGe, VD.opIs, VD.opIsNot, VD.isNon, VD.opIsi, VD.isTy, VD.opRev, VD.cLen, VD.cList, VD.cTuple, VD.cInt, VD.eI, List.length_cons, List.length_nil, List.length_map, List.map_cons, List.map_nil, List.getElem?_cons_zero, List.getElem?_cons_succ, List.set_cons_zero, List.set_cons_succ, List.replicate_succ, List.replicate_zero, List.cons_append, List.nil_append, Nat.reduceSub, Nat.reduceAdd, Nat.reduceLeDiff, Nat.reduceLT, Nat.reduceEqDiff, Nat.reduceMul, Bool.not_true, Bool.not_false, if_true, if_false, ite_true, ite_false, reduceIte, Bool.false_eq_true, reduceCtorEq, VD.LIM, VD.noX, hc, DS, hm, e1, e2, h1, e3]
theorem row_at_none {ps : List Str} (p : Pl ps) (k : Int) (hk : ¬(0 ≤ k ∧ k < ((ps.length ^ (ps.length - 2) : Nat) : Int))) : m_row_at [DS ps, .int k] = .ok (.d .non) := by
  obtain ⟨pa, p2, p40⟩ := p.parts
  have hc := p.check
  have hm := how_many_eq ps.length p2 (by omega)
  by_cases g : 0 ≤ k
  · have g2 : ¬ k < ((ps.length ^ (ps.length - 2) : Nat) : Int) := fun q => hk ⟨g, q⟩
    simp only [m_row_at, b_row_at, VD.run, VD.begin0, VD.sSeq, VD.Out.thn, VD.sIf, VD.got_ok, VD.got_ex, VD.got_bad, VD.sRet, VD.sRetV, VD.sSet, VD.setB, VD.sDrop, VD.sFz, VD.fz1, VD.sApp, VD.sRev, VD.sNext, VD.sRaise, VD.sAug, VD.sFor, VD.sTry, VD.clr, VD.oE, VD.eFz, VD.frz, VD.oOp, VD.oUn, VD.oCall, VD.oCallN, VD.oMethL, VD.oSl, VD.pNone, VD.pSome, VD.aCons, VD.aNil, VD.eLook, VD.eVar, VD.eC, VD.eAnd, VD.eOr, VD.eNot, VD.eIf, VD.oChain, VD.oLst, VD.oTup, VD.oLc, VD.bYes, VD.nName, VD.nTup, VD.nCons, VD.nNil, VD.wList, VD.wStr, VD.wRange1, VD.wZip, VD.wipeB, VD.XR.bind_ok, VD.XR.bind_ex, VD.XR.bind_bad, VD.bOf, VD.bNot, VD.bOr, VD.bAnd, VD.opAdd, VD.opSub, VD.opMul, VD.opMod, VD.opNeg, VD.opDiv, VD.opPow, VD.opLt, VD.opLe, VD.opGt, VD.opGe, VD.opIs, VD.opIsNot, VD.isNon, VD.opIsi, VD.isTy, VD.opRev, VD.cLen, VD.cList, VD.cTuple, VD.cInt, VD.eI, List.length_cons, List.length_nil, List.length_map, List.map_cons, List.map_nil, List.getElem?_cons_zero, List.getElem?_cons_succ, List.set_cons_zero, List.set_cons_succ, List.replicate_succ, List.replicate_zero, List.cons_append, List.nil_append, Nat.reduceSub, Nat.reduceAdd, Nat.reduceLeDiff, Nat.reduceLT, Nat.reduceEqDiff, Nat.reduceMul, Bool.not_true, Bool.not_false, if_true, if_false, ite_true, ite_false, reduceIte, Bool.false_eq_true, reduceCtorEq, VD.LIM, VD.noX, hc, DS, hm, decide_eq_true g, decide_eq_false g2]
  · simp only [m_row_at, b_row_at, VD.run, VD.begin0, VD.sSeq, VD.Out.thn, VD.sIf, VD.got_ok, VD.got_ex, VD.got_bad, VD.sRet, VD.sRetV, VD.sSet, VD.setB, VD.sDrop, VD.sFz, VD.fz1, VD.sApp, VD.sRev, VD.sNext, VD.sRaise, VD.sAug, VD.sFor, VD.sTry, VD.clr, VD.oE, VD.eFz, VD.frz, VD.oOp, VD.oUn, VD.oCall, VD.oCallN, VD.oMethL, VD.oSl, VD.pNone, VD.pSome, VD.aCons, VD.aNil, VD.eLook, VD.eVar, VD.eC, VD.eAnd, VD.eOr, VD.eNot, VD.eIf, VD.oChain, VD.oLst, VD.oTup, VD.oLc, VD.bYes, VD.nName, VD.nTup, VD.nCons, VD.nNil, VD.wList, VD.wStr, VD.wRange1, VD.wZip, VD.wipeB, VD.XR.bind_ok, VD.XR.bind_ex, VD.XR.bind_bad, VD.bOf, VD.bNot, VD.bOr, VD.bAnd, VD.opAdd, VD.opSub, VD.opMul, VD.opMod, VD.opNeg, VD.opDiv, VD.opPow, VD.opLt, VD.opLe, VD.opGt, VD.opGe, VD.opIs, VD.opIsNot, VD.isNon, VD.opIsi, VD.isTy, VD.opRev, VD.cLen, VD.cList, VD.cTuple, VD.cInt, VD.eI, List.length_cons, List.length_nil, List.length_map, List.map_cons, List.map_nil, List.getElem?_cons_zero, List.getElem?_cons_succ, List.set_cons_zero, List.set_cons_succ, List.replicate_succ, List.replicate_zero, List.cons_append, List.nil_append, Nat.reduceSub, Nat.reduceAdd, Nat.reduceLeDiff, Nat.reduceLT, Nat.reduceEqDiff, Nat.reduceMul, Bool.not_true, Bool.not_false, if_true, if_false, ite_true, ite_false, reduceIte, Bool.false_eq_true, reduceCtorEq, VD.LIM, VD.noX, hc, DS, hm, decide_eq_false g]
/-! ### the law's own reckoning -/
theorem filt_len (ps : List Str) (x : Str) : ((((ps.map D.str).filter fun y => match y with | .str s => sLt s x | _ => false).map id).length : Nat) = (ps.filter fun s => sLt s x).length := by
  rw [List.length_map, List.filter_map, List.length_map]
  rfl
theorem pow_split {n m t : Nat} (ht : t < m) (hn : 0 < n) : n ^ (m - t) / n = n ^ (m - (t + 1)) := by
  have e : m - t = (m - (t + 1)) + 1 := by omega
  rw [e, Nat.pow_succ, Nat.mul_div_cancel _ hn]
theorem lnumber_eq {ps r : List Str} (p : Pl ps) (h : Rw ps r) : m__law_number [DS ps, DS r] = .ok (.d (.int (numN ps r : Nat))) := by
  obtain ⟨pa, p2, p40⟩ := p.parts
  have hl := h.len
  have hpow := lpower_eq ps.length r.length (by omega) (by omega)
  have hcnt : ∀ (a b c v : B) (x : Str), x ∈ ps → C__law_number_1 [.d (DS ps), a, b, c, .d (.str x), v] = .ok (.own (.lst (((ps.map D.str).filter fun y => match y with | .str s => sLt s x | _ => false).map id))) := by
    intro a b c v x _
    exact oLc_eq (i := wList (eLook 0)) (g := nName 5) (t := T__law_number_1) (e := E__law_number_1) (vs := [5]) (ρ := [.d (DS ps), a, b, c, .d (.str x), v]) (ps.map .str) (fun y => match y with | .str s => sLt s x | _ => false) id rfl (by rw [List.length_map]; exact Nat.le_trans p40 (by decide)) (by
      intro y hy
      obtain ⟨s, _, rfl⟩ := List.mem_map.mp hy
      refine ⟨_, rfl, ?_, fun _ => rfl⟩
      simp only [T__law_number_1, VD.run, VD.begin0, VD.sSeq, VD.Out.thn, VD.sIf, VD.got_ok, VD.got_ex, VD.got_bad, VD.sRet, VD.sRetV, VD.sSet, VD.setB, VD.sDrop, VD.sFz, VD.fz1, VD.sApp, VD.sRev, VD.sNext, VD.sRaise, VD.sAug, VD.sFor, VD.sTry, VD.clr, VD.oE, VD.eFz, VD.frz, VD.oOp, VD.oUn, VD.oCall, VD.oCallN, VD.oMethL, VD.oSl, VD.pNone, VD.pSome, VD.aCons, VD.aNil, VD.eLook, VD.eVar, VD.eC, VD.eAnd, VD.eOr, VD.eNot, VD.eIf, VD.oChain, VD.oLst, VD.oTup, VD.oLc, VD.bYes, VD.nName, VD.nTup, VD.nCons, VD.nNil, VD.wList, VD.wStr, VD.wRange1, VD.wZip, VD.wipeB, VD.XR.bind_ok, VD.XR.bind_ex, VD.XR.bind_bad, VD.bOf, VD.bNot, VD.bOr, VD.bAnd, VD.opAdd, VD.opSub, VD.opMul, VD.opMod, VD.opNeg, VD.opDiv, VD.opPow, VD.opLt, VD.opLe, VD.opGt, VD.opGe, VD.opIs, VD.opIsNot, VD.isNon, VD.opIsi, VD.isTy, VD.opRev, VD.cLen, VD.cList, VD.cTuple, VD.cInt, VD.eI, List.length_cons, List.length_nil, List.length_map, List.map_cons, List.map_nil, List.getElem?_cons_zero, List.getElem?_cons_succ, List.set_cons_zero, List.set_cons_succ, List.replicate_succ, List.replicate_zero, List.cons_append, List.nil_append, Nat.reduceSub, Nat.reduceAdd, Nat.reduceLeDiff, Nat.reduceLT, Nat.reduceEqDiff, Nat.reduceMul, Bool.not_true, Bool.not_false, if_true, if_false, ite_true, ite_false, reduceIte, Bool.false_eq_true, reduceCtorEq, VD.LIM, VD.noX])
  obtain ⟨ρ', h1, w, a, b, h2⟩ : ∃ ρ', L__law_number_1 [.d (DS ps), .d (DS r), .d (.int 0), .d (.int ((ps.length ^ r.length : Nat) : Int)), .nil, .nil] = .nx ρ' ∧ ∃ w a b, ρ' = [.d (DS ps), .d (DS r), .d (.int (numN ps r : Nat)), w, a, b] := by
    obtain ⟨ρ', h1, h2⟩ := sFor_inv (g := nName 4) (b := K__law_number_1) (r.map .str) (fun k ρ => ∃ a b, ρ = [.d (DS ps), .d (DS r), .d (.int ((numN ps (r.take k) * ps.length ^ (r.length - k) : Nat) : Int)), .d (.int ((ps.length ^ (r.length - k) : Nat) : Int)), a, b]) (wList_eq (e := eVar 1) (ρ := [.d (DS ps), .d (DS r), .d (.int 0), .d (.int ((ps.length ^ r.length : Nat) : Int)), .nil, .nil]) rfl) ⟨_, _, by rw [Nat.sub_zero, List.take_zero, show numN ps [] = 0 from rfl, Nat.zero_mul]; rfl⟩ (by
      rintro k x _ hx ⟨a, b, rfl⟩
      obtain ⟨hk, rfl⟩ := getstr hx
      refine ⟨_, _, rfl, ?_, .d (.str r[k]), b, rfl⟩
      have hm := h.mem _ (List.getElem_mem hk)
      have e2 : divB (ps.length : Int) = true := divB_n (by omega) (Nat.lt_of_le_of_lt p40 (by decide))
      have e3 : ((ps.length ^ (r.length - k) : Nat) : Int) / (ps.length : Int) = ((ps.length ^ (r.length - (k + 1)) : Nat) : Int) := by rw [← pow_split hk (by omega)]; rfl
      have e4 := hcnt (.d (DS r)) (.d (.int ((numN ps (r.take k) * ps.length ^ (r.length - k) : Nat) : Int))) (.d (.int ((ps.length ^ (r.length - (k + 1)) : Nat) : Int))) b r[k] hm
      have e5 := filt_len ps r[k]
      rw [count_lt pa hm] at e5
      have e6 : mulB ((ps.length ^ (r.length - (k + 1)) : Nat) : Int) ((ps.idxOf r[k] : Nat) : Int) = true := mulB_r (by have := List.idxOf_lt_length_of_mem hm; omega)
      have e7 : ((numN ps (r.take k) * ps.length ^ (r.length - k) : Nat) : Int) + ((ps.length ^ (r.length - (k + 1)) : Nat) : Int) * ((ps.idxOf r[k] : Nat) : Int) = ((numN ps (r.take (k + 1)) * ps.length ^ (r.length - (k + 1)) : Nat) : Int) := by
        have e : r.length - k = (r.length - (k + 1)) + 1 := by omega
        rw [numN_take hk, e, Nat.pow_succ, Nat.add_mul]
        push_cast
        rw [Int.mul_comm ((ps.length : Int) ^ _) (ps.idxOf r[k] : Int)]
        congr 1
        rw [Int.mul_assoc, Int.mul_comm (ps.length : Int)]
      simp only [K__law_number_1, VD.run, VD.begin0, VD.sSeq, VD.Out.thn, VD.sIf, VD.got_ok, VD.got_ex, VD.got_bad, VD.sRet, VD.sRetV, VD.sSet, VD.setB, VD.sDrop, VD.sFz, VD.fz1, VD.sApp, VD.sRev, VD.sNext, VD.sRaise, VD.sAug, VD.sFor, VD.sTry, VD.clr, VD.oE, VD.eFz, VD.frz, VD.oOp, VD.oUn, VD.oCall, VD.oCallN, VD.oMethL, VD.oSl, VD.pNone, VD.pSome, VD.aCons, VD.aNil, VD.eLook, VD.eVar, VD.eC, VD.eAnd, VD.eOr, VD.eNot, VD.eIf, VD.oChain, VD.oLst, VD.oTup, VD.oLc, VD.bYes, VD.nName, VD.nTup, VD.nCons, VD.nNil, VD.wList, VD.wStr, VD.wRange1, VD.wZip, VD.wipeB, VD.XR.bind_ok, VD.XR.bind_ex, VD.XR.bind_bad, VD.bOf, VD.bNot, VD.bOr, VD.bAnd, VD.opAdd, VD.opSub, VD.opMul, VD.opMod, VD.opNeg, VD.opDiv, VD.opPow, VD.opLt, VD.opLe, VD.opGt, VD.opGe, VD.opIs, VD.opIsNot, VD.isNon, VD.opIsi, VD.isTy, VD.opRev, VD.cLen, VD.cList, VD.cTuple, VD.cInt, VD.eI, List.length_cons, List.length_nil, List.length_map, List.map_cons, List.map_nil, List.getElem?_cons_zero, List.getElem?_cons_succ, List.set_cons_zero, List.set_cons_succ, List.replicate_succ, List.replicate_zero, List.cons_append, List.nil_append, Nat.reduceSub, Nat.reduceAdd, Nat.reduceLeDiff, Nat.reduceLT, Nat.reduceEqDiff, Nat.reduceMul, Bool.not_true, Bool.not_false, if_true, if_false, ite_true, ite_false, reduceIte, Bool.false_eq_true, reduceCtorEq, VD.LIM, VD.noX, e2, e3, e4, e5, e6, e7])
    rw [List.length_map] at h2
    obtain ⟨a, b, h2⟩ := h2
    rw [Nat.sub_self, Nat.pow_zero, Nat.mul_one, List.take_of_length_le (Nat.le_refl _)] at h2
    exact ⟨ρ', h1, _, _, _, h2⟩
  subst h2
  simp only [m__law_number, b__law_number, VD.run, VD.begin0, VD.sSeq, VD.Out.thn, VD.sIf, VD.got_ok, VD.got_ex, VD.got_bad, VD.sRet, VD.sRetV, VD.sSet, VD.setB, VD.sDrop, VD.sFz, VD.fz1, VD.sApp, VD.sRev, VD.sNext, VD.sRaise, VD.sAug, VD.sFor, VD.sTry, VD.clr, VD.oE, VD.eFz, VD.frz, VD.oOp, VD.oUn, VD.oCall, VD.oCallN, VD.oMethL, VD.oSl, VD.pNone, VD.pSome, VD.aCons, VD.aNil, VD.eLook, VD.eVar, VD.eC, VD.eAnd, VD.eOr, VD.eNot, VD.eIf, VD.oChain, VD.oLst, VD.oTup, VD.oLc, VD.bYes, VD.nName, VD.nTup, VD.nCons, VD.nNil, VD.wList, VD.wStr, VD.wRange1, VD.wZip, VD.wipeB, VD.XR.bind_ok, VD.XR.bind_ex, VD.XR.bind_bad, VD.bOf, VD.bNot, VD.bOr, VD.bAnd, VD.opAdd, VD.opSub, VD.opMul, VD.opMod, VD.opNeg, VD.opDiv, VD.opPow, VD.opLt, VD.opLe, VD.opGt, VD.opGe, VD.opIs, VD.opIsNot, VD.isNon, VD.opIsi, VD.isTy, VD.opRev, VD.cLen, VD.cList, VD.cTuple, VD.cInt, VD.eI, List.length_cons, List.length_nil, List.length_map, List.map_cons, List.map_nil, List.getElem?_cons_zero, List.getElem?_cons_succ, List.set_cons_zero, List.set_cons_succ, List.replicate_succ, List.replicate_zero, List.cons_append, List.nil_append, Nat.reduceSub, Nat.reduceAdd, Nat.reduceLeDiff, Nat.reduceLT, Nat.reduceEqDiff, Nat.reduceMul, Bool.not_true, Bool.not_false, if_true, if_false, ite_true, ite_false, reduceIte, Bool.false_eq_true, reduceCtorEq, VD.LIM, VD.noX, DS, hpow, h1]
theorem lrow_eq {ps : List Str} (p : Pl ps) (k : Nat) : m__law_row_at [DS ps, .int k] = .ok (.own (DS (rowN ps (ps.length - 2) k))) := by
  obtain ⟨pa, p2, p40⟩ := p.parts
  have em : (ps.length : Int) - 2 = ((ps.length - 2 : Nat) : Int) := by omega
  have hpow := lpower_eq ps.length (ps.length - 2) (by omega) (by omega)
  obtain ⟨m, hm⟩ : ∃ m, m = ps.length - 2 := ⟨_, rfl⟩
  rw [← hm] at em hpow ⊢
  obtain ⟨ρ', h1, w, v, h2⟩ : ∃ ρ', L__law_row_at_1 [.d (DS ps), .d (.int k), .own (.lst []), .d (.int ((ps.length ^ m : Nat) : Int)), .nil] = .nx ρ' ∧ ∃ w v, ρ' = [.d (DS ps), .d (.int k), .own (.lst ((rowN ps m k).map .str)), w, v] := by
    obtain ⟨ρ', h1, h2⟩ := sFor_inv (i := wRange1 (eFz (oOp opSub (eFz (oCall cLen (aCons (eLook 0) aNil))) (eC (.int 2))))) (g := nName 4) (b := K__law_row_at_1) (rng 0 m) (fun t ρ => ∃ v, ρ = [.d (DS ps), .d (.int k), .own (.lst ((rowN ps t (k / ps.length ^ (m - t))).map .str)), .d (.int ((ps.length ^ (m - t) : Nat) : Int)), v]) (range1_eq (ρ := [.d (DS ps), .d (.int k), .own (.lst []), .d (.int ((ps.length ^ m : Nat) : Int)), .nil]) m (j := (ps.length : Int) - 2) (by simp only [VD.run, VD.begin0, VD.sSeq, VD.Out.thn, VD.sIf, VD.got_ok, VD.got_ex, VD.got_bad, VD.sRet, VD.sRetV, VD.sSet, VD.setB, VD.sDrop, VD.sFz, VD.fz1, VD.sApp, VD.sRev, VD.sNext, VD.sRaise, VD.sAug, VD.sFor, VD.sTry, VD.clr, VD.oE, VD.eFz, VD.frz, VD.oOp, VD.oUn, VD.oCall, VD.oCallN, VD.oMethL, VD.oSl, VD.pNone, VD.pSome, VD.aCons, VD.aNil, VD.eLook, VD.eVar, VD.eC, VD.eAnd, VD.eOr, VD.eNot, VD.eIf, VD.oChain, VD.oLst, VD.oTup, VD.oLc, VD.bYes, VD.nName, VD.nTup, VD.nCons, VD.nNil, VD.wList, VD.wStr, VD.wRange1, VD.wZip, VD.wipeB, VD.XR.bind_ok, VD.XR.bind_ex, VD.XR.bind_bad, VD.bOf, VD.bNot, VD.bOr, VD.bAnd, VD.opAdd, VD.opSub, VD.opMul, VD.opMod, VD.opNeg, VD.opDiv, VD.opPow, VD.opLt, VD.opLe, VD.opGt, VD.opGe, VD.opIs, VD.opIsNot, VD.isNon, VD.opIsi, VD.isTy, VD.opRev, VD.cLen, VD.cList, VD.cTuple, VD.cInt, VD.eI, List.length_cons, List.length_nil, List.length_map, List.map_cons, List.map_nil, List.getElem?_cons_zero, List.getElem?_cons_succ, List.set_cons_zero, List.set_cons_succ, List.replicate_succ, List.replicate_zero, List.cons_append, List.nil_append, Nat.reduceSub, Nat.reduceAdd, Nat.reduceLeDiff, Nat.reduceLT, Nat.reduceEqDiff, Nat.reduceMul, Bool.not_true, Bool.not_false, if_true, if_false, ite_true, ite_false, reduceIte, Bool.false_eq_true, reduceCtorEq, VD.LIM, VD.noX, DS]) em (by omega)) ⟨_, rfl⟩ (by
      rintro t x _ hx ⟨v, rfl⟩
      obtain ⟨ht, rfl⟩ := rng_get hx
      refine ⟨_, _, rfl, ?_, .d (.int t), rfl⟩
      have hpos : 0 < ps.length ^ (m - (t + 1)) := Nat.pow_pos (by omega)
      have hsm : ps.length ^ (m - (t + 1)) < 2 ^ 250 := pow_small (by omega) (by omega)
      have e1 : divB (ps.length : Int) = true := divB_n (by omega) (Nat.lt_of_le_of_lt p40 (by decide))
      have e2 : ((ps.length ^ (m - t) : Nat) : Int) / (ps.length : Int) = ((ps.length ^ (m - (t + 1)) : Nat) : Int) := by rw [← pow_split ht (by omega)]; rfl
      have e3 : divB ((ps.length ^ (m - (t + 1)) : Nat) : Int) = true := divB_n hpos hsm
      have e4 : (k : Int) / ((ps.length ^ (m - (t + 1)) : Nat) : Int) = ((k / ps.length ^ (m - (t + 1)) : Nat) : Int) := rfl
      have e5 : (((k / ps.length ^ (m - (t + 1)) : Nat) : Int) % (ps.length : Int)) = ((k / ps.length ^ (m - (t + 1)) % ps.length : Nat) : Int) := rfl
      have e6 : (0 : Int) < (ps.length : Int) := by omega
      have e7 := opIx_nth (l := ps) (i := k / ps.length ^ (m - (t + 1)) % ps.length) (Nat.mod_lt _ (by omega))
      have e8 : (rowN ps t (k / ps.length ^ (m - t))).length < 100000 := by rw [rowN_len]; omega
      have e9 : List.map D.str (rowN ps t (k / ps.length ^ (m - t))) ++ [D.str (nth ps (k / ps.length ^ (m - (t + 1)) % ps.length))] = List.map D.str (rowN ps (t + 1) (k / ps.length ^ (m - (t + 1)))) := by
        rw [rowN_succ, List.map_append, Nat.div_div_eq_div_mul, ← Nat.pow_succ]
        rw [show (m - (t + 1)).succ = m - t by omega]
        rfl
      simp only [K__law_row_at_1, VD.run, VD.begin0, VD.sSeq, VD.Out.thn, VD.sIf, VD.got_ok, VD.got_ex, VD.got_bad, VD.sRet, VD.sRetV, VD.sSet, VD.setB, VD.sDrop, VD.sFz, VD.fz1, VD.sApp, VD.sRev, VD.sNext, VD.sRaise, VD.sAug, VD.sFor, VD.sTry, VD.clr, VD.oE, VD.eFz, VD.frz, VD.oOp, VD.oUn, VD.oCall, VD.oCallN, VD.oMethL, VD.oSl, VD.pNone, VD.pSome, VD.aCons, VD.aNil, VD.eLook, VD.eVar, VD.eC, VD.eAnd, VD.eOr, VD.eNot, VD.eIf, VD.oChain, VD.oLst, VD.oTup, VD.oLc, VD.bYes, VD.nName, VD.nTup, VD.nCons, VD.nNil, VD.wList, VD.wStr, VD.wRange1, VD.wZip, VD.wipeB, VD.XR.bind_ok, VD.XR.bind_ex, VD.XR.bind_bad, VD.bOf, VD.bNot, VD.bOr, VD.bAnd, VD.opAdd, VD.opSub, VD.opMul, VD.opMod, VD.opNeg, VD.opDiv, VD.opPow, VD.opLt, VD.opLe, VD.opGt, VD.opGe, VD.opIs, VD.opIsNot, VD.isNon, VD.opIsi, VD.isTy, VD.opRev, VD.cLen, VD.cList, VD.cTuple, VD.cInt, VD.eI, List.length_cons, List.length_nil, List.length_map, List.map_cons, List.map_nil, List.getElem?_cons_zero, List.getElem?_cons_succ, List.set_cons_zero, List.set_cons_succ, List.replicate_succ, List.replicate_zero, List.cons_append, List.nil_append, Nat.reduceSub, Nat.reduceAdd, Nat.reduceLeDiff, Nat.reduceLT, Nat.reduceEqDiff, Nat.reduceMul, Bool.not_true, Bool.not_false, if_true, if_false, ite_true, ite_false, reduceIte, Bool.false_eq_true, reduceCtorEq, VD.LIM, VD.noX, DS, e1, e2, e3, e4, e5, e6, e7, e8, e9])
    rw [rng_len] at h2
    obtain ⟨v, h2⟩ := h2
    rw [Nat.sub_self, Nat.pow_zero, Nat.div_one] at h2
    exact ⟨ρ', h1, _, v, h2⟩
  subst h2
  simp only [m__law_row_at, b__law_row_at, VD.run, VD.begin0, VD.sSeq, VD.Out.thn, VD.sIf, VD.got_ok, VD.got_ex, VD.got_bad, VD.sRet, VD.sRetV, VD.sSet, VD.setB, VD.sDrop, VD.sFz, VD.fz1, VD.sApp, VD.sRev, VD.sNext, VD.sRaise, VD.sAug, VD.sFor, VD.sTry, VD.clr, VD.oE, VD.eFz, VD.frz, VD.oOp, VD.oUn, VD.oCall, VD.oCallN, VD.oMethL, VD.oSl, VD.pNone, VD.pSome, VD.aCons, VD.aNil, VD.eLook, VD.eVar, VD.eC, VD.eAnd, VD.eOr, VD.eNot, VD.eIf, VD.oChain, VD.oLst, VD.oTup, VD.oLc, VD.bYes, VD.nName, VD.nTup, VD.nCons, VD.nNil, VD.wList, VD.wStr, VD.wRange1, VD.wZip, VD.wipeB, VD.XR.bind_ok, VD.XR.bind_ex, VD.XR.bind_bad, VD.bOf, VD.bNot, VD.bOr, VD.bAnd, VD.opAdd, VD.opSub, VD.opMul, VD.opMod, VD.opNeg, VD.opDiv, VD.opPow, VD.opLt, VD.opLe, VD.opGt, VD.opGe, VD.opIs, VD.opIsNot, VD.isNon, VD.opIsi, VD.isTy, VD.opRev, VD.cLen, VD.cList, VD.cTuple, VD.cInt, VD.eI, List.length_cons, List.length_nil, List.length_map, List.map_cons, List.map_nil, List.getElem?_cons_zero, List.getElem?_cons_succ, List.set_cons_zero, List.set_cons_succ, List.replicate_succ, List.replicate_zero, List.cons_append, List.nil_append, Nat.reduceSub, Nat.reduceAdd, Nat.reduceLeDiff, Nat.reduceLT, Nat.reduceEqDiff, Nat.reduceMul, Bool.not_true, Bool.not_false, if_true, if_false, ite_true, ite_false, reduceIte, Bool.false_eq_true, reduceCtorEq, VD.LIM, VD.noX, DS, em, hpow, h1]
theorem refused0 {p r : D} (h : m_number_of [p, r] = NO) : m__law_refused [.int 0, p, r] = OB true := by
  simp only [m__law_refused, b__law_refused, h__law_refused_139, VD.run, VD.begin0, VD.sSeq, VD.Out.thn, VD.sIf, VD.got_ok, VD.got_ex, VD.got_bad, VD.sRet, VD.sRetV, VD.sSet, VD.setB, VD.sDrop, VD.sFz, VD.fz1, VD.sApp, VD.sRev, VD.sNext, VD.sRaise, VD.sAug, VD.sFor, VD.sTry, VD.clr, VD.oE, VD.eFz, VD.frz, VD.oOp, VD.oUn, VD.oCall, VD.oCallN, VD.oMethL, VD.oSl, VD.pNone, VD.pSome, VD.aCons, VD.aNil, VD.eLook, VD.eVar, VD.eC, VD.eAnd, VD.eOr, VD.eNot, VD.eIf, VD.oChain, VD.oLst, VD.oTup, VD.oLc, VD.bYes, VD.nName, VD.nTup, VD.nCons, VD.nNil, VD.wList, VD.wStr, VD.wRange1, VD.wZip, VD.wipeB, VD.XR.bind_ok, VD.XR.bind_ex, VD.XR.bind_bad, VD.bOf, VD.bNot, VD.bOr, VD.bAnd, VD.opAdd, VD.opSub, VD.opMul, VD.opMod, VD.opNeg, VD.opDiv, VD.opPow, VD.opLt, VD.opLe, VD.opGt, VD.opGe, VD.opIs, VD.opIsNot, VD.isNon, VD.opIsi, VD.isTy, VD.opRev, VD.cLen, VD.cList, VD.cTuple, VD.cInt, VD.eI, List.length_cons, List.length_nil, List.length_map, List.map_cons, List.map_nil, List.getElem?_cons_zero, List.getElem?_cons_succ, List.set_cons_zero, List.set_cons_succ, List.replicate_succ, List.replicate_zero, List.cons_append, List.nil_append, Nat.reduceSub, Nat.reduceAdd, Nat.reduceLeDiff, Nat.reduceLT, Nat.reduceEqDiff, Nat.reduceMul, Bool.not_true, Bool.not_false, if_true, if_false, ite_true, ite_false, reduceIte, Bool.false_eq_true, reduceCtorEq, VD.LIM, VD.noX, h, opEq_int, decide_true, oIsX]
theorem refused1 {p r : D} (h : m_row_at [p, .int 0] = NO) : m__law_refused [.int 1, p, r] = OB true := by
  simp only [m__law_refused, b__law_refused, h__law_refused_139, VD.run, VD.begin0, VD.sSeq, VD.Out.thn, VD.sIf, VD.got_ok, VD.got_ex, VD.got_bad, VD.sRet, VD.sRetV, VD.sSet, VD.setB, VD.sDrop, VD.sFz, VD.fz1, VD.sApp, VD.sRev, VD.sNext, VD.sRaise, VD.sAug, VD.sFor, VD.sTry, VD.clr, VD.oE, VD.eFz, VD.frz, VD.oOp, VD.oUn, VD.oCall, VD.oCallN, VD.oMethL, VD.oSl, VD.pNone, VD.pSome, VD.aCons, VD.aNil, VD.eLook, VD.eVar, VD.eC, VD.eAnd, VD.eOr, VD.eNot, VD.eIf, VD.oChain, VD.oLst, VD.oTup, VD.oLc, VD.bYes, VD.nName, VD.nTup, VD.nCons, VD.nNil, VD.wList, VD.wStr, VD.wRange1, VD.wZip, VD.wipeB, VD.XR.bind_ok, VD.XR.bind_ex, VD.XR.bind_bad, VD.bOf, VD.bNot, VD.bOr, VD.bAnd, VD.opAdd, VD.opSub, VD.opMul, VD.opMod, VD.opNeg, VD.opDiv, VD.opPow, VD.opLt, VD.opLe, VD.opGt, VD.opGe, VD.opIs, VD.opIsNot, VD.isNon, VD.opIsi, VD.isTy, VD.opRev, VD.cLen, VD.cList, VD.cTuple, VD.cInt, VD.eI, List.length_cons, List.length_nil, List.length_map, List.map_cons, List.map_nil, List.getElem?_cons_zero, List.getElem?_cons_succ, List.set_cons_zero, List.set_cons_succ, List.replicate_succ, List.replicate_zero, List.cons_append, List.nil_append, Nat.reduceSub, Nat.reduceAdd, Nat.reduceLeDiff, Nat.reduceLT, Nat.reduceEqDiff, Nat.reduceMul, Bool.not_true, Bool.not_false, if_true, if_false, ite_true, ite_false, reduceIte, Bool.false_eq_true, reduceCtorEq, VD.LIM, VD.noX, h, opEq_int, oIsX, show decide ((1 : Int) = 0) = false from rfl]
theorem Pl.row {ps : List Str} (p : Pl ps) (k : Nat) : Rw ps (rowN ps (ps.length - 2) k) where
  len := by rw [rowN_len]; have := p.parts.2.1; omega
  mem := rowN_mem (by have := p.parts.2.1; omega) _ _
theorem Rw.st {ps r : List Str} (p : Pl ps) (h : Rw ps r) : StrOk r := fun x hx => p.st x (h.mem x hx)
theorem holds_eq {ps r : List Str} (p : Pl ps) (h : Rw ps r) : m__law_row_holds [DS ps, DS r] = OB true := by
  obtain ⟨pa, p2, p40⟩ := p.parts
  have hl := h.len
  have hn := number_of_eq p h
  have hln := lnumber_eq p h
  have hlt : numN ps r < ps.length ^ (ps.length - 2) := by
    have := num_lt r h.mem
    rwa [show r.length = ps.length - 2 by omega] at this
  have hra := row_at_eq p (numN ps r) hlt
  have hrow : rowN ps (ps.length - 2) (numN ps r) = r := by
    have := row_num r h.mem
    rwa [show r.length = ps.length - 2 by omega] at this
  rw [hrow] at hra
  have hm := how_many_eq ps.length p2 (by omega)
  have e1 := opNe_DS p.st p.st
  have e2 := opNe_DS (h.st p) (h.st p)
  rw [decide_eq_true rfl] at e1 e2
  have e3 : opNe (.lst [DS ps, DS r]) (.lst [DS ps, DS r]) = OB false := by
    have q : eqOk (.lst [DS ps, DS r]) (.lst [DS ps, DS r]) = true := by
      have d : depth (.lst [DS ps, DS r]) = 2 := by simp [depth, depthL, depthL_str]
      have pl : VD.plain (.lst [DS ps, DS r]) = true := by
        have a1 := plain_DS p.st
        have a2 := plain_DS (h.st p)
        simp only [VD.plain, plainL] at a1 a2 ⊢
        rw [a1, a2]; rfl
      unfold eqOk
      rw [d, pl]; rfl
    unfold opNe
    rw [q, Bool.or_true, if_pos rfl]
    have z : eqD (.lst [DS ps, DS r]) (.lst [DS ps, DS r]) = true := by
      rw [eqD, eqL, eqL, eqL, eqD_DS, eqD_DS, decide_eq_true rfl, decide_eq_true rfl]; rfl
    rw [z]; rfl
  have e4 : ((numN ps r : Nat) : Int) + 1 = ((numN ps r + 1 : Nat) : Int) := rfl
  have hle : ps.length ≤ 100000 := by omega
  have hrl : r.length < 100000 := by omega
  have x0 : ∀ a b : D, opIx (.lst [a, b]) (.int 0) = .ok (.d a) := fun _ _ => rfl
  have x1 : ∀ a b : D, opIx (.lst [a, b]) (.int 1) = .ok (.d b) := fun _ _ => rfl
  by_cases c : numN ps r + 1 = ps.length ^ (ps.length - 2)
  · have hno := row_at_none p ((numN ps r + 1 : Nat) : Int) (by omega)
    have e5 : decide (((numN ps r + 1 : Nat) : Int) = ((ps.length ^ (ps.length - 2) : Nat) : Int)) = true := decide_eq_true (by rw [c])
    simp only [m__law_row_holds, b__law_row_holds, VD.run, VD.begin0, VD.sSeq, VD.Out.thn, VD.sIf, VD.got_ok, VD.got_ex, VD.got_bad, VD.sRet, VD.sRetV, VD.sSet, VD.setB, VD.sDrop, VD.sFz, VD.fz1, VD.sApp, VD.sRev, VD.sNext, VD.sRaise, VD.sAug, VD.sFor, VD.sTry, VD.clr, VD.oE, VD.eFz, VD.frz, VD.oOp, VD.oUn, VD.oCall, VD.oCallN, VD.oMethL, VD.oSl, VD.pNone, VD.pSome, VD.aCons, VD.aNil, VD.eLook, VD.eVar, VD.eC, VD.eAnd, VD.eOr, VD.eNot, VD.eIf, VD.oChain, VD.oLst, VD.oTup, VD.oLc, VD.bYes, VD.nName, VD.nTup, VD.nCons, VD.nNil, VD.wList, VD.wStr, VD.wRange1, VD.wZip, VD.wipeB, VD.XR.bind_ok, VD.XR.bind_ex, VD.XR.bind_bad, VD.bOf, VD.bNot, VD.bOr, VD.bAnd, VD.opAdd, VD.opSub, VD.opMul, VD.opMod, VD.opNeg, VD.opDiv, VD.opPow, VD.opLt, VD.opLe, VD.opGt, VD.opGe, VD.opIs, VD.opIsNot, VD.isNon, VD.opIsi, VD.isTy, VD.opRev, VD.cLen, VD.cList, VD.cTuple, VD.cInt, VD.eI, List.length_cons, List.length_nil, List.length_map, List.map_cons, List.map_nil, List.getElem?_cons_zero, List.getElem?_cons_succ, List.set_cons_zero, List.set_cons_succ, List.replicate_succ, List.replicate_zero, List.cons_append, List.nil_append, Nat.reduceSub, Nat.reduceAdd, Nat.reduceLeDiff, Nat.reduceLT, Nat.reduceEqDiff, Nat.reduceMul, Bool.not_true, Bool.not_false, if_true, if_false, ite_true, ite_false, reduceIte, Bool.false_eq_true, reduceCtorEq, VD.LIM, VD.noX, x0, x1, hn, hln, e3, is_int_eq, opNe_int, hra, e1, e2, e4, hno, hm, opEq_int, e5, decide_true, hrl]
  · have c2 : numN ps r + 1 < ps.length ^ (ps.length - 2) := by omega
    have hra2 := row_at_eq p (numN ps r + 1) c2
    have R := p.row (numN ps r + 1)
    have hn2 := number_of_eq p R
    rw [num_row pa.nodup (by omega) _ _ c2] at hn2
    have hl2 := lrow_eq p (numN ps r + 1)
    have g := opGt_DS (R.st p) (h.st p)
    have gl := row_lt pa (by omega) _ _ _ (Nat.lt_succ_self (numN ps r)) c2
    rw [hrow] at gl
    rw [gl] at g
    have g' : cmpD (DS r) (DS (rowN ps (ps.length - 2) (numN ps r + 1))) (ltD (DS r) (DS (rowN ps (ps.length - 2) (numN ps r + 1)))) = OB true := g
    have q := opEq_DS (R.st p) (R.st p)
    rw [decide_eq_true rfl] at q
    have e5 : decide (((numN ps r + 1 : Nat) : Int) = ((ps.length ^ (ps.length - 2) : Nat) : Int)) = false := decide_eq_false (by omega)
    simp only [m__law_row_holds, b__law_row_holds, VD.run, VD.begin0, VD.sSeq, VD.Out.thn, VD.sIf, VD.got_ok, VD.got_ex, VD.got_bad, VD.sRet, VD.sRetV, VD.sSet, VD.setB, VD.sDrop, VD.sFz, VD.fz1, VD.sApp, VD.sRev, VD.sNext, VD.sRaise, VD.sAug, VD.sFor, VD.sTry, VD.clr, VD.oE, VD.eFz, VD.frz, VD.oOp, VD.oUn, VD.oCall, VD.oCallN, VD.oMethL, VD.oSl, VD.pNone, VD.pSome, VD.aCons, VD.aNil, VD.eLook, VD.eVar, VD.eC, VD.eAnd, VD.eOr, VD.eNot, VD.eIf, VD.oChain, VD.oLst, VD.oTup, VD.oLc, VD.bYes, VD.nName, VD.nTup, VD.nCons, VD.nNil, VD.wList, VD.wStr, VD.wRange1, VD.wZip, VD.wipeB, VD.XR.bind_ok, VD.XR.bind_ex, VD.XR.bind_bad, VD.bOf, VD.bNot, VD.bOr, VD.bAnd, VD.opAdd, VD.opSub, VD.opMul, VD.opMod, VD.opNeg, VD.opDiv, VD.opPow, VD.opLt, VD.opLe, VD.opGt, VD.opGe, VD.opIs, VD.opIsNot, VD.isNon, VD.opIsi, VD.isTy, VD.opRev, VD.cLen, VD.cList, VD.cTuple, VD.cInt, VD.eI, List.length_cons, List.length_nil, List.length_map, List.map_cons, List.map_nil, List.getElem?_cons_zero, List.getElem?_cons_succ, List.set_cons_zero, List.set_cons_succ, List.replicate_succ, List.replicate_zero, List.cons_append, List.nil_append, Nat.reduceSub, Nat.reduceAdd, Nat.reduceLeDiff, Nat.reduceLT, Nat.reduceEqDiff, Nat.reduceMul, Bool.not_true, Bool.not_false, if_true, if_false, ite_true, ite_false, reduceIte, Bool.false_eq_true, reduceCtorEq, VD.LIM, VD.noX, x0, x1, hn, hln, e3, is_int_eq, opNe_int, hra, e1, e2, e4, hra2, hm, opEq_int, e5, decide_true, hrl, g', hl2, q, hn2]
end G

set_option Elab.async false
set_option linter.all false
set_option maxRecDepth 100000
set_option maxHeartbeats 0
namespace G
open PySem VD
/-! ### what is drawn -/
structure Nm (l : List Int) (c : Nat) : Prop where
  len : l.length = c
  rg : ∀ x, x ∈ l → 0 ≤ x ∧ x < 1009
theorem mulB_mod (x : Int) : mulB (x % 2147483647) (x % 2147483647) = true := mulB_l (by omega)
theorem mod_rg (x : Int) : 0 ≤ x % 1009 ∧ x % 1009 < 1009 := by omega
theorem Nm.snoc {l : List Int} {c : Nat} (h : Nm l c) (x : Int) : Nm (l ++ [x % 1009]) (c + 1) where
  len := by rw [List.length_append, h.len]; rfl
  rg := fun y hy => by
    rcases List.mem_append.mp hy with hy | hy
    · exact h.rg y hy
    · rw [List.mem_singleton.mp hy]; exact mod_rg x
theorem numbers_loop (ns : List Int) (at_ : Int) (count : Nat) (hc : count ≤ 1000) (c : Int) : ∃ l ρ', L__law_numbers_1 [.d (.scr ns), .d (.int at_), .d (.int count), .d (.int c), .own (.lst []), .nil, .nil] = .nx ρ' ∧ Nm l count ∧ ∃ a b d, ρ' = [.d (.scr ns), .d (.int at_), .d (.int count), a, .own (DI l), b, d] := by
  obtain ⟨ρ', h1, h2⟩ := sFor_inv (g := nName 5) (b := K__law_numbers_1) (rng 0 count) (fun k ρ => ∃ (l : List Int) (c : Int) (b d : B), Nm l k ∧ ρ = [.d (.scr ns), .d (.int at_), .d (.int count), .d (.int c), .own (DI l), b, d]) (range1_eq (e := eLook 2) (ρ := [.d (.scr ns), .d (.int at_), .d (.int count), .d (.int c), .own (.lst []), .nil, .nil]) count rfl rfl (by omega)) ⟨[], c, .nil, .nil, ⟨rfl, fun _ h => nomatch h⟩, rfl⟩ (by
    rintro k x _ hx ⟨l, c, b, d, hn, rfl⟩
    obtain ⟨hk, rfl⟩ := rng_get hx
    have hlen : l.length < 100000 := by rw [hn.len]; omega
    have hp : powB 10 18 = true := by decide
    have hd : divB 1009 = true := by decide
    have hd7 : divB 7 = true := by decide
    have m1 : ∀ x, mulB x 48271 = true := fun x => mulB_r (by decide)
    have m2 : ∀ x, mulB x 69621 = true := fun x => mulB_r (by decide)
    have m3 : ∀ x, mulB x 4001 = true := fun x => mulB_r (by decide)
    have m4 : ∀ x, mulB 16807 x = true := fun x => mulB_l (by decide)
    have l0 : (0 : Int) < 1009 := by decide
    have l1 : (0 : Int) < 2147483647 := by decide
    have l2 : (0 : Int) < 2147483629 := by decide
    have app : ∀ z : Int, List.map D.int l ++ [D.int z] = List.map D.int (l ++ [z]) := fun z => by rw [List.map_append]; rfl
    cases hq : decide ((10 : Int) ^ (18 : Int).toNat ≤ c) with
    | true =>
      refine ⟨_, _, rfl, ?_, l ++ [c % 1009], c / 1009, .d (.int k), d, hn.snoc c, rfl⟩
      simp only [K__law_numbers_1, VD.run, VD.begin0, VD.sSeq, VD.Out.thn, VD.sIf, VD.got_ok, VD.got_ex, VD.got_bad, VD.sRet, VD.sRetV, VD.sSet, VD.setB, VD.sDrop, VD.sFz, VD.fz1, VD.sApp, VD.sRev, VD.sNext, VD.sRaise, VD.sAug, VD.sFor, VD.sTry, VD.clr, VD.oE, VD.eFz, VD.frz, VD.oOp, VD.oUn, VD.oCall, VD.oCallN, VD.oMethL, VD.oSl, VD.pNone, VD.pSome, VD.aCons, VD.aNil, VD.eLook, VD.eVar, VD.eC, VD.eAnd, VD.eOr, VD.eNot, VD.eIf, VD.oChain, VD.oLst, VD.oTup, VD.oLc, VD.bYes, VD.nName, VD.nTup, VD.nCons, VD.nNil, VD.wList, VD.wStr, VD.wRange1, VD.wZip, VD.wipeB, VD.XR.bind_ok, VD.XR.bind_ex, VD.XR.bind_bad, VD.bOf, VD.bNot, VD.bOr, VD.bAnd, VD.opAdd, VD.opSub, VD.opMul, VD.opMod, VD.opNeg, VD.opDiv, VD.opPow, VD.opLt, VD.opLe, VD.opGt, VD.opGe, VD.opIs, VD.opIsNot, VD.isNon, VD.opIsi, VD.isTy, VD.opRev, VD.cLen, VD.cList, VD.cTuple, VD.cInt, VD.eI, List.length_cons, List.length_nil, List.length_map, List.map_cons, List.map_nil, List.getElem?_cons_zero, List.getElem?_cons_succ, List.set_cons_zero, List.set_cons_succ, List.replicate_succ, List.replicate_zero, List.cons_append, List.nil_append, Nat.reduceSub, Nat.reduceAdd, Nat.reduceLeDiff, Nat.reduceLT, Nat.reduceEqDiff, Nat.reduceMul, Bool.not_true, Bool.not_false, if_true, if_false, ite_true, ite_false, reduceIte, Bool.false_eq_true, reduceCtorEq, VD.LIM, VD.noX, -Int.reducePow, -Int.reduceToNat, hp, hd, hd7, m1, m2, m3, m4, mulB_mod, hlen, app, hq, l0, l1, l2]
    | false =>
      obtain ⟨y, hy⟩ : ∃ y, (c * 48271 + ((k : Int) + 1) * 69621 + at_ * 4001) % 2147483647 = y := ⟨_, rfl⟩
      obtain ⟨z, hz⟩ : ∃ z, (y * y + 16807 * ((k : Int) + 3)) % 2147483629 = z := ⟨_, rfl⟩
      have m5 : mulB y y = true := by rw [← hy]; exact mulB_mod _
      refine ⟨_, _, rfl, ?_, l ++ [z / 7 % 1009], c, .d (.int k), .d (.int z), hn.snoc _, rfl⟩
      simp only [K__law_numbers_1, VD.run, VD.begin0, VD.sSeq, VD.Out.thn, VD.sIf, VD.got_ok, VD.got_ex, VD.got_bad, VD.sRet, VD.sRetV, VD.sSet, VD.setB, VD.sDrop, VD.sFz, VD.fz1, VD.sApp, VD.sRev, VD.sNext, VD.sRaise, VD.sAug, VD.sFor, VD.sTry, VD.clr, VD.oE, VD.eFz, VD.frz, VD.oOp, VD.oUn, VD.oCall, VD.oCallN, VD.oMethL, VD.oSl, VD.pNone, VD.pSome, VD.aCons, VD.aNil, VD.eLook, VD.eVar, VD.eC, VD.eAnd, VD.eOr, VD.eNot, VD.eIf, VD.oChain, VD.oLst, VD.oTup, VD.oLc, VD.bYes, VD.nName, VD.nTup, VD.nCons, VD.nNil, VD.wList, VD.wStr, VD.wRange1, VD.wZip, VD.wipeB, VD.XR.bind_ok, VD.XR.bind_ex, VD.XR.bind_bad, VD.bOf, VD.bNot, VD.bOr, VD.bAnd, VD.opAdd, VD.opSub, VD.opMul, VD.opMod, VD.opNeg, VD.opDiv, VD.opPow, VD.opLt, VD.opLe, VD.opGt, VD.opGe, VD.opIs, VD.opIsNot, VD.isNon, VD.opIsi, VD.isTy, VD.opRev, VD.cLen, VD.cList, VD.cTuple, VD.cInt, VD.eI, List.length_cons, List.length_nil, List.length_map, List.map_cons, List.map_nil, List.getElem?_cons_zero, List.getElem?_cons_succ, List.set_cons_zero, List.set_cons_succ, List.replicate_succ, List.replicate_zero, List.cons_append, List.nil_append, Nat.reduceSub, Nat.reduceAdd, Nat.reduceLeDiff, Nat.reduceLT, Nat.reduceEqDiff, Nat.reduceMul, Bool.not_true, Bool.not_false, if_true, if_false, ite_true, ite_false, reduceIte, Bool.false_eq_true, reduceCtorEq, VD.LIM, VD.noX, -Int.reducePow, -Int.reduceToNat, hp, hd, hd7, m1, m2, m3, m4, m5, hlen, app, hq, l0, l1, l2, hy, hz])
  rw [rng_len] at h2
  obtain ⟨l, c', b, d, hn, h2⟩ := h2
  exact ⟨l, ρ', h1, hn, _, _, _, h2⟩
theorem numbers_eq (ns : List Int) (i count : Nat) (hl : ns.length ≤ 63) (hc : count ≤ 1000) : ∃ l, m__law_numbers [.scr ns, .int i, .int count] = .ok (.own (DI l)) ∧ Nm l count := by
  have m1 : ∀ x, mulB 1000003 x = true := fun x => mulB_l (by decide)
  have m2 : ∀ x, mulB 2 x = true := fun x => mulB_l (by decide)
  obtain ⟨c0, hc0⟩ : ∃ c0 : Int, 1000003 * ((i : Int) + 1) = c0 := ⟨_, rfl⟩
  have hc1 : 0 < c0 := by omega
  obtain ⟨j, hj⟩ : ∃ j : Int, (i : Int) = j := ⟨_, rfl⟩
  rw [hj] at hc0
  by_cases h : i < ns.length
  · have hx : opIx (.scr ns) (.int i) = .ok (.d (.int ns[i])) := by
      unfold opIx
      simp only [atD_nat h]
    have hd : decide ((i : Int) < (ns.length : Int)) = true := decide_eq_true (by omega)
    cases hq : decide (ns[i] < 0) with
    | true =>
      obtain ⟨l, ρ', h1, hn, a, b, d, rfl⟩ := numbers_loop ns j count hc (1 - 2 * ns[i])
      refine ⟨l, ?_, hn⟩
      rw [hj] at hx hd ⊢
      simp only [m__law_numbers, b__law_numbers, VD.run, VD.begin0, VD.sSeq, VD.Out.thn, VD.sIf, VD.got_ok, VD.got_ex, VD.got_bad, VD.sRet, VD.sRetV, VD.sSet, VD.setB, VD.sDrop, VD.sFz, VD.fz1, VD.sApp, VD.sRev, VD.sNext, VD.sRaise, VD.sAug, VD.sFor, VD.sTry, VD.clr, VD.oE, VD.eFz, VD.frz, VD.oOp, VD.oUn, VD.oCall, VD.oCallN, VD.oMethL, VD.oSl, VD.pNone, VD.pSome, VD.aCons, VD.aNil, VD.eLook, VD.eVar, VD.eC, VD.eAnd, VD.eOr, VD.eNot, VD.eIf, VD.oChain, VD.oLst, VD.oTup, VD.oLc, VD.bYes, VD.nName, VD.nTup, VD.nCons, VD.nNil, VD.wList, VD.wStr, VD.wRange1, VD.wZip, VD.wipeB, VD.XR.bind_ok, VD.XR.bind_ex, VD.XR.bind_bad, VD.bOf, VD.bNot, VD.bOr, VD.bAnd, VD.opAdd, VD.opSub, VD.opMul, VD.opMod, VD.opNeg, VD.opDiv, VD.opPow, VD.opLt, VD.opLe, VD.opGt, VD.opGe, VD.opIs, VD.opIsNot, VD.isNon, VD.opIsi, VD.isTy, VD.opRev, VD.cLen, VD.cList, VD.cTuple, VD.cInt, VD.eI, List.length_cons, List.length_nil, List.length_map, List.map_cons, List.map_nil, List.getElem?_cons_zero, List.getElem?_cons_succ, List.set_cons_zero, List.set_cons_succ, List.replicate_succ, List.replicate_zero, List.cons_append, List.nil_append, Nat.reduceSub, Nat.reduceAdd, Nat.reduceLeDiff, Nat.reduceLT, Nat.reduceEqDiff, Nat.reduceMul, Bool.not_true, Bool.not_false, if_true, if_false, ite_true, ite_false, reduceIte, Bool.false_eq_true, reduceCtorEq, VD.LIM, VD.noX, m1, m2, hc0, hx, hd, hq, h1]
    | false =>
      obtain ⟨l, ρ', h1, hn, a, b, d, rfl⟩ := numbers_loop ns j count hc ns[i]
      refine ⟨l, ?_, hn⟩
      rw [hj] at hx hd ⊢
      simp only [m__law_numbers, b__law_numbers, VD.run, VD.begin0, VD.sSeq, VD.Out.thn, VD.sIf, VD.got_ok, VD.got_ex, VD.got_bad, VD.sRet, VD.sRetV, VD.sSet, VD.setB, VD.sDrop, VD.sFz, VD.fz1, VD.sApp, VD.sRev, VD.sNext, VD.sRaise, VD.sAug, VD.sFor, VD.sTry, VD.clr, VD.oE, VD.eFz, VD.frz, VD.oOp, VD.oUn, VD.oCall, VD.oCallN, VD.oMethL, VD.oSl, VD.pNone, VD.pSome, VD.aCons, VD.aNil, VD.eLook, VD.eVar, VD.eC, VD.eAnd, VD.eOr, VD.eNot, VD.eIf, VD.oChain, VD.oLst, VD.oTup, VD.oLc, VD.bYes, VD.nName, VD.nTup, VD.nCons, VD.nNil, VD.wList, VD.wStr, VD.wRange1, VD.wZip, VD.wipeB, VD.XR.bind_ok, VD.XR.bind_ex, VD.XR.bind_bad, VD.bOf, VD.bNot, VD.bOr, VD.bAnd, VD.opAdd, VD.opSub, VD.opMul, VD.opMod, VD.opNeg, VD.opDiv, VD.opPow, VD.opLt, VD.opLe, VD.opGt, VD.opGe, VD.opIs, VD.opIsNot, VD.isNon, VD.opIsi, VD.isTy, VD.opRev, VD.cLen, VD.cList, VD.cTuple, VD.cInt, VD.eI, List.length_cons, List.length_nil, List.length_map, List.map_cons, List.map_nil, List.getElem?_cons_zero, List.getElem?_cons_succ, List.set_cons_zero, List.set_cons_succ, List.replicate_succ, List.replicate_zero, List.cons_append, List.nil_append, Nat.reduceSub, Nat.reduceAdd, Nat.reduceLeDiff, Nat.reduceLT, Nat.reduceEqDiff, Nat.reduceMul, Bool.not_true, Bool.not_false, if_true, if_false, ite_true, ite_false, reduceIte, Bool.false_eq_true, reduceCtorEq, VD.LIM, VD.noX, m1, m2, hc0, hx, hd, hq, h1]
  · have hd : decide ((i : Int) < (ns.length : Int)) = false := decide_eq_false (by omega)
    have hq : decide (c0 < 0) = false := decide_eq_false (by omega)
    obtain ⟨l, ρ', h1, hn, a, b, d, rfl⟩ := numbers_loop ns j count hc c0
    refine ⟨l, ?_, hn⟩
    rw [hj] at hd ⊢
    simp only [m__law_numbers, b__law_numbers, VD.run, VD.begin0, VD.sSeq, VD.Out.thn, VD.sIf, VD.got_ok, VD.got_ex, VD.got_bad, VD.sRet, VD.sRetV, VD.sSet, VD.setB, VD.sDrop, VD.sFz, VD.fz1, VD.sApp, VD.sRev, VD.sNext, VD.sRaise, VD.sAug, VD.sFor, VD.sTry, VD.clr, VD.oE, VD.eFz, VD.frz, VD.oOp, VD.oUn, VD.oCall, VD.oCallN, VD.oMethL, VD.oSl, VD.pNone, VD.pSome, VD.aCons, VD.aNil, VD.eLook, VD.eVar, VD.eC, VD.eAnd, VD.eOr, VD.eNot, VD.eIf, VD.oChain, VD.oLst, VD.oTup, VD.oLc, VD.bYes, VD.nName, VD.nTup, VD.nCons, VD.nNil, VD.wList, VD.wStr, VD.wRange1, VD.wZip, VD.wipeB, VD.XR.bind_ok, VD.XR.bind_ex, VD.XR.bind_bad, VD.bOf, VD.bNot, VD.bOr, VD.bAnd, VD.opAdd, VD.opSub, VD.opMul, VD.opMod, VD.opNeg, VD.opDiv, VD.opPow, VD.opLt, VD.opLe, VD.opGt, VD.opGe, VD.opIs, VD.opIsNot, VD.isNon, VD.opIsi, VD.isTy, VD.opRev, VD.cLen, VD.cList, VD.cTuple, VD.cInt, VD.eI, List.length_cons, List.length_nil, List.length_map, List.map_cons, List.map_nil, List.getElem?_cons_zero, List.getElem?_cons_succ, List.set_cons_zero, List.set_cons_succ, List.replicate_succ, List.replicate_zero, List.cons_append, List.nil_append, Nat.reduceSub, Nat.reduceAdd, Nat.reduceLeDiff, Nat.reduceLT, Nat.reduceEqDiff, Nat.reduceMul, Bool.not_true, Bool.not_false, if_true, if_false, ite_true, ite_false, reduceIte, Bool.false_eq_true, reduceCtorEq, VD.LIM, VD.noX, m1, m2, hc0, hd, hq, h1]
def nI (l : List Int) (i : Nat) : Int := l.getD i 0
theorem opIx_nI {l : List Int} {i : Nat} (h : i < l.length) : opIx (DI l) (.int (i : Int)) = .ok (.d (.int (nI l i))) := by
  rw [opIx_DI h]
  unfold nI
  simp [h]
theorem Nm.nI {l : List Int} {c : Nat} (h : Nm l c) {i : Nat} (hi : i < c) : 0 ≤ nI l i ∧ nI l i < 1009 := by
  have hl : i < l.length := by rw [h.len]; exact hi
  have : G.nI l i = l[i] := by unfold G.nI; simp [hl]
  rw [this]
  exact h.rg _ (List.getElem_mem hl)
def sg (i : Nat) : Nat := SGN.cps.toList.getD i 0
theorem sg_len : SGN.cps.toList.length = 36 := by decide +kernel
theorem sg_let : ∀ i, i < 26 → signIn (sg i) LET = true := by decide +kernel
theorem sg_ok : ∀ i, i < 36 → signOk (sg i) = true := by decide +kernel
theorem sg_z : ∀ i, i < 36 → sg i = 122 → i = 25 := by decide +kernel
theorem sg_small : ∀ i, i < 36 → sg i < 0x110000 := by decide +kernel
theorem sgn_ix {i : Nat} (h : i < 36) : opIx (.str SGN) (.int (i : Int)) = .ok (.d (.str ⟨#[sg i]⟩)) := by
  unfold opIx
  have hl : SGN.length ≤ LIM := by rw [len_list, sg_len]; decide
  have h' : i < SGN.cps.toList.length := by rw [sg_len]; exact h
  simp only [if_pos hl, atD_nat h']
  unfold sg
  rw [List.getD_eq_getElem?_getD, List.getElem?_eq_getElem h']
  rfl
theorem app_list (s : Str) (c : Nat) : (s ++ (⟨#[c]⟩ : Str)).cps.toList = s.cps.toList ++ [c] := by
  show (s.cps ++ #[c]).toList = _
  simp
theorem app_len (s : Str) (c : Nat) : (s ++ (⟨#[c]⟩ : Str)).length = s.length + 1 := by rw [len_list, app_list, len_list, List.length_append]; rfl
abbrev ZZZ : Str := Str.ofString "zzzzzzzzzzzz"
theorem no_z : ∀ n, n < 1009 → ¬((2 * n + 1 + n / 7) % 36 = 25 ∧ (4 * n + 3 + n / 7) % 36 = 25) := by decide +kernel
/-- a drawn name -/
structure Nme (s : Str) : Prop where
  ok : okName s = true
  st : strOkD s = true
  nz : s ≠ ZZZ
theorem name_eq {l : List Int} {c a : Nat} (h : Nm l c) (ha : a + 3 < c) : ∃ s, m__law_name [DI l, .int a, .int 12] = .ok (.d (.str s)) ∧ Nme s := by
  have hlc : l.length = c := h.len
  obtain ⟨n0, hn0⟩ : ∃ n : Nat, nI l a = n := ⟨(nI l a).toNat, by have := h.nI (i := a) (by omega); omega⟩
  obtain ⟨n1, hn1⟩ : ∃ n : Nat, nI l (a + 1) = n := ⟨(nI l (a + 1)).toNat, by have := h.nI (i := a + 1) (by omega); omega⟩
  obtain ⟨n2, hn2⟩ : ∃ n : Nat, nI l (a + 2) = n := ⟨(nI l (a + 2)).toNat, by have := h.nI (i := a + 2) (by omega); omega⟩
  have b2 : n2 < 1009 := by have := h.nI (i := a + 2) (by omega); omega
  let q : Nat → Nat := fun k => if k % 2 = 0 then n1 else n2
  let F : Nat → Nat := fun k => sg ((n2 * (k + 1) + q k / 7 + k) % 36)
  have x0 : opIx (DI l) (.int (a : Int)) = .ok (.d (.int n0)) := by rw [opIx_nI (by omega), hn0]
  have x1 : opIx (DI l) (.int ((a : Int) + 1)) = .ok (.d (.int n1)) := by
    have := opIx_nI (l := l) (i := a + 1) (by omega)
    rw [hn1] at this; exact this
  have x2 : opIx (DI l) (.int ((a : Int) + 2)) = .ok (.d (.int n2)) := by
    have := opIx_nI (l := l) (i := a + 2) (by omega)
    rw [hn2] at this; exact this
  have xq : ∀ k : Nat, opIx (DI l) (.int ((a : Int) + 1 + (k : Int) % 2)) = .ok (.d (.int (q k : Nat))) := by
    intro k
    have := opIx_nI (l := l) (i := a + 1 + k % 2) (by omega)
    show opIx (DI l) (.int ((a + 1 + k % 2 : Nat) : Int)) = _
    rw [this]
    show XR.ok (B.d (D.int _)) = XR.ok (B.d (D.int (((if k % 2 = 0 then n1 else n2 : Nat) : Nat) : Int)))
    by_cases g : k % 2 = 0
    · rw [if_pos g, g, ← hn1]
    · rw [if_neg g, show k % 2 = 1 by omega, ← hn2]
  have hm : n1 % 12 ≤ 11 := by omega
  have l26 : (0 : Int) < 26 := by decide
  have l12 : (0 : Int) < 12 := by decide
  have l2 : (0 : Int) < 2 := by decide
  have l36 : (0 : Int) < 36 := by decide
  have hd7 : divB 7 = true := by decide
  have s0 := sgn_ix (i := n0 % 26) (by omega)
  have e0 : (n0 : Int) % 26 = ((n0 % 26 : Nat) : Int) := rfl
  obtain ⟨ρ', h1, s, v, hs, h2⟩ : ∃ ρ', L__law_name_1 [.d (DI l), .d (.int a), .d (.int 12), .d (.str SGN), .d (.str ⟨#[sg (n0 % 26)]⟩), .nil] = .nx ρ' ∧ ∃ s v, s.cps.toList = sg (n0 % 26) :: (List.range (n1 % 12)).map F ∧ ρ' = [.d (DI l), .d (.int a), .d (.int 12), .d (.str SGN), .d (.str s), v] := by
    obtain ⟨ρ', h1, h2⟩ := sFor_inv (i := (wRange1 (eFz (oOp opMod (eFz (oOp opIx (eLook 0) (eFz (oOp opAdd (eLook 1) (eC (.int 1)))))) (eLook 2))))) (g := nName 5) (b := K__law_name_1) (rng 0 (n1 % 12)) (fun k ρ => ∃ s v, s.cps.toList = sg (n0 % 26) :: (List.range k).map F ∧ ρ = [.d (DI l), .d (.int a), .d (.int 12), .d (.str SGN), .d (.str s), v]) (range1_eq (ρ := [.d (DI l), .d (.int a), .d (.int 12), .d (.str SGN), .d (.str ⟨#[sg (n0 % 26)]⟩), .nil]) (n1 % 12) (j := (n1 : Int) % 12) (by simp only [VD.run, VD.begin0, VD.sSeq, VD.Out.thn, VD.sIf, VD.got_ok, VD.got_ex, VD.got_bad, VD.sRet, VD.sRetV, VD.sSet, VD.setB, VD.sDrop, VD.sFz, VD.fz1, VD.sApp, VD.sRev, VD.sNext, VD.sRaise, VD.sAug, VD.sFor, VD.sTry, VD.clr, VD.oE, VD.eFz, VD.frz, VD.oOp, VD.oUn, VD.oCall, VD.oCallN, VD.oMethL, VD.oSl, VD.pNone, VD.pSome, VD.aCons, VD.aNil, VD.eLook, VD.eVar, VD.eC, VD.eAnd, VD.eOr, VD.eNot, VD.eIf, VD.oChain, VD.oLst, VD.oTup, VD.oLc, VD.bYes, VD.nName, VD.nTup, VD.nCons, VD.nNil, VD.wList, VD.wStr, VD.wRange1, VD.wZip, VD.wipeB, VD.XR.bind_ok, VD.XR.bind_ex, VD.XR.bind_bad, VD.bOf, VD.bNot, VD.bOr, VD.bAnd, VD.opAdd, VD.opSub, VD.opMul, VD.opMod, VD.opNeg, VD.opDiv, VD.opPow, VD.opLt, VD.opLe, VD.opGt, VD.opGe, VD.opIs, VD.opIsNot, VD.isNon, VD.opIsi, VD.isTy, VD.opRev, VD.cLen, VD.cList, VD.cTuple, VD.cInt, VD.eI, List.length_cons, List.length_nil, List.length_map, List.map_cons, List.map_nil, List.getElem?_cons_zero, List.getElem?_cons_succ, List.set_cons_zero, List.set_cons_succ, List.replicate_succ, List.replicate_zero, List.cons_append, List.nil_append, Nat.reduceSub, Nat.reduceAdd, Nat.reduceLeDiff, Nat.reduceLT, Nat.reduceEqDiff, Nat.reduceMul, Bool.not_true, Bool.not_false, if_true, if_false, ite_true, ite_false, reduceIte, Bool.false_eq_true, reduceCtorEq, VD.LIM, VD.noX, x1, l12]) rfl (by omega)) ⟨_, _, rfl, rfl⟩ (by
      rintro k x _ hx ⟨s, v, hs, rfl⟩
      obtain ⟨hk, rfl⟩ := rng_get hx
      have e1 : ((n2 : Int) * ((k : Int) + 1) + ((q k : Nat) : Int) / 7 + (k : Int)) % 36 = (((n2 * (k + 1) + q k / 7 + k) % 36 : Nat) : Int) := rfl
      have s1 := sgn_ix (i := (n2 * (k + 1) + q k / 7 + k) % 36) (by omega)
      have m1 : mulB (n2 : Int) ((k : Int) + 1) = true := mulB_l (by omega)
      have hl1 : (⟨#[sg ((n2 * (k + 1) + q k / 7 + k) % 36)]⟩ : Str).length = 1 := rfl
      have hl2 : s.length + 1 ≤ 100000 := by
        rw [len_list, hs, List.length_cons, List.length_map, List.length_range]; omega
      refine ⟨_, _, rfl, ?_, s ++ ⟨#[F k]⟩, .d (.int k), ?_, rfl⟩
      · simp only [K__law_name_1, VD.run, VD.begin0, VD.sSeq, VD.Out.thn, VD.sIf, VD.got_ok, VD.got_ex, VD.got_bad, VD.sRet, VD.sRetV, VD.sSet, VD.setB, VD.sDrop, VD.sFz, VD.fz1, VD.sApp, VD.sRev, VD.sNext, VD.sRaise, VD.sAug, VD.sFor, VD.sTry, VD.clr, VD.oE, VD.eFz, VD.frz, VD.oOp, VD.oUn, VD.oCall, VD.oCallN, VD.oMethL, VD.oSl, VD.pNone, VD.pSome, VD.aCons, VD.aNil, VD.eLook, VD.eVar, VD.eC, VD.eAnd, VD.eOr, VD.eNot, VD.eIf, VD.oChain, VD.oLst, VD.oTup, VD.oLc, VD.bYes, VD.nName, VD.nTup, VD.nCons, VD.nNil, VD.wList, VD.wStr, VD.wRange1, VD.wZip, VD.wipeB, VD.XR.bind_ok, VD.XR.bind_ex, VD.XR.bind_bad, VD.bOf, VD.bNot, VD.bOr, VD.bAnd, VD.opAdd, VD.opSub, VD.opMul, VD.opMod, VD.opNeg, VD.opDiv, VD.opPow, VD.opLt, VD.opLe, VD.opGt, VD.opGe, VD.opIs, VD.opIsNot, VD.isNon, VD.opIsi, VD.isTy, VD.opRev, VD.cLen, VD.cList, VD.cTuple, VD.cInt, VD.eI, List.length_cons, List.length_nil, List.length_map, List.map_cons, List.map_nil, List.getElem?_cons_zero, List.getElem?_cons_succ, List.set_cons_zero, List.set_cons_succ, List.replicate_succ, List.replicate_zero, List.cons_append, List.nil_append, Nat.reduceSub, Nat.reduceAdd, Nat.reduceLeDiff, Nat.reduceLT, Nat.reduceEqDiff, Nat.reduceMul, Bool.not_true, Bool.not_false, if_true, if_false, ite_true, ite_false, reduceIte, Bool.false_eq_true, reduceCtorEq, VD.LIM, VD.noX, x2, xq, l2, hd7, m1, e1, l36, s1, hl1, hl2]
        rfl
      · rw [app_list, hs, List.range_succ, List.map_append]
        rfl)
    rw [rng_len] at h2
    exact ⟨ρ', h1, h2⟩
  subst h2
  have hF : ∀ k, signOk (F k) = true := fun k => sg_ok _ (by omega)
  have hF2 : ∀ k, F k < 0x110000 := fun k => sg_small _ (by omega)
  have hlen : s.length = n1 % 12 + 1 := by rw [len_list, hs, List.length_cons, List.length_map, List.length_range]
  refine ⟨s, ?_, ?_, ?_, ?_⟩
  · simp only [m__law_name, b__law_name, VD.run, VD.begin0, VD.sSeq, VD.Out.thn, VD.sIf, VD.got_ok, VD.got_ex, VD.got_bad, VD.sRet, VD.sRetV, VD.sSet, VD.setB, VD.sDrop, VD.sFz, VD.fz1, VD.sApp, VD.sRev, VD.sNext, VD.sRaise, VD.sAug, VD.sFor, VD.sTry, VD.clr, VD.oE, VD.eFz, VD.frz, VD.oOp, VD.oUn, VD.oCall, VD.oCallN, VD.oMethL, VD.oSl, VD.pNone, VD.pSome, VD.aCons, VD.aNil, VD.eLook, VD.eVar, VD.eC, VD.eAnd, VD.eOr, VD.eNot, VD.eIf, VD.oChain, VD.oLst, VD.oTup, VD.oLc, VD.bYes, VD.nName, VD.nTup, VD.nCons, VD.nNil, VD.wList, VD.wStr, VD.wRange1, VD.wZip, VD.wipeB, VD.XR.bind_ok, VD.XR.bind_ex, VD.XR.bind_bad, VD.bOf, VD.bNot, VD.bOr, VD.bAnd, VD.opAdd, VD.opSub, VD.opMul, VD.opMod, VD.opNeg, VD.opDiv, VD.opPow, VD.opLt, VD.opLe, VD.opGt, VD.opGe, VD.opIs, VD.opIsNot, VD.isNon, VD.opIsi, VD.isTy, VD.opRev, VD.cLen, VD.cList, VD.cTuple, VD.cInt, VD.eI, List.length_cons, List.length_nil, List.length_map, List.map_cons, List.map_nil, List.getElem?_cons_zero, List.getElem?_cons_succ, List.set_cons_zero, List.set_cons_succ, List.replicate_succ, List.replicate_zero, List.cons_append, List.nil_append, Nat.reduceSub, Nat.reduceAdd, Nat.reduceLeDiff, Nat.reduceLT, Nat.reduceEqDiff, Nat.reduceMul, Bool.not_true, Bool.not_false, if_true, if_false, ite_true, ite_false, reduceIte, Bool.false_eq_true, reduceCtorEq, VD.LIM, VD.noX, x0, l26, e0, s0, h1]
  · unfold okName nameSigns
    rw [hs, decide_eq_true (by omega : 1 ≤ s.length), decide_eq_true (by omega : s.length ≤ 12)]
    simp only [Bool.true_and, Bool.and_eq_true, List.all_cons, List.all_eq_true]
    refine ⟨sg_let _ (by omega), sg_ok _ (by omega), fun x hx => ?_⟩
    obtain ⟨k, _, rfl⟩ := List.mem_map.mp hx
    exact hF k
  · unfold strOkD
    rw [← Array.all_toList, hs, List.all_eq_true]
    intro x hx
    rcases List.mem_cons.mp hx with rfl | hx
    · exact decide_eq_true (sg_small _ (by omega))
    · obtain ⟨k, _, rfl⟩ := List.mem_map.mp hx
      exact decide_eq_true (hF2 k)
  · intro hz
    have hz2 : s.cps.toList = List.replicate 12 122 := by rw [hz]; decide +kernel
    have h12 : n1 % 12 = 11 := by
      have := congrArg List.length hz2
      rw [← len_list, hlen, List.length_replicate] at this
      omega
    rw [hs, h12] at hz2
    have z2 : F 1 = 122 := by
      have := congrArg (fun l => l[2]?) hz2
      simpa using this
    have z4 : F 3 = 122 := by
      have := congrArg (fun l => l[4]?) hz2
      simpa using this
    have y2 := sg_z _ (by omega) z2
    have y4 := sg_z _ (by omega) z4
    refine no_z n2 b2 ⟨?_, ?_⟩
    · have : q 1 = n2 := rfl
      rw [this] at y2
      rw [← y2]; congr 1; omega
    · have : q 3 = n2 := rfl
      rw [this] at y4
      rw [← y4]; congr 1; omega
end G

set_option Elab.async false
set_option linter.all false
set_option maxRecDepth 100000
set_option maxHeartbeats 0
namespace G
open PySem VD
theorem names_eq (ns : List Int) (hns : ns.length ≤ 63) (many : Nat) (hm : many ≤ 60) : ∃ l, m__law_names [.scr ns, .int 1, .int many, .int 12] = .ok (.own (DS l)) ∧ l.Nodup ∧ (∀ s, s ∈ l → Nme s) ∧ l.length ≤ many := by
  obtain ⟨ρ', h1, l, a, b, d, hnd, hnm, hlen, h2⟩ : ∃ ρ', L__law_names_1 [.d (.scr ns), .d (.int 1), .d (.int many), .d (.int 12), .own (.lst []), .nil, .nil, .nil] = .nx ρ' ∧ ∃ l a b d, l.Nodup ∧ (∀ s, s ∈ l → Nme s) ∧ l.length ≤ many ∧ ρ' = [.d (.scr ns), .d (.int 1), .d (.int many), .d (.int 12), .own (DS l), a, b, d] := by
    obtain ⟨ρ', h1, h2⟩ := sFor_inv (g := nName 5) (b := K__law_names_1) (rng 0 many) (fun k ρ => ∃ l a b d, l.Nodup ∧ (∀ s, s ∈ l → Nme s) ∧ l.length ≤ k ∧ ρ = [.d (.scr ns), .d (.int 1), .d (.int many), .d (.int 12), .own (DS l), a, b, d]) (range1_eq (e := eLook 2) (ρ := [.d (.scr ns), .d (.int 1), .d (.int many), .d (.int 12), .own (.lst []), .nil, .nil, .nil]) many rfl rfl (by omega)) ⟨[], .nil, .nil, .nil, List.nodup_nil, (fun _ h => nomatch h), Nat.le_refl _, rfl⟩ (by
      rintro k x _ hx ⟨l, a, b, d, hnd, hnm, hlen, rfl⟩
      obtain ⟨hk, rfl⟩ := rng_get hx
      obtain ⟨ms, e1, hms⟩ := numbers_eq ns (1 + k / 10) (4 * (1 + k % 10)) hns (by omega)
      obtain ⟨s, e2, hs⟩ := name_eq (a := 4 * (k % 10)) hms (by omega)
      have l10 : (0 : Int) < 10 := by decide
      have d10 : divB 10 = true := by decide
      have m4 : ∀ x, mulB 4 x = true := fun x => mulB_l (by decide)
      have q1 : (1 : Int) + (k : Int) / 10 = ((1 + k / 10 : Nat) : Int) := rfl
      have q2 : (4 : Int) * (1 + (k : Int) % 10) = ((4 * (1 + k % 10) : Nat) : Int) := rfl
      have q3 : (4 : Int) * ((k : Int) % 10) = ((4 * (k % 10) : Nat) : Int) := rfl
      have hl2 : l.length < 100000 := by omega
      have app : List.map D.str l ++ [D.str s] = List.map D.str (l ++ [s]) := by rw [List.map_append]; rfl
      have e3 := opNotIn_DS s l
      by_cases g : s ∈ l
      · rw [decide_eq_true g] at e3
        refine ⟨_, _, rfl, ?_, l, .d (.int k), .d (DI ms), .d (.str s), hnd, hnm, by omega, rfl⟩
        simp only [K__law_names_1, VD.run, VD.begin0, VD.sSeq, VD.Out.thn, VD.sIf, VD.got_ok, VD.got_ex, VD.got_bad, VD.sRet, VD.sRetV, VD.sSet, VD.setB, VD.sDrop, VD.sFz, VD.fz1, VD.sApp, VD.sRev, VD.sNext, VD.sRaise, VD.sAug, VD.sFor, VD.sTry, VD.clr, VD.oE, VD.eFz, VD.frz, VD.oOp, VD.oUn, VD.oCall, VD.oCallN, VD.oMethL, VD.oSl, VD.pNone, VD.pSome, VD.aCons, VD.aNil, VD.eLook, VD.eVar, VD.eC, VD.eAnd, VD.eOr, VD.eNot, VD.eIf, VD.oChain, VD.oLst, VD.oTup, VD.oLc, VD.bYes, VD.nName, VD.nTup, VD.nCons, VD.nNil, VD.wList, VD.wStr, VD.wRange1, VD.wZip, VD.wipeB, VD.XR.bind_ok, VD.XR.bind_ex, VD.XR.bind_bad, VD.bOf, VD.bNot, VD.bOr, VD.bAnd, VD.opAdd, VD.opSub, VD.opMul, VD.opMod, VD.opNeg, VD.opDiv, VD.opPow, VD.opLt, VD.opLe, VD.opGt, VD.opGe, VD.opIs, VD.opIsNot, VD.isNon, VD.opIsi, VD.isTy, VD.opRev, VD.cLen, VD.cList, VD.cTuple, VD.cInt, VD.eI, List.length_cons, List.length_nil, List.length_map, List.map_cons, List.map_nil, List.getElem?_cons_zero, List.getElem?_cons_succ, List.set_cons_zero, List.set_cons_succ, List.replicate_succ, List.replicate_zero, List.cons_append, List.nil_append, Nat.reduceSub, Nat.reduceAdd, Nat.reduceLeDiff, Nat.reduceLT, Nat.reduceEqDiff, Nat.reduceMul, Bool.not_true, Bool.not_false, if_true, if_false, ite_true, ite_false, reduceIte, Bool.false_eq_true, reduceCtorEq, VD.LIM, VD.noX, l10, d10, m4, q1, q2, q3, e1, e2, e3]
      · rw [decide_eq_false g] at e3
        refine ⟨_, _, rfl, ?_, l ++ [s], .d (.int k), .d (DI ms), .d (.str s), ?_, ?_, ?_, rfl⟩
        · simp only [K__law_names_1, VD.run, VD.begin0, VD.sSeq, VD.Out.thn, VD.sIf, VD.got_ok, VD.got_ex, VD.got_bad, VD.sRet, VD.sRetV, VD.sSet, VD.setB, VD.sDrop, VD.sFz, VD.fz1, VD.sApp, VD.sRev, VD.sNext, VD.sRaise, VD.sAug, VD.sFor, VD.sTry, VD.clr, VD.oE, VD.eFz, VD.frz, VD.oOp, VD.oUn, VD.oCall, VD.oCallN, VD.oMethL, VD.oSl, VD.pNone, VD.pSome, VD.aCons, VD.aNil, VD.eLook, VD.eVar, VD.eC, VD.eAnd, VD.eOr, VD.eNot, VD.eIf, VD.oChain, VD.oLst, VD.oTup, VD.oLc, VD.bYes, VD.nName, VD.nTup, VD.nCons, VD.nNil, VD.wList, VD.wStr, VD.wRange1, VD.wZip, VD.wipeB, VD.XR.bind_ok, VD.XR.bind_ex, VD.XR.bind_bad, VD.bOf, VD.bNot, VD.bOr, VD.bAnd, VD.opAdd, VD.opSub, VD.opMul, VD.opMod, VD.opNeg, VD.opDiv, VD.opPow, VD.opLt, VD.opLe, VD.opGt, VD.opGe, VD.opIs, VD.opIsNot, VD.isNon, VD.opIsi, VD.isTy, VD.opRev, VD.cLen, VD.cList, VD.cTuple, VD.cInt, VD.eI, List.length_cons, List.length_nil, List.length_map, List.map_cons, List.map_nil, List.getElem?_cons_zero, List.getElem?_cons_succ, List.set_cons_zero, List.set_cons_succ, List.replicate_succ, List.replicate_zero, List.cons_append, List.nil_append, Nat.reduceSub, Nat.reduceAdd, Nat.reduceLeDiff, Nat.reduceLT, Nat.reduceEqDiff, Nat.reduceMul, Bool.not_true, Bool.not_false, if_true, if_false, ite_true, ite_false, reduceIte, Bool.false_eq_true, reduceCtorEq, VD.LIM, VD.noX, l10, d10, m4, q1, q2, q3, e1, e2, e3, hl2, app]
        · refine List.nodup_append.mpr ⟨hnd, by simp, ?_⟩
          intro x hx y hy
          rw [List.mem_singleton.mp hy]
          intro e
          exact g (e ▸ hx)
        · intro y hy
          rcases List.mem_append.mp hy with hy | hy
          · exact hnm y hy
          · rw [List.mem_singleton.mp hy]; exact hs
        · rw [List.length_append]
          exact Nat.succ_le_succ hlen)
    rw [rng_len] at h2
    exact ⟨ρ', h1, h2⟩
  subst h2
  refine ⟨l, ?_, hnd, hnm, hlen⟩
  simp only [m__law_names, b__law_names, VD.run, VD.begin0, VD.sSeq, VD.Out.thn, VD.sIf, VD.got_ok, VD.got_ex, VD.got_bad, VD.sRet, VD.sRetV, VD.sSet, VD.setB, VD.sDrop, VD.sFz, VD.fz1, VD.sApp, VD.sRev, VD.sNext, VD.sRaise, VD.sAug, VD.sFor, VD.sTry, VD.clr, VD.oE, VD.eFz, VD.frz, VD.oOp, VD.oUn, VD.oCall, VD.oCallN, VD.oMethL, VD.oSl, VD.pNone, VD.pSome, VD.aCons, VD.aNil, VD.eLook, VD.eVar, VD.eC, VD.eAnd, VD.eOr, VD.eNot, VD.eIf, VD.oChain, VD.oLst, VD.oTup, VD.oLc, VD.bYes, VD.nName, VD.nTup, VD.nCons, VD.nNil, VD.wList, VD.wStr, VD.wRange1, VD.wZip, VD.wipeB, VD.XR.bind_ok, VD.XR.bind_ex, VD.XR.bind_bad, VD.bOf, VD.bNot, VD.bOr, VD.bAnd, VD.opAdd, VD.opSub, VD.opMul, VD.opMod, VD.opNeg, VD.opDiv, VD.opPow, VD.opLt, VD.opLe, VD.opGt, VD.opGe, VD.opIs, VD.opIsNot, VD.isNon, VD.opIsi, VD.isTy, VD.opRev, VD.cLen, VD.cList, VD.cTuple, VD.cInt, VD.eI, List.length_cons, List.length_nil, List.length_map, List.map_cons, List.map_nil, List.getElem?_cons_zero, List.getElem?_cons_succ, List.set_cons_zero, List.set_cons_succ, List.replicate_succ, List.replicate_zero, List.cons_append, List.nil_append, Nat.reduceSub, Nat.reduceAdd, Nat.reduceLeDiff, Nat.reduceLT, Nat.reduceEqDiff, Nat.reduceMul, Bool.not_true, Bool.not_false, if_true, if_false, ite_true, ite_false, reduceIte, Bool.false_eq_true, reduceCtorEq, VD.LIM, VD.noX, h1]
/-- drawn places -/
structure Dr (ps : List Str) : Prop where
  pl : Pl ps
  nz : ZZZ ∉ ps
theorem nme_short {s : Str} (h : Nme s) : s.length ≤ 100000 := by
  have o := h.ok
  unfold okName at o
  simp only [Bool.and_eq_true, decide_eq_true_eq] at o
  omega
theorem dr_of {ps : List Str} (a : Asc ps) (h : ∀ s, s ∈ ps → Nme s) (h2 : 2 ≤ ps.length) (h40 : ps.length ≤ 40) : Dr ps where
  pl := {
    ok := by
      unfold okP areP
      rw [of_asc a, decide_eq_true h2, decide_eq_true h40, decide_eq_true (by omega : 1 ≤ ps.length), show ps.all okName = true from List.all_eq_true.mpr fun s hs => (h s hs).ok]
      rfl
    sh := fun s hs => nme_short (h s hs)
    st := fun s hs => (h s hs).st }
  nz := fun hz => (h _ hz).nz rfl
theorem drawn_end (ns : List Int) (hns : ns.length ≤ 63) (many : Nat) (hm : many ≤ 40) : ∃ l ps, m__law_names [.scr ns, .int 1, .int many, .int 12] = .ok (.own (DS l)) ∧ cSorted [DS l] = .ok (.own (DS (sortS l))) ∧ Dr ps ∧ (decide (((sortS l).length : Int) < 2) = true → ps = [Str.ofString "a", Str.ofString "b"]) ∧ (decide (((sortS l).length : Int) < 2) = false → ps = sortS l) := by
  obtain ⟨l, e1, nd, nm, len⟩ := names_eq ns hns many (by omega)
  have es : cSorted [DS l] = .ok (.own (DS (sortS l))) := by
    unfold cSorted
    simp only [DS, allS_map]
    rw [if_pos (by omega)]
  by_cases g : (sortS l).length < 2
  · refine ⟨l, [Str.ofString "a", Str.ofString "b"], e1, es, ?_, fun _ => rfl, fun h => ?_⟩
    · refine dr_of (asc_of (by decide +kernel)) ?_ (by decide) (by decide)
      intro s hs
      rcases List.mem_cons.mp hs with rfl | hs
      · exact ⟨by decide +kernel, by decide +kernel, by decide +kernel⟩
      · rw [List.mem_singleton.mp hs]
        exact ⟨by decide +kernel, by decide +kernel, by decide +kernel⟩
    · rw [decide_eq_true (by omega)] at h; cases h
  · refine ⟨l, sortS l, e1, es, ?_, fun h => ?_, fun _ => rfl⟩
    · exact dr_of (sortS_asc nd) (fun s hs => nm s (mem_sortS.mp hs)) (by omega) (by rw [length_sortS]; omega)
    · rw [decide_eq_false (by omega)] at h; cases h
theorem drawn_places_eq (ns : List Int) (hns : ns.length ≤ 63) : ∃ ps, m__law_drawn_places [.scr ns, .int 12] = .ok (.own (DS ps)) ∧ Dr ps := by
  obtain ⟨sz, e0, hsz⟩ := numbers_eq ns 0 4 hns (by omega)
  have e0' : m__law_numbers [.scr ns, .int 0, .int 4] = .ok (.own (DI sz)) := e0
  have hl : sz.length = 4 := hsz.len
  obtain ⟨n0, hn0⟩ : ∃ n : Nat, nI sz 0 = n := ⟨(nI sz 0).toNat, by have := hsz.nI (i := 0) (by omega); omega⟩
  obtain ⟨n1, hn1⟩ : ∃ n : Nat, nI sz 1 = n := ⟨(nI sz 1).toNat, by have := hsz.nI (i := 1) (by omega); omega⟩
  have x0 : opIx (DI sz) (.int 0) = .ok (.d (.int n0)) := by
    have := opIx_nI (l := sz) (i := 0) (by omega)
    rw [hn0] at this; exact this
  have x1 : opIx (DI sz) (.int 1) = .ok (.d (.int n1)) := by
    have := opIx_nI (l := sz) (i := 1) (by omega)
    rw [hn1] at this; exact this
  have l11 : (0 : Int) < 12 - 1 := by decide
  have l11' : (0 : Int) < 11 := by decide
  have l10 : (0 : Int) < 10 := by decide
  have l5 : (0 : Int) < 5 := by decide
  have q1 : (2 : Int) + (n0 : Int) % (12 - 1) = ((2 + n0 % 11 : Nat) : Int) := rfl
  have q1' : (2 : Int) + (n0 : Int) % 11 = ((2 + n0 % 11 : Nat) : Int) := rfl
  have q2 : (36 : Int) + (n0 : Int) % 5 = ((36 + n0 % 5 : Nat) : Int) := rfl
  cases hq : decide ((n1 : Int) % 10 = 0) with
  | false =>
    obtain ⟨l, ps, h1, h2, h3, h4, h5⟩ := drawn_end ns hns (2 + n0 % 11) (by omega)
    refine ⟨ps, ?_, h3⟩
    cases hd : decide (((sortS l).length : Int) < 2) with
    | true =>
      have := h4 hd
      subst this
      simp only [m__law_drawn_places, b__law_drawn_places, VD.run, VD.begin0, VD.sSeq, VD.Out.thn, VD.sIf, VD.got_ok, VD.got_ex, VD.got_bad, VD.sRet, VD.sRetV, VD.sSet, VD.setB, VD.sDrop, VD.sFz, VD.fz1, VD.sApp, VD.sRev, VD.sNext, VD.sRaise, VD.sAug, VD.sFor, VD.sTry, VD.clr, VD.oE, VD.eFz, VD.frz, VD.oOp, VD.oUn, VD.oCall, VD.oCallN, VD.oMethL, VD.oSl, VD.pNone, VD.pSome, VD.aCons, VD.aNil, VD.eLook, VD.eVar, VD.eC, VD.eAnd, VD.eOr, VD.eNot, VD.eIf, VD.oChain, VD.oLst, VD.oTup, VD.oLc, VD.bYes, VD.nName, VD.nTup, VD.nCons, VD.nNil, VD.wList, VD.wStr, VD.wRange1, VD.wZip, VD.wipeB, VD.XR.bind_ok, VD.XR.bind_ex, VD.XR.bind_bad, VD.bOf, VD.bNot, VD.bOr, VD.bAnd, VD.opAdd, VD.opSub, VD.opMul, VD.opMod, VD.opNeg, VD.opDiv, VD.opPow, VD.opLt, VD.opLe, VD.opGt, VD.opGe, VD.opIs, VD.opIsNot, VD.isNon, VD.opIsi, VD.isTy, VD.opRev, VD.cLen, VD.cList, VD.cTuple, VD.cInt, VD.eI, List.length_cons, List.length_nil, List.length_map, List.map_cons, List.map_nil, List.getElem?_cons_zero, List.getElem?_cons_succ, List.set_cons_zero, List.set_cons_succ, List.replicate_succ, List.replicate_zero, List.cons_append, List.nil_append, Nat.reduceSub, Nat.reduceAdd, Nat.reduceLeDiff, Nat.reduceLT, Nat.reduceEqDiff, Nat.reduceMul, Bool.not_true, Bool.not_false, if_true, if_false, ite_true, ite_false, reduceIte, Bool.false_eq_true, reduceCtorEq, VD.LIM, VD.noX, e0', x0, x1, l11, l11', l10, q1, q1', opEq_int, hq, h1, h2, hd]
      rfl
    | false =>
      have := h5 hd
      subst this
      simp only [m__law_drawn_places, b__law_drawn_places, VD.run, VD.begin0, VD.sSeq, VD.Out.thn, VD.sIf, VD.got_ok, VD.got_ex, VD.got_bad, VD.sRet, VD.sRetV, VD.sSet, VD.setB, VD.sDrop, VD.sFz, VD.fz1, VD.sApp, VD.sRev, VD.sNext, VD.sRaise, VD.sAug, VD.sFor, VD.sTry, VD.clr, VD.oE, VD.eFz, VD.frz, VD.oOp, VD.oUn, VD.oCall, VD.oCallN, VD.oMethL, VD.oSl, VD.pNone, VD.pSome, VD.aCons, VD.aNil, VD.eLook, VD.eVar, VD.eC, VD.eAnd, VD.eOr, VD.eNot, VD.eIf, VD.oChain, VD.oLst, VD.oTup, VD.oLc, VD.bYes, VD.nName, VD.nTup, VD.nCons, VD.nNil, VD.wList, VD.wStr, VD.wRange1, VD.wZip, VD.wipeB, VD.XR.bind_ok, VD.XR.bind_ex, VD.XR.bind_bad, VD.bOf, VD.bNot, VD.bOr, VD.bAnd, VD.opAdd, VD.opSub, VD.opMul, VD.opMod, VD.opNeg, VD.opDiv, VD.opPow, VD.opLt, VD.opLe, VD.opGt, VD.opGe, VD.opIs, VD.opIsNot, VD.isNon, VD.opIsi, VD.isTy, VD.opRev, VD.cLen, VD.cList, VD.cTuple, VD.cInt, VD.eI, List.length_cons, List.length_nil, List.length_map, List.map_cons, List.map_nil, List.getElem?_cons_zero, List.getElem?_cons_succ, List.set_cons_zero, List.set_cons_succ, List.replicate_succ, List.replicate_zero, List.cons_append, List.nil_append, Nat.reduceSub, Nat.reduceAdd, Nat.reduceLeDiff, Nat.reduceLT, Nat.reduceEqDiff, Nat.reduceMul, Bool.not_true, Bool.not_false, if_true, if_false, ite_true, ite_false, reduceIte, Bool.false_eq_true, reduceCtorEq, VD.LIM, VD.noX, e0', x0, x1, l11, l11', l10, q1, q1', opEq_int, hq, h1, h2, hd]
  | true =>
    obtain ⟨l, ps, h1, h2, h3, h4, h5⟩ := drawn_end ns hns (36 + n0 % 5) (by omega)
    refine ⟨ps, ?_, h3⟩
    cases hd : decide (((sortS l).length : Int) < 2) with
    | true =>
      have := h4 hd
      subst this
      simp only [m__law_drawn_places, b__law_drawn_places, VD.run, VD.begin0, VD.sSeq, VD.Out.thn, VD.sIf, VD.got_ok, VD.got_ex, VD.got_bad, VD.sRet, VD.sRetV, VD.sSet, VD.setB, VD.sDrop, VD.sFz, VD.fz1, VD.sApp, VD.sRev, VD.sNext, VD.sRaise, VD.sAug, VD.sFor, VD.sTry, VD.clr, VD.oE, VD.eFz, VD.frz, VD.oOp, VD.oUn, VD.oCall, VD.oCallN, VD.oMethL, VD.oSl, VD.pNone, VD.pSome, VD.aCons, VD.aNil, VD.eLook, VD.eVar, VD.eC, VD.eAnd, VD.eOr, VD.eNot, VD.eIf, VD.oChain, VD.oLst, VD.oTup, VD.oLc, VD.bYes, VD.nName, VD.nTup, VD.nCons, VD.nNil, VD.wList, VD.wStr, VD.wRange1, VD.wZip, VD.wipeB, VD.XR.bind_ok, VD.XR.bind_ex, VD.XR.bind_bad, VD.bOf, VD.bNot, VD.bOr, VD.bAnd, VD.opAdd, VD.opSub, VD.opMul, VD.opMod, VD.opNeg, VD.opDiv, VD.opPow, VD.opLt, VD.opLe, VD.opGt, VD.opGe, VD.opIs, VD.opIsNot, VD.isNon, VD.opIsi, VD.isTy, VD.opRev, VD.cLen, VD.cList, VD.cTuple, VD.cInt, VD.eI, List.length_cons, List.length_nil, List.length_map, List.map_cons, List.map_nil, List.getElem?_cons_zero, List.getElem?_cons_succ, List.set_cons_zero, List.set_cons_succ, List.replicate_succ, List.replicate_zero, List.cons_append, List.nil_append, Nat.reduceSub, Nat.reduceAdd, Nat.reduceLeDiff, Nat.reduceLT, Nat.reduceEqDiff, Nat.reduceMul, Bool.not_true, Bool.not_false, if_true, if_false, ite_true, ite_false, reduceIte, Bool.false_eq_true, reduceCtorEq, VD.LIM, VD.noX, e0', x0, x1, l11, l11', l10, l5, q1, q1', q2, opEq_int, hq, h1, h2, hd]
      rfl
    | false =>
      have := h5 hd
      subst this
      simp only [m__law_drawn_places, b__law_drawn_places, VD.run, VD.begin0, VD.sSeq, VD.Out.thn, VD.sIf, VD.got_ok, VD.got_ex, VD.got_bad, VD.sRet, VD.sRetV, VD.sSet, VD.setB, VD.sDrop, VD.sFz, VD.fz1, VD.sApp, VD.sRev, VD.sNext, VD.sRaise, VD.sAug, VD.sFor, VD.sTry, VD.clr, VD.oE, VD.eFz, VD.frz, VD.oOp, VD.oUn, VD.oCall, VD.oCallN, VD.oMethL, VD.oSl, VD.pNone, VD.pSome, VD.aCons, VD.aNil, VD.eLook, VD.eVar, VD.eC, VD.eAnd, VD.eOr, VD.eNot, VD.eIf, VD.oChain, VD.oLst, VD.oTup, VD.oLc, VD.bYes, VD.nName, VD.nTup, VD.nCons, VD.nNil, VD.wList, VD.wStr, VD.wRange1, VD.wZip, VD.wipeB, VD.XR.bind_ok, VD.XR.bind_ex, VD.XR.bind_bad, VD.bOf, VD.bNot, VD.bOr, VD.bAnd, VD.opAdd, VD.opSub, VD.opMul, VD.opMod, VD.opNeg, VD.opDiv, VD.opPow, VD.opLt, VD.opLe, VD.opGt, VD.opGe, VD.opIs, VD.opIsNot, VD.isNon, VD.opIsi, VD.isTy, VD.opRev, VD.cLen, VD.cList, VD.cTuple, VD.cInt, VD.eI, List.length_cons, List.length_nil, List.length_map, List.map_cons, List.map_nil, List.getElem?_cons_zero, List.getElem?_cons_succ, List.set_cons_zero, List.set_cons_succ, List.replicate_succ, List.replicate_zero, List.cons_append, List.nil_append, Nat.reduceSub, Nat.reduceAdd, Nat.reduceLeDiff, Nat.reduceLT, Nat.reduceEqDiff, Nat.reduceMul, Bool.not_true, Bool.not_false, if_true, if_false, ite_true, ite_false, reduceIte, Bool.false_eq_true, reduceCtorEq, VD.LIM, VD.noX, e0', x0, x1, l11, l11', l10, l5, q1, q1', q2, opEq_int, hq, h1, h2, hd]
theorem drawn_row_eq (ns : List Int) (hns : ns.length ≤ 63) (i : Nat) {ps : List Str} (p : Pl ps) : ∃ r, m__law_drawn_row [.scr ns, .int i, DS ps] = .ok (.own (DS r)) ∧ Rw ps r := by
  obtain ⟨pa, p2, p40⟩ := p.parts
  obtain ⟨ms, e0, hms⟩ := numbers_eq ns i 60 hns (by omega)
  have e0' : m__law_numbers [.scr ns, .int i, .int 60] = .ok (.own (DI ms)) := e0
  have hl : ms.length = 60 := hms.len
  obtain ⟨f, hf⟩ : ∃ n : Nat, nI ms 59 = n := ⟨(nI ms 59).toNat, by have := hms.nI (i := 59) (by omega); omega⟩
  have x59 : opIx (DI ms) (.int 59) = .ok (.d (.int f)) := by
    have := opIx_nI (l := ms) (i := 59) (by omega)
    rw [hf] at this; exact this
  obtain ⟨few, hfew⟩ : ∃ few, few = 1 + f % ps.length := ⟨_, rfl⟩
  have hmod : f % ps.length < ps.length := Nat.mod_lt _ (by omega)
  have q1 : (1 : Int) + (f : Int) % (ps.length : Int) = (few : Int) := by rw [hfew]; rfl
  have lp : (0 : Int) < (ps.length : Int) := by omega
  have lf : (0 : Int) < (few : Int) := by omega
  have em : (ps.length : Int) - 2 = ((ps.length - 2 : Nat) : Int) := by omega
  obtain ⟨G, hG⟩ : ∃ G : Nat → Str, G = fun k => nth ps (((nI ms k).toNat * (k + 1)) % few) := ⟨_, rfl⟩
  have hc : C__law_drawn_row_1 [.d (.scr ns), .d (.int i), .d (DS ps), .own (DI ms), .d (.int few), .nil] = .ok (.own (DS ((List.range (ps.length - 2)).map G))) := by
    have := oLc_map (i := wRange1 (eFz (oOp opSub (eFz (oCall cLen (aCons (eLook 2) aNil))) (eC (.int 2))))) (g := nName 5) (e := E__law_drawn_row_1) (vs := [5]) (ρ := [.d (.scr ns), .d (.int i), .d (DS ps), .own (DI ms), .d (.int few), .nil]) (rng 0 (ps.length - 2)) (fun x => match x with | .int k => .str (G k.toNat) | _ => .non) (range1_eq (ps.length - 2) (j := (ps.length : Int) - 2) (by simp only [VD.run, VD.begin0, VD.sSeq, VD.Out.thn, VD.sIf, VD.got_ok, VD.got_ex, VD.got_bad, VD.sRet, VD.sRetV, VD.sSet, VD.setB, VD.sDrop, VD.sFz, VD.fz1, VD.sApp, VD.sRev, VD.sNext, VD.sRaise, VD.sAug, VD.sFor, VD.sTry, VD.clr, VD.oE, VD.eFz, VD.frz, VD.oOp, VD.oUn, VD.oCall, VD.oCallN, VD.oMethL, VD.oSl, VD.pNone, VD.pSome, VD.aCons, VD.aNil, VD.eLook, VD.eVar, VD.eC, VD.eAnd, VD.eOr, VD.eNot, VD.eIf, VD.oChain, VD.oLst, VD.oTup, VD.oLc, VD.bYes, VD.nName, VD.nTup, VD.nCons, VD.nNil, VD.wList, VD.wStr, VD.wRange1, VD.wZip, VD.wipeB, VD.XR.bind_ok, VD.XR.bind_ex, VD.XR.bind_bad, VD.bOf, VD.bNot, VD.bOr, VD.bAnd, VD.opAdd, VD.opSub, VD.opMul, VD.opMod, VD.opNeg, VD.opDiv, VD.opPow, VD.opLt, VD.opLe, VD.opGt, VD.opGe, VD.opIs, VD.opIsNot, VD.isNon, VD.opIsi, VD.isTy, VD.opRev, VD.cLen, VD.cList, VD.cTuple, VD.cInt, VD.eI, List.length_cons, List.length_nil, List.length_map, List.map_cons, List.map_nil, List.getElem?_cons_zero, List.getElem?_cons_succ, List.set_cons_zero, List.set_cons_succ, List.replicate_succ, List.replicate_zero, List.cons_append, List.nil_append, Nat.reduceSub, Nat.reduceAdd, Nat.reduceLeDiff, Nat.reduceLT, Nat.reduceEqDiff, Nat.reduceMul, Bool.not_true, Bool.not_false, if_true, if_false, ite_true, ite_false, reduceIte, Bool.false_eq_true, reduceCtorEq, VD.LIM, VD.noX, DS]) em (by omega)) (by rw [rng_len]; exact Nat.le_trans (by omega : ps.length - 2 ≤ 40) (by decide)) (by
      intro x hx
      obtain ⟨k, hk⟩ := List.mem_iff_getElem?.mp hx
      obtain ⟨hk, rfl⟩ := rng_get hk
      refine ⟨_, rfl, ?_⟩
      have n0 := hms.nI (i := k) (by omega)
      obtain ⟨n, hn⟩ : ∃ n : Nat, nI ms k = n := ⟨(nI ms k).toNat, by omega⟩
      have x1 := opIx_nI (l := ms) (i := k) (by omega)
      rw [hn] at x1
      have m1 : mulB (n : Int) ((k : Int) + 1) = true := mulB_l (by omega)
      have q2 : ((n : Int) * ((k : Int) + 1)) % (few : Int) = ((n * (k + 1) % few : Nat) : Int) := rfl
      have x2 := opIx_nth (l := ps) (i := n * (k + 1) % few) (by have := Nat.mod_lt (n * (k + 1)) (by omega : 0 < few); omega)
      have q3 : G k = nth ps (n * (k + 1) % few) := by rw [hG]; show nth ps ((nI ms k).toNat * (k + 1) % few) = _; rw [hn]; rfl
      have q4 : ((k : Nat) : Int).toNat = k := rfl
      simp only [E__law_drawn_row_1, VD.run, VD.begin0, VD.sSeq, VD.Out.thn, VD.sIf, VD.got_ok, VD.got_ex, VD.got_bad, VD.sRet, VD.sRetV, VD.sSet, VD.setB, VD.sDrop, VD.sFz, VD.fz1, VD.sApp, VD.sRev, VD.sNext, VD.sRaise, VD.sAug, VD.sFor, VD.sTry, VD.clr, VD.oE, VD.eFz, VD.frz, VD.oOp, VD.oUn, VD.oCall, VD.oCallN, VD.oMethL, VD.oSl, VD.pNone, VD.pSome, VD.aCons, VD.aNil, VD.eLook, VD.eVar, VD.eC, VD.eAnd, VD.eOr, VD.eNot, VD.eIf, VD.oChain, VD.oLst, VD.oTup, VD.oLc, VD.bYes, VD.nName, VD.nTup, VD.nCons, VD.nNil, VD.wList, VD.wStr, VD.wRange1, VD.wZip, VD.wipeB, VD.XR.bind_ok, VD.XR.bind_ex, VD.XR.bind_bad, VD.bOf, VD.bNot, VD.bOr, VD.bAnd, VD.opAdd, VD.opSub, VD.opMul, VD.opMod, VD.opNeg, VD.opDiv, VD.opPow, VD.opLt, VD.opLe, VD.opGt, VD.opGe, VD.opIs, VD.opIsNot, VD.isNon, VD.opIsi, VD.isTy, VD.opRev, VD.cLen, VD.cList, VD.cTuple, VD.cInt, VD.eI, List.length_cons, List.length_nil, List.length_map, List.map_cons, List.map_nil, List.getElem?_cons_zero, List.getElem?_cons_succ, List.set_cons_zero, List.set_cons_succ, List.replicate_succ, List.replicate_zero, List.cons_append, List.nil_append, Nat.reduceSub, Nat.reduceAdd, Nat.reduceLeDiff, Nat.reduceLT, Nat.reduceEqDiff, Nat.reduceMul, Bool.not_true, Bool.not_false, if_true, if_false, ite_true, ite_false, reduceIte, Bool.false_eq_true, reduceCtorEq, VD.LIM, VD.noX, wipeB, x1, m1, lf, q2, x2, q4, q3])
    show oLc _ _ _ _ _ _ = _
    refine Eq.trans this ?_
    unfold rng
    rw [List.map_map, DS, List.map_map]
    congr 3
    apply List.map_congr_left
    intro k _
    show D.str (G (((0 : Int) + (k : Nat)).toNat)) = D.str (G k)
    rw [Int.zero_add]
    rfl
  refine ⟨(List.range (ps.length - 2)).map G, ?_, ?_, ?_⟩
  · simp only [m__law_drawn_row, b__law_drawn_row, VD.run, VD.begin0, VD.sSeq, VD.Out.thn, VD.sIf, VD.got_ok, VD.got_ex, VD.got_bad, VD.sRet, VD.sRetV, VD.sSet, VD.setB, VD.sDrop, VD.sFz, VD.fz1, VD.sApp, VD.sRev, VD.sNext, VD.sRaise, VD.sAug, VD.sFor, VD.sTry, VD.clr, VD.oE, VD.eFz, VD.frz, VD.oOp, VD.oUn, VD.oCall, VD.oCallN, VD.oMethL, VD.oSl, VD.pNone, VD.pSome, VD.aCons, VD.aNil, VD.eLook, VD.eVar, VD.eC, VD.eAnd, VD.eOr, VD.eNot, VD.eIf, VD.oChain, VD.oLst, VD.oTup, VD.oLc, VD.bYes, VD.nName, VD.nTup, VD.nCons, VD.nNil, VD.wList, VD.wStr, VD.wRange1, VD.wZip, VD.wipeB, VD.XR.bind_ok, VD.XR.bind_ex, VD.XR.bind_bad, VD.bOf, VD.bNot, VD.bOr, VD.bAnd, VD.opAdd, VD.opSub, VD.opMul, VD.opMod, VD.opNeg, VD.opDiv, VD.opPow, VD.opLt, VD.opLe, VD.opGt, VD.opGe, VD.opIs, VD.opIsNot, VD.isNon, VD.opIsi, VD.isTy, VD.opRev, VD.cLen, VD.cList, VD.cTuple, VD.cInt, VD.eI, List.length_cons, List.length_nil, List.length_map, List.map_cons, List.map_nil, List.getElem?_cons_zero, List.getElem?_cons_succ, List.set_cons_zero, List.set_cons_succ, List.replicate_succ, List.replicate_zero, List.cons_append, List.nil_append, Nat.reduceSub, Nat.reduceAdd, Nat.reduceLeDiff, Nat.reduceLT, Nat.reduceEqDiff, Nat.reduceMul, Bool.not_true, Bool.not_false, if_true, if_false, ite_true, ite_false, reduceIte, Bool.false_eq_true, reduceCtorEq, VD.LIM, VD.noX, DS, e0', x59, lp, q1, hc]
  · rw [List.length_map, List.length_range]; omega
  · intro x hx
    obtain ⟨k, _, rfl⟩ := List.mem_map.mp hx
    rw [hG]
    refine nth_mem ?_
    have := Nat.mod_lt ((nI ms k).toNat * (k + 1)) (by omega : 0 < few)
    omega
end G

set_option Elab.async false
set_option linter.all false
set_option maxRecDepth 100000
set_option maxHeartbeats 0
namespace G
open PySem VD
theorem l1_eq (ns : List Int) (hns : ns.length ≤ 63) {ps : List Str} (p : Pl ps) (N : Int) : ∃ v, L_law_1 [.d (.scr ns), .own (DS ps), .d (.int ps.length), .d (.int N), .nil, .nil, .nil, .nil, .nil, .nil, .nil] = .nx [.d (.scr ns), .d (DS ps), .d (.int ps.length), .d (.int N), v, .nil, .nil, .nil, .nil, .nil, .nil] := by
  obtain ⟨ρ', h1, X, v, hX, rfl⟩ := sFor_inv (g := nName 4) (b := K_law_1) (rng 0 3) (fun k ρ => ∃ X v, (X = .d (DS ps) ∨ (k = 0 ∧ X = .own (DS ps))) ∧ ρ = [.d (.scr ns), X, .d (.int ps.length), .d (.int N), v, .nil, .nil, .nil, .nil, .nil, .nil]) (range1_eq (e := eC (.int 3)) (ρ := [.d (.scr ns), .own (DS ps), .d (.int ps.length), .d (.int N), .nil, .nil, .nil, .nil, .nil, .nil, .nil]) 3 rfl rfl (by omega)) ⟨_, _, .inr ⟨rfl, rfl⟩, rfl⟩ (by
    rintro k x _ hx ⟨X, v, hX, rfl⟩
    obtain ⟨hk, rfl⟩ := rng_get hx
    obtain ⟨r, e1, hr⟩ := drawn_row_eq ns hns (7 + k) p
    have e2 := holds_eq p hr
    have q1 : (7 : Int) + (k : Int) = ((7 + k : Nat) : Int) := rfl
    refine ⟨_, _, rfl, ?_, .d (DS ps), .d (.int k), .inl rfl, rfl⟩
    rcases hX with rfl | ⟨_, rfl⟩
    · simp only [K_law_1, VD.run, VD.begin0, VD.sSeq, VD.Out.thn, VD.sIf, VD.got_ok, VD.got_ex, VD.got_bad, VD.sRet, VD.sRetV, VD.sSet, VD.setB, VD.sDrop, VD.sFz, VD.fz1, VD.sApp, VD.sRev, VD.sNext, VD.sRaise, VD.sAug, VD.sFor, VD.sTry, VD.clr, VD.oE, VD.eFz, VD.frz, VD.oOp, VD.oUn, VD.oCall, VD.oCallN, VD.oMethL, VD.oSl, VD.pNone, VD.pSome, VD.aCons, VD.aNil, VD.eLook, VD.eVar, VD.eC, VD.eAnd, VD.eOr, VD.eNot, VD.eIf, VD.oChain, VD.oLst, VD.oTup, VD.oLc, VD.bYes, VD.nName, VD.nTup, VD.nCons, VD.nNil, VD.wList, VD.wStr, VD.wRange1, VD.wZip, VD.wipeB, VD.XR.bind_ok, VD.XR.bind_ex, VD.XR.bind_bad, VD.bOf, VD.bNot, VD.bOr, VD.bAnd, VD.opAdd, VD.opSub, VD.opMul, VD.opMod, VD.opNeg, VD.opDiv, VD.opPow, VD.opLt, VD.opLe, VD.opGt, VD.opGe, VD.opIs, VD.opIsNot, VD.isNon, VD.opIsi, VD.isTy, VD.opRev, VD.cLen, VD.cList, VD.cTuple, VD.cInt, VD.eI, List.length_cons, List.length_nil, List.length_map, List.map_cons, List.map_nil, List.getElem?_cons_zero, List.getElem?_cons_succ, List.set_cons_zero, List.set_cons_succ, List.replicate_succ, List.replicate_zero, List.cons_append, List.nil_append, Nat.reduceSub, Nat.reduceAdd, Nat.reduceLeDiff, Nat.reduceLT, Nat.reduceEqDiff, Nat.reduceMul, Bool.not_true, Bool.not_false, if_true, if_false, ite_true, ite_false, reduceIte, Bool.false_eq_true, reduceCtorEq, VD.LIM, VD.noX, q1, e1, e2]
    · simp only [K_law_1, VD.run, VD.begin0, VD.sSeq, VD.Out.thn, VD.sIf, VD.got_ok, VD.got_ex, VD.got_bad, VD.sRet, VD.sRetV, VD.sSet, VD.setB, VD.sDrop, VD.sFz, VD.fz1, VD.sApp, VD.sRev, VD.sNext, VD.sRaise, VD.sAug, VD.sFor, VD.sTry, VD.clr, VD.oE, VD.eFz, VD.frz, VD.oOp, VD.oUn, VD.oCall, VD.oCallN, VD.oMethL, VD.oSl, VD.pNone, VD.pSome, VD.aCons, VD.aNil, VD.eLook, VD.eVar, VD.eC, VD.eAnd, VD.eOr, VD.eNot, VD.eIf, VD.oChain, VD.oLst, VD.oTup, VD.oLc, VD.bYes, VD.nName, VD.nTup, VD.nCons, VD.nNil, VD.wList, VD.wStr, VD.wRange1, VD.wZip, VD.wipeB, VD.XR.bind_ok, VD.XR.bind_ex, VD.XR.bind_bad, VD.bOf, VD.bNot, VD.bOr, VD.bAnd, VD.opAdd, VD.opSub, VD.opMul, VD.opMod, VD.opNeg, VD.opDiv, VD.opPow, VD.opLt, VD.opLe, VD.opGt, VD.opGe, VD.opIs, VD.opIsNot, VD.isNon, VD.opIsi, VD.isTy, VD.opRev, VD.cLen, VD.cList, VD.cTuple, VD.cInt, VD.eI, List.length_cons, List.length_nil, List.length_map, List.map_cons, List.map_nil, List.getElem?_cons_zero, List.getElem?_cons_succ, List.set_cons_zero, List.set_cons_succ, List.replicate_succ, List.replicate_zero, List.cons_append, List.nil_append, Nat.reduceSub, Nat.reduceAdd, Nat.reduceLeDiff, Nat.reduceLT, Nat.reduceEqDiff, Nat.reduceMul, Bool.not_true, Bool.not_false, if_true, if_false, ite_true, ite_false, reduceIte, Bool.false_eq_true, reduceCtorEq, VD.LIM, VD.noX, q1, e1, e2])
  have : X = .d (DS ps) := by
    rcases hX with h | ⟨h, _⟩
    · exact h
    · cases h
  subst this
  exact ⟨v, h1⟩
theorem l2_eq (a b c d e : B) (nums : List Int) : ∃ z v, L_law_2 [a, b, c, d, e, .own (DI nums), .d (.int 0), .nil, .nil, .nil, .nil] = .nx [a, b, c, d, e, .own (DI nums), .d (.int z), v, .nil, .nil, .nil] := by
  obtain ⟨ρ', h1, z, v, rfl⟩ := sFor_inv (g := nName 7) (b := K_law_2) (cut (nums.map D.int) none (some 45)) (fun k ρ => ∃ z v, ρ = [a, b, c, d, e, .own (DI nums), .d (.int z), v, .nil, .nil, .nil]) (wList_eq (e := (eFz (oSl (eLook 5) pNone (pSome (eC (.int 45)))))) (ρ := [a, b, c, d, e, .own (DI nums), .d (.int 0), .nil, .nil, .nil, .nil]) rfl) ⟨_, _, rfl⟩ (by
    rintro k x _ hx ⟨z, v, rfl⟩
    obtain ⟨y, rfl⟩ : ∃ y, x = .int y := by
      have := List.mem_of_mem_drop (List.mem_of_mem_take (List.mem_of_getElem? hx))
      obtain ⟨y, _, h⟩ := List.mem_map.mp this
      exact ⟨y, h.symm⟩
    have m1 : mulB z 1009 = true := mulB_r (by decide)
    refine ⟨_, _, rfl, ?_, z * 1009 + y, .d (.int y), rfl⟩
    simp only [K_law_2, VD.run, VD.begin0, VD.sSeq, VD.Out.thn, VD.sIf, VD.got_ok, VD.got_ex, VD.got_bad, VD.sRet, VD.sRetV, VD.sSet, VD.setB, VD.sDrop, VD.sFz, VD.fz1, VD.sApp, VD.sRev, VD.sNext, VD.sRaise, VD.sAug, VD.sFor, VD.sTry, VD.clr, VD.oE, VD.eFz, VD.frz, VD.oOp, VD.oUn, VD.oCall, VD.oCallN, VD.oMethL, VD.oSl, VD.pNone, VD.pSome, VD.aCons, VD.aNil, VD.eLook, VD.eVar, VD.eC, VD.eAnd, VD.eOr, VD.eNot, VD.eIf, VD.oChain, VD.oLst, VD.oTup, VD.oLc, VD.bYes, VD.nName, VD.nTup, VD.nCons, VD.nNil, VD.wList, VD.wStr, VD.wRange1, VD.wZip, VD.wipeB, VD.XR.bind_ok, VD.XR.bind_ex, VD.XR.bind_bad, VD.bOf, VD.bNot, VD.bOr, VD.bAnd, VD.opAdd, VD.opSub, VD.opMul, VD.opMod, VD.opNeg, VD.opDiv, VD.opPow, VD.opLt, VD.opLe, VD.opGt, VD.opGe, VD.opIs, VD.opIsNot, VD.isNon, VD.opIsi, VD.isTy, VD.opRev, VD.cLen, VD.cList, VD.cTuple, VD.cInt, VD.eI, List.length_cons, List.length_nil, List.length_map, List.map_cons, List.map_nil, List.getElem?_cons_zero, List.getElem?_cons_succ, List.set_cons_zero, List.set_cons_succ, List.replicate_succ, List.replicate_zero, List.cons_append, List.nil_append, Nat.reduceSub, Nat.reduceAdd, Nat.reduceLeDiff, Nat.reduceLT, Nat.reduceEqDiff, Nat.reduceMul, Bool.not_true, Bool.not_false, if_true, if_false, ite_true, ite_false, reduceIte, Bool.false_eq_true, reduceCtorEq, VD.LIM, VD.noX, m1])
  exact ⟨z, v, h1⟩
theorem k3_eq {ps : List Str} (p : Pl ps) (a v4 v5 v6 v8 : B) (y : Int) : ∃ v8', K_law_3 [a, .d (DS ps), .d (.int ps.length), .d (.int ((ps.length ^ (ps.length - 2) : Nat) : Int)), v4, v5, v6, .d (.int y), v8, .nil, .nil] = .nx [a, .d (DS ps), .d (.int ps.length), .d (.int ((ps.length ^ (ps.length - 2) : Nat) : Int)), v4, v5, v6, .d (.int y), v8', .nil, .nil] := by
  obtain ⟨pa, p2, p40⟩ := p.parts
  by_cases h : 0 ≤ y ∧ y < ((ps.length ^ (ps.length - 2) : Nat) : Int)
  · obtain ⟨k, rfl⟩ : ∃ k : Nat, y = k := ⟨y.toNat, by omega⟩
    have hk : k < ps.length ^ (ps.length - 2) := by omega
    have e1 := row_at_eq p k hk
    have e2 := lrow_eq p k
    have R := p.row k
    have e3 := number_of_eq p R
    rw [num_row pa.nodup (by omega) _ _ hk] at e3
    have e4 := opNe_DS (R.st p) (R.st p)
    rw [decide_eq_true rfl] at e4
    have d1 : decide ((0 : Int) ≤ (k : Int)) = true := decide_eq_true h.1
    have d2 : decide ((k : Int) < ((ps.length ^ (ps.length - 2) : Nat) : Int)) = true := decide_eq_true h.2
    refine ⟨.d (DS (rowN ps (ps.length - 2) k)), ?_⟩
    simp only [K_law_3, VD.run, VD.begin0, VD.sSeq, VD.Out.thn, VD.sIf, VD.got_ok, VD.got_ex, VD.got_bad, VD.sRet, VD.sRetV, VD.sSet, VD.setB, VD.sDrop, VD.sFz, VD.fz1, VD.sApp, VD.sRev, VD.sNext, VD.sRaise, VD.sAug, VD.sFor, VD.sTry, VD.clr, VD.oE, VD.eFz, VD.frz, VD.oOp, VD.oUn, VD.oCall, VD.oCallN, VD.oMethL, VD.oSl, VD.pNone, VD.pSome, VD.aCons, VD.aNil, VD.eLook, VD.eVar, VD.eC, VD.eAnd, VD.eOr, VD.eNot, VD.eIf, VD.oChain, VD.oLst, VD.oTup, VD.oLc, VD.bYes, VD.nName, VD.nTup, VD.nCons, VD.nNil, VD.wList, VD.wStr, VD.wRange1, VD.wZip, VD.wipeB, VD.XR.bind_ok, VD.XR.bind_ex, VD.XR.bind_bad, VD.bOf, VD.bNot, VD.bOr, VD.bAnd, VD.opAdd, VD.opSub, VD.opMul, VD.opMod, VD.opNeg, VD.opDiv, VD.opPow, VD.opLt, VD.opLe, VD.opGt, VD.opGe, VD.opIs, VD.opIsNot, VD.isNon, VD.opIsi, VD.isTy, VD.opRev, VD.cLen, VD.cList, VD.cTuple, VD.cInt, VD.eI, List.length_cons, List.length_nil, List.length_map, List.map_cons, List.map_nil, List.getElem?_cons_zero, List.getElem?_cons_succ, List.set_cons_zero, List.set_cons_succ, List.replicate_succ, List.replicate_zero, List.cons_append, List.nil_append, Nat.reduceSub, Nat.reduceAdd, Nat.reduceLeDiff, Nat.reduceLT, Nat.reduceEqDiff, Nat.reduceMul, Bool.not_true, Bool.not_false, if_true, if_false, ite_true, ite_false, reduceIte, Bool.false_eq_true, reduceCtorEq, VD.LIM, VD.noX, e1, e2, e3, e4, d1, d2, opNe_int, decide_true]
  · have e1 := row_at_none p y h
    refine ⟨.d .non, ?_⟩
    by_cases g : 0 ≤ y
    · have d2 : decide (y < ((ps.length ^ (ps.length - 2) : Nat) : Int)) = false := decide_eq_false fun q => h ⟨g, q⟩
      simp only [K_law_3, VD.run, VD.begin0, VD.sSeq, VD.Out.thn, VD.sIf, VD.got_ok, VD.got_ex, VD.got_bad, VD.sRet, VD.sRetV, VD.sSet, VD.setB, VD.sDrop, VD.sFz, VD.fz1, VD.sApp, VD.sRev, VD.sNext, VD.sRaise, VD.sAug, VD.sFor, VD.sTry, VD.clr, VD.oE, VD.eFz, VD.frz, VD.oOp, VD.oUn, VD.oCall, VD.oCallN, VD.oMethL, VD.oSl, VD.pNone, VD.pSome, VD.aCons, VD.aNil, VD.eLook, VD.eVar, VD.eC, VD.eAnd, VD.eOr, VD.eNot, VD.eIf, VD.oChain, VD.oLst, VD.oTup, VD.oLc, VD.bYes, VD.nName, VD.nTup, VD.nCons, VD.nNil, VD.wList, VD.wStr, VD.wRange1, VD.wZip, VD.wipeB, VD.XR.bind_ok, VD.XR.bind_ex, VD.XR.bind_bad, VD.bOf, VD.bNot, VD.bOr, VD.bAnd, VD.opAdd, VD.opSub, VD.opMul, VD.opMod, VD.opNeg, VD.opDiv, VD.opPow, VD.opLt, VD.opLe, VD.opGt, VD.opGe, VD.opIs, VD.opIsNot, VD.isNon, VD.opIsi, VD.isTy, VD.opRev, VD.cLen, VD.cList, VD.cTuple, VD.cInt, VD.eI, List.length_cons, List.length_nil, List.length_map, List.map_cons, List.map_nil, List.getElem?_cons_zero, List.getElem?_cons_succ, List.set_cons_zero, List.set_cons_succ, List.replicate_succ, List.replicate_zero, List.cons_append, List.nil_append, Nat.reduceSub, Nat.reduceAdd, Nat.reduceLeDiff, Nat.reduceLT, Nat.reduceEqDiff, Nat.reduceMul, Bool.not_true, Bool.not_false, if_true, if_false, ite_true, ite_false, reduceIte, Bool.false_eq_true, reduceCtorEq, VD.LIM, VD.noX, e1, decide_eq_true g, d2]
    · simp only [K_law_3, VD.run, VD.begin0, VD.sSeq, VD.Out.thn, VD.sIf, VD.got_ok, VD.got_ex, VD.got_bad, VD.sRet, VD.sRetV, VD.sSet, VD.setB, VD.sDrop, VD.sFz, VD.fz1, VD.sApp, VD.sRev, VD.sNext, VD.sRaise, VD.sAug, VD.sFor, VD.sTry, VD.clr, VD.oE, VD.eFz, VD.frz, VD.oOp, VD.oUn, VD.oCall, VD.oCallN, VD.oMethL, VD.oSl, VD.pNone, VD.pSome, VD.aCons, VD.aNil, VD.eLook, VD.eVar, VD.eC, VD.eAnd, VD.eOr, VD.eNot, VD.eIf, VD.oChain, VD.oLst, VD.oTup, VD.oLc, VD.bYes, VD.nName, VD.nTup, VD.nCons, VD.nNil, VD.wList, VD.wStr, VD.wRange1, VD.wZip, VD.wipeB, VD.XR.bind_ok, VD.XR.bind_ex, VD.XR.bind_bad, VD.bOf, VD.bNot, VD.bOr, VD.bAnd, VD.opAdd, VD.opSub, VD.opMul, VD.opMod, VD.opNeg, VD.opDiv, VD.opPow, VD.opLt, VD.opLe, VD.opGt, VD.opGe, VD.opIs, VD.opIsNot, VD.isNon, VD.opIsi, VD.isTy, VD.opRev, VD.cLen, VD.cList, VD.cTuple, VD.cInt, VD.eI, List.length_cons, List.length_nil, List.length_map, List.map_cons, List.map_nil, List.getElem?_cons_zero, List.getElem?_cons_succ, List.set_cons_zero, List.set_cons_succ, List.replicate_succ, List.replicate_zero, List.cons_append, List.nil_append, Nat.reduceSub, Nat.reduceAdd, Nat.reduceLeDiff, Nat.reduceLT, Nat.reduceEqDiff, Nat.reduceMul, Bool.not_true, Bool.not_false, if_true, if_false, ite_true, ite_false, reduceIte, Bool.false_eq_true, reduceCtorEq, VD.LIM, VD.noX, e1, decide_eq_false g]
theorem l3_eq {ps : List Str} (p : Pl ps) (a v4 v7 : B) (nums : List Int) (hn : Nm nums 50) (z : Int) : ∃ v7' v8', L_law_3 [a, .d (DS ps), .d (.int ps.length), .d (.int ((ps.length ^ (ps.length - 2) : Nat) : Int)), v4, .own (DI nums), .d (.int z), v7, .nil, .nil, .nil] = .nx [a, .d (DS ps), .d (.int ps.length), .d (.int ((ps.length ^ (ps.length - 2) : Nat) : Int)), v4, .own (DI nums), .d (.int z), v7', v8', .nil, .nil] := by
  obtain ⟨pa, p2, p40⟩ := p.parts
  have hlen : nums.length = 50 := hn.len
  have x45 : opIx (DI nums) (.int 45) = _ := opIx_nI (l := nums) (i := 45) (by omega)
  have x46 : opIx (DI nums) (.int 46) = _ := opIx_nI (l := nums) (i := 46) (by omega)
  have x47 : opIx (DI nums) (.int 47) = _ := opIx_nI (l := nums) (i := 47) (by omega)
  have hpos0 : 0 < ps.length ^ (ps.length - 2) := Nat.pow_pos (by omega)
  obtain ⟨N, hN⟩ : ∃ N : Int, ((ps.length ^ (ps.length - 2) : Nat) : Int) = N := ⟨_, rfl⟩
  have hpos : 0 < N := by omega
  have m7 : mulB N 7 = true := mulB_r (by decide)
  obtain ⟨is, his⟩ : ∃ is : List Int, is = [0, N - 1, z % N, nI nums 45 % N, N, N + nI nums 46, N * 7, -1, -N, 0 - nI nums 47 - 1] := ⟨_, rfl⟩
  obtain ⟨ρ', h1, v7', v8', rfl⟩ := sFor_inv (i := (wList (eFz (oLst (aCons (eC (.int 0)) (aCons (eFz (oOp opSub (eLook 3) (eC (.int 1)))) (aCons (eFz (oOp opMod (eLook 6) (eLook 3))) (aCons (eFz (oOp opMod (eFz (oOp opIx (eLook 5) (eC (.int 45)))) (eLook 3))) (aCons (eVar 3) (aCons (eFz (oOp opAdd (eLook 3) (eFz (oOp opIx (eLook 5) (eC (.int 46)))))) (aCons (eFz (oOp opMul (eLook 3) (eC (.int 7)))) (aCons (eFz (oUn opNeg (eC (.int 1)))) (aCons (eFz (oUn opNeg (eLook 3))) (aCons (eFz (oOp opSub (eFz (oOp opSub (eC (.int 0)) (eFz (oOp opIx (eLook 5) (eC (.int 47)))))) (eC (.int 1)))) aNil))))))))))))) ) (g := nName 7) (b := K_law_3) (is.map D.int) (fun k ρ => ∃ v7 v8, ρ = [a, .d (DS ps), .d (.int ps.length), .d (.int N), v4, .own (DI nums), .d (.int z), v7, v8, .nil, .nil]) (ρ := [a, .d (DS ps), .d (.int ps.length), .d (.int N), v4, .own (DI nums), .d (.int z), v7, .nil, .nil, .nil]) (by
      rw [his]
      simp only [VD.run, VD.begin0, VD.sSeq, VD.Out.thn, VD.sIf, VD.got_ok, VD.got_ex, VD.got_bad, VD.sRet, VD.sRetV, VD.sSet, VD.setB, VD.sDrop, VD.sFz, VD.fz1, VD.sApp, VD.sRev, VD.sNext, VD.sRaise, VD.sAug, VD.sFor, VD.sTry, VD.clr, VD.oE, VD.eFz, VD.frz, VD.oOp, VD.oUn, VD.oCall, VD.oCallN, VD.oMethL, VD.oSl, VD.pNone, VD.pSome, VD.aCons, VD.aNil, VD.eLook, VD.eVar, VD.eC, VD.eAnd, VD.eOr, VD.eNot, VD.eIf, VD.oChain, VD.oLst, VD.oTup, VD.oLc, VD.bYes, VD.nName, VD.nTup, VD.nCons, VD.nNil, VD.wList, VD.wStr, VD.wRange1, VD.wZip, VD.wipeB, VD.XR.bind_ok, VD.XR.bind_ex, VD.XR.bind_bad, VD.bOf, VD.bNot, VD.bOr, VD.bAnd, VD.opAdd, VD.opSub, VD.opMul, VD.opMod, VD.opNeg, VD.opDiv, VD.opPow, VD.opLt, VD.opLe, VD.opGt, VD.opGe, VD.opIs, VD.opIsNot, VD.isNon, VD.opIsi, VD.isTy, VD.opRev, VD.cLen, VD.cList, VD.cTuple, VD.cInt, VD.eI, List.length_cons, List.length_nil, List.length_map, List.map_cons, List.map_nil, List.getElem?_cons_zero, List.getElem?_cons_succ, List.set_cons_zero, List.set_cons_succ, List.replicate_succ, List.replicate_zero, List.cons_append, List.nil_append, Nat.reduceSub, Nat.reduceAdd, Nat.reduceLeDiff, Nat.reduceLT, Nat.reduceEqDiff, Nat.reduceMul, Bool.not_true, Bool.not_false, if_true, if_false, ite_true, ite_false, reduceIte, Bool.false_eq_true, reduceCtorEq, VD.LIM, VD.noX, x45, x46, x47, hpos, m7]) ⟨_, _, rfl⟩ (by
    rintro k x _ hx ⟨v7, v8, rfl⟩
    obtain ⟨y, _, rfl⟩ := List.mem_map.mp (List.mem_of_getElem? hx)
    obtain ⟨v8', e⟩ := k3_eq p a v4 (.own (DI nums)) (.d (.int z)) v8 y
    rw [hN] at e
    exact ⟨_, _, rfl, e, _, _, rfl⟩)
  rw [hN]
  exact ⟨v7', v8', h1⟩
/-! ### what is refused -/
theorem okP_no {l : List Str} (h : ¬ (Asc l ∧ 2 ≤ l.length ∧ ∀ s, s ∈ l → okName s = true)) : okP l = false := by
  cases q : okP l with
  | false => rfl
  | true =>
    refine absurd ?_ h
    unfold okP areP at q
    simp only [Bool.and_eq_true, decide_eq_true_eq, List.all_eq_true] at q
    exact ⟨asc_of q.1.2.1, q.2, q.1.1⟩
theorem check_no {l : List Str} (hl : l.length ≤ 100000) (hs : Short l) (h : ¬ (Asc l ∧ 2 ≤ l.length ∧ ∀ s, s ∈ l → okName s = true)) : m_check_places [DS l] = NO := by
  rw [check_places_eq l hl hs, okP_no h]
  rfl
theorem cut_front {l : List Str} (h : 0 < l.length) : cut (l.map D.str) none (some 1) = [.str (nth l 0)] := by
  cases l with
  | nil => cases h
  | cons a r => 
    have e : sEnd (D.str a :: r.map D.str).length (D.str a :: r.map D.str).length (some 1) = 1 := by simp [sEnd]
    show ((D.str a :: r.map D.str).drop 0).take (sEnd (D.str a :: r.map D.str).length (D.str a :: r.map D.str).length (some 1) - 0) = _
    rw [e]
    rfl
theorem cut_back {l : List Str} (h : 0 < l.length) : cut (l.map D.str) (some (-1)) none = [.str (nth l (l.length - 1))] := by
  have e : sEnd (l.map D.str).length 0 (some (-1)) = l.length - 1 := by
    show (if (0 : Int) ≤ -1 then min (-1 : Int).toNat (List.map D.str l).length else ((-1 : Int) + ((List.map D.str l).length : Nat)).toNat) = l.length - 1
    rw [if_neg (by decide), List.length_map]
    omega
  have e2 : sEnd (l.map D.str).length (l.map D.str).length none = l.length := by rw [List.length_map]; rfl
  unfold cut
  rw [e, e2]
  have e3 : (l.map D.str).drop (l.length - 1) = [.str (nth l (l.length - 1))] := by
    rw [List.drop_eq_getElem_cons (by rw [List.length_map]; omega)]
    rw [List.drop_of_length_le (by rw [List.length_map]; omega), List.getElem_map, nth_eq]
  rw [e3, show l.length - (l.length - 1) = 1 by omega]
  rfl
theorem l4_eq {ps : List Str} (p : Pl ps) (a c d v4 v5 v6 v7 v8 : B) (r : D) : ∃ v, L_law_4 [a, .d (DS ps), c, d, v4, v5, v6, v7, v8, .own r, .nil] = .nx [a, .d (DS ps), c, d, v4, v5, v6, v7, v8, .d r, v] := by
  obtain ⟨pa, p2, p40⟩ := p.parts
  have c1 := cut_front (l := ps) (by omega)
  have c2 := cut_back (l := ps) (by omega)
  have hl1 : ps.length + 1 ≤ 100000 := by omega
  have hl2 : 1 + ps.length ≤ 100000 := by omega
  let xs : List D := [.lst (ps.map D.str).reverse, .lst [.str (nth ps 0)], .lst [], .non, .lst (ps.map D.str ++ [.str (nth ps (ps.length - 1))]), .lst (.str (Str.ofString "A") :: ps.map D.str), .tup (ps.map D.str)]
  have hbad : ∀ x, x ∈ xs → m_check_places [x] = NO := by
    intro x hx
    rcases List.mem_cons.mp hx with rfl | hx
    · rw [← List.map_reverse]
      refine check_no (by rw [List.length_reverse]; omega) (fun s hs => p.sh s (List.mem_reverse.mp hs)) ?_
      rintro ⟨q, _⟩
      have q2 := List.pairwise_reverse.mp q
      have g1 := List.pairwise_iff_getElem.mp q2 0 1 (by omega) (by omega) (by omega)
      have g2 := List.pairwise_iff_getElem.mp pa 0 1 (by omega) (by omega) (by omega)
      rw [sLt_asymm g2] at g1
      cases g1
    rcases List.mem_cons.mp hx with rfl | hx
    · refine check_no (l := [nth ps 0]) (by show 1 ≤ 100000; decide) (fun s hs => ?_) (fun q => absurd q.2.1 (by show ¬ 2 ≤ 1; decide))
      rw [List.mem_singleton.mp hs]
      exact p.sh _ (nth_mem (by omega))
    rcases List.mem_cons.mp hx with rfl | hx
    · exact check_no (l := []) (by decide) (fun s hs => nomatch hs) (fun q => absurd q.2.1 (by show ¬ 2 ≤ 0; decide))
    rcases List.mem_cons.mp hx with rfl | hx
    · exact check_non
    rcases List.mem_cons.mp hx with rfl | hx
    · have e : ps.map D.str ++ [D.str (nth ps (ps.length - 1))] = (ps ++ [nth ps (ps.length - 1)]).map D.str := by rw [List.map_append]; rfl
      rw [e]
      refine check_no (by rw [List.length_append]; exact hl1) (fun s hs => ?_) ?_
      · rcases List.mem_append.mp hs with hs | hs
        · exact p.sh s hs
        · rw [List.mem_singleton.mp hs]; exact p.sh _ (nth_mem (by omega))
      · rintro ⟨q, _⟩
        have q2 := List.nodup_append.mp q.nodup
        exact q2.2.2 _ (nth_mem (i := ps.length - 1) (by omega)) _ (List.mem_singleton.mpr rfl) rfl
    rcases List.mem_cons.mp hx with rfl | hx
    · refine check_no (l := Str.ofString "A" :: ps) (by rw [List.length_cons]; exact hl1) (fun s hs => ?_) ?_
      · rcases List.mem_cons.mp hs with rfl | hs
        · decide +kernel
        · exact p.sh s hs
      · rintro ⟨_, _, q⟩
        have := q _ (List.mem_cons_self ..)
        revert this
        decide +kernel
    rw [List.mem_singleton.mp hx]
    exact check_tup _
  obtain ⟨ρ', h1, X, v, hX, rfl⟩ := sFor_inv (i := (wList (eFz (oLst (aCons (eFz (oUn opRev (eLook 1))) (aCons (eFz (oSl (eLook 1) pNone (pSome (eC (.int 1))))) (aCons (eFz (oLst aNil)) (aCons (eC .non) (aCons (eFz (oOp opAdd (eLook 1) (eFz (oSl (eLook 1) (pSome (eFz (oUn opNeg (eC (.int 1))))) pNone)))) (aCons (eFz (oOp opAdd (eFz (oLst (aCons (eC (.str (Str.ofString "A"))) aNil))) (eLook 1))) (aCons (eFz (oCall cTuple (aCons (eLook 1) aNil))) aNil))))))))))) (g := nName 10) (b := K_law_4) xs (fun k ρ => ∃ X v, (X = .d r ∨ (k = 0 ∧ X = .own r)) ∧ ρ = [a, .d (DS ps), c, d, v4, v5, v6, v7, v8, X, v]) (ρ := [a, .d (DS ps), c, d, v4, v5, v6, v7, v8, .own r, .nil]) (by
      simp only [VD.run, VD.begin0, VD.sSeq, VD.Out.thn, VD.sIf, VD.got_ok, VD.got_ex, VD.got_bad, VD.sRet, VD.sRetV, VD.sSet, VD.setB, VD.sDrop, VD.sFz, VD.fz1, VD.sApp, VD.sRev, VD.sNext, VD.sRaise, VD.sAug, VD.sFor, VD.sTry, VD.clr, VD.oE, VD.eFz, VD.frz, VD.oOp, VD.oUn, VD.oCall, VD.oCallN, VD.oMethL, VD.oSl, VD.pNone, VD.pSome, VD.aCons, VD.aNil, VD.eLook, VD.eVar, VD.eC, VD.eAnd, VD.eOr, VD.eNot, VD.eIf, VD.oChain, VD.oLst, VD.oTup, VD.oLc, VD.bYes, VD.nName, VD.nTup, VD.nCons, VD.nNil, VD.wList, VD.wStr, VD.wRange1, VD.wZip, VD.wipeB, VD.XR.bind_ok, VD.XR.bind_ex, VD.XR.bind_bad, VD.bOf, VD.bNot, VD.bOr, VD.bAnd, VD.opAdd, VD.opSub, VD.opMul, VD.opMod, VD.opNeg, VD.opDiv, VD.opPow, VD.opLt, VD.opLe, VD.opGt, VD.opGe, VD.opIs, VD.opIsNot, VD.isNon, VD.opIsi, VD.isTy, VD.opRev, VD.cLen, VD.cList, VD.cTuple, VD.cInt, VD.eI, List.length_cons, List.length_nil, List.length_map, List.map_cons, List.map_nil, List.getElem?_cons_zero, List.getElem?_cons_succ, List.set_cons_zero, List.set_cons_succ, List.replicate_succ, List.replicate_zero, List.cons_append, List.nil_append, Nat.reduceSub, Nat.reduceAdd, Nat.reduceLeDiff, Nat.reduceLT, Nat.reduceEqDiff, Nat.reduceMul, Bool.not_true, Bool.not_false, if_true, if_false, ite_true, ite_false, reduceIte, Bool.false_eq_true, reduceCtorEq, VD.LIM, VD.noX, DS, opSl, c1, c2, hl1, hl2]
      rfl) ⟨_, _, .inr ⟨rfl, rfl⟩, rfl⟩ (by
    rintro k x _ hx ⟨X, v, hX, rfl⟩
    have hb := hbad x (List.mem_of_getElem? hx)
    have e0 := refused0 (number_of_bad (check_row_bad (r := r) hb))
    have e1 := refused1 (r := r) (row_at_bad (r := .int 0) hb)
    refine ⟨_, _, rfl, ?_, .d r, .d x, .inl rfl, rfl⟩
    rcases hX with rfl | ⟨_, rfl⟩
    · simp only [K_law_4, VD.run, VD.begin0, VD.sSeq, VD.Out.thn, VD.sIf, VD.got_ok, VD.got_ex, VD.got_bad, VD.sRet, VD.sRetV, VD.sSet, VD.setB, VD.sDrop, VD.sFz, VD.fz1, VD.sApp, VD.sRev, VD.sNext, VD.sRaise, VD.sAug, VD.sFor, VD.sTry, VD.clr, VD.oE, VD.eFz, VD.frz, VD.oOp, VD.oUn, VD.oCall, VD.oCallN, VD.oMethL, VD.oSl, VD.pNone, VD.pSome, VD.aCons, VD.aNil, VD.eLook, VD.eVar, VD.eC, VD.eAnd, VD.eOr, VD.eNot, VD.eIf, VD.oChain, VD.oLst, VD.oTup, VD.oLc, VD.bYes, VD.nName, VD.nTup, VD.nCons, VD.nNil, VD.wList, VD.wStr, VD.wRange1, VD.wZip, VD.wipeB, VD.XR.bind_ok, VD.XR.bind_ex, VD.XR.bind_bad, VD.bOf, VD.bNot, VD.bOr, VD.bAnd, VD.opAdd, VD.opSub, VD.opMul, VD.opMod, VD.opNeg, VD.opDiv, VD.opPow, VD.opLt, VD.opLe, VD.opGt, VD.opGe, VD.opIs, VD.opIsNot, VD.isNon, VD.opIsi, VD.isTy, VD.opRev, VD.cLen, VD.cList, VD.cTuple, VD.cInt, VD.eI, List.length_cons, List.length_nil, List.length_map, List.map_cons, List.map_nil, List.getElem?_cons_zero, List.getElem?_cons_succ, List.set_cons_zero, List.set_cons_succ, List.replicate_succ, List.replicate_zero, List.cons_append, List.nil_append, Nat.reduceSub, Nat.reduceAdd, Nat.reduceLeDiff, Nat.reduceLT, Nat.reduceEqDiff, Nat.reduceMul, Bool.not_true, Bool.not_false, if_true, if_false, ite_true, ite_false, reduceIte, Bool.false_eq_true, reduceCtorEq, VD.LIM, VD.noX, e0, e1]
    · simp only [K_law_4, VD.run, VD.begin0, VD.sSeq, VD.Out.thn, VD.sIf, VD.got_ok, VD.got_ex, VD.got_bad, VD.sRet, VD.sRetV, VD.sSet, VD.setB, VD.sDrop, VD.sFz, VD.fz1, VD.sApp, VD.sRev, VD.sNext, VD.sRaise, VD.sAug, VD.sFor, VD.sTry, VD.clr, VD.oE, VD.eFz, VD.frz, VD.oOp, VD.oUn, VD.oCall, VD.oCallN, VD.oMethL, VD.oSl, VD.pNone, VD.pSome, VD.aCons, VD.aNil, VD.eLook, VD.eVar, VD.eC, VD.eAnd, VD.eOr, VD.eNot, VD.eIf, VD.oChain, VD.oLst, VD.oTup, VD.oLc, VD.bYes, VD.nName, VD.nTup, VD.nCons, VD.nNil, VD.wList, VD.wStr, VD.wRange1, VD.wZip, VD.wipeB, VD.XR.bind_ok, VD.XR.bind_ex, VD.XR.bind_bad, VD.bOf, VD.bNot, VD.bOr, VD.bAnd, VD.opAdd, VD.opSub, VD.opMul, VD.opMod, VD.opNeg, VD.opDiv, VD.opPow, VD.opLt, VD.opLe, VD.opGt, VD.opGe, VD.opIs, VD.opIsNot, VD.isNon, VD.opIsi, VD.isTy, VD.opRev, VD.cLen, VD.cList, VD.cTuple, VD.cInt, VD.eI, List.length_cons, List.length_nil, List.length_map, List.map_cons, List.map_nil, List.getElem?_cons_zero, List.getElem?_cons_succ, List.set_cons_zero, List.set_cons_succ, List.replicate_succ, List.replicate_zero, List.cons_append, List.nil_append, Nat.reduceSub, Nat.reduceAdd, Nat.reduceLeDiff, Nat.reduceLT, Nat.reduceEqDiff, Nat.reduceMul, Bool.not_true, Bool.not_false, if_true, if_false, ite_true, ite_false, reduceIte, Bool.false_eq_true, reduceCtorEq, VD.LIM, VD.noX, e0, e1])
  have : X = .d r := by
    rcases hX with h | ⟨h, _⟩
    · exact h
    · cases h
  subst this
  exact ⟨v, h1⟩

theorem refused_row {ps : List Str} (p : Pl ps) {x : D} (h : m_is_row [DS ps, x] = OB false) : m__law_refused [.int 0, DS ps, x] = OB true :=
  refused0 (number_of_bad (check_row_no p.check h))
theorem ne_ok {x y : D} (h : eqOk x y = true) : opNe x y = OB (!eqD x y) := by
  unfold opNe
  rw [h, Bool.or_true, if_pos rfl]
/-- a value that the last loop asks of -/
structure Q5 (ps r : List Str) (x : D) : Prop where
  ne : ∃ b, opNe x (DS r) = OB b
  isl : ∃ c, isTy x .list = some c
  rf : m__law_refused [.int 0, DS ps, x] = OB true
theorem k5_eq {ps r : List Str} (p : Pl ps) {x : D} (h : Q5 ps r x ∨ x = DS r) (hr : StrOk r) (a c d v4 v5 v6 v7 v8 : B) : K_law_5 [a, .d (DS ps), c, d, v4, v5, v6, v7, v8, .d (DS r), .d x] = .nx [a, .d (DS ps), c, d, v4, v5, v6, v7, v8, .d (DS r), .d x] := by
  rcases h with h | rfl
  · obtain ⟨b, hb⟩ := h.ne
    obtain ⟨e, he⟩ := h.isl
    have hf := h.rf
    have hi : opIsi .list x = .ok (.d (.bl e)) := by unfold opIsi; rw [he]
    cases b <;> cases e <;> simp only [K_law_5, VD.run, VD.begin0, VD.sSeq, VD.Out.thn, VD.sIf, VD.got_ok, VD.got_ex, VD.got_bad, VD.sRet, VD.sRetV, VD.sSet, VD.setB, VD.sDrop, VD.sFz, VD.fz1, VD.sApp, VD.sRev, VD.sNext, VD.sRaise, VD.sAug, VD.sFor, VD.sTry, VD.clr, VD.oE, VD.eFz, VD.frz, VD.oOp, VD.oUn, VD.oCall, VD.oCallN, VD.oMethL, VD.oSl, VD.pNone, VD.pSome, VD.aCons, VD.aNil, VD.eLook, VD.eVar, VD.eC, VD.eAnd, VD.eOr, VD.eNot, VD.eIf, VD.oChain, VD.oLst, VD.oTup, VD.oLc, VD.bYes, VD.nName, VD.nTup, VD.nCons, VD.nNil, VD.wList, VD.wStr, VD.wRange1, VD.wZip, VD.wipeB, VD.XR.bind_ok, VD.XR.bind_ex, VD.XR.bind_bad, VD.bOf, VD.bNot, VD.bOr, VD.bAnd, VD.opAdd, VD.opSub, VD.opMul, VD.opMod, VD.opNeg, VD.opDiv, VD.opPow, VD.opLt, VD.opLe, VD.opGt, VD.opGe, VD.opIs, VD.opIsNot, VD.isNon, VD.opIsi, VD.isTy, VD.opRev, VD.cLen, VD.cList, VD.cTuple, VD.cInt, VD.eI, List.length_cons, List.length_nil, List.length_map, List.map_cons, List.map_nil, List.getElem?_cons_zero, List.getElem?_cons_succ, List.set_cons_zero, List.set_cons_succ, List.replicate_succ, List.replicate_zero, List.cons_append, List.nil_append, Nat.reduceSub, Nat.reduceAdd, Nat.reduceLeDiff, Nat.reduceLT, Nat.reduceEqDiff, Nat.reduceMul, Bool.not_true, Bool.not_false, if_true, if_false, ite_true, ite_false, reduceIte, Bool.false_eq_true, reduceCtorEq, VD.LIM, VD.noX, -opIsi, -isTy, hb, hi, hf]
  · have e := opNe_DS hr hr
    rw [decide_eq_true rfl] at e
    simp only [K_law_5, VD.run, VD.begin0, VD.sSeq, VD.Out.thn, VD.sIf, VD.got_ok, VD.got_ex, VD.got_bad, VD.sRet, VD.sRetV, VD.sSet, VD.setB, VD.sDrop, VD.sFz, VD.fz1, VD.sApp, VD.sRev, VD.sNext, VD.sRaise, VD.sAug, VD.sFor, VD.sTry, VD.clr, VD.oE, VD.eFz, VD.frz, VD.oOp, VD.oUn, VD.oCall, VD.oCallN, VD.oMethL, VD.oSl, VD.pNone, VD.pSome, VD.aCons, VD.aNil, VD.eLook, VD.eVar, VD.eC, VD.eAnd, VD.eOr, VD.eNot, VD.eIf, VD.oChain, VD.oLst, VD.oTup, VD.oLc, VD.bYes, VD.nName, VD.nTup, VD.nCons, VD.nNil, VD.wList, VD.wStr, VD.wRange1, VD.wZip, VD.wipeB, VD.XR.bind_ok, VD.XR.bind_ex, VD.XR.bind_bad, VD.bOf, VD.bNot, VD.bOr, VD.bAnd, VD.opAdd, VD.opSub, VD.opMul, VD.opMod, VD.opNeg, VD.opDiv, VD.opPow, VD.opLt, VD.opLe, VD.opGt, VD.opGe, VD.opIs, VD.opIsNot, VD.isNon, VD.opIsi, VD.isTy, VD.opRev, VD.cLen, VD.cList, VD.cTuple, VD.cInt, VD.eI, List.length_cons, List.length_nil, List.length_map, List.map_cons, List.map_nil, List.getElem?_cons_zero, List.getElem?_cons_succ, List.set_cons_zero, List.set_cons_succ, List.replicate_succ, List.replicate_zero, List.cons_append, List.nil_append, Nat.reduceSub, Nat.reduceAdd, Nat.reduceLeDiff, Nat.reduceLT, Nat.reduceEqDiff, Nat.reduceMul, Bool.not_true, Bool.not_false, if_true, if_false, ite_true, ite_false, reduceIte, Bool.false_eq_true, reduceCtorEq, VD.LIM, VD.noX, e]
theorem l5_eq {ps : List Str} (D0 : Dr ps) (a c d v4 v5 v6 v7 v8 v10 : B) (r : List Str) (hr : r = List.replicate (ps.length - 2) (nth ps 0)) : ∃ v, L_law_5 [a, .d (DS ps), c, d, v4, v5, v6, v7, v8, .d (DS r), v10] = .nx [a, .d (DS ps), c, d, v4, v5, v6, v7, v8, .d (DS r), v] := by
  have p := D0.pl
  obtain ⟨pa, p2, p40⟩ := p.parts
  have c1 := cut_front (l := ps) (by omega)
  have hrl : r.length + 2 = ps.length := by rw [hr, List.length_replicate]; omega
  have hp0 : nth ps 0 ∈ ps := nth_mem (by omega)
  have hrm : ∀ s, s ∈ r → s ∈ ps := fun s hs => by
    rw [hr] at hs
    rw [(List.mem_replicate.mp hs).2]; exact hp0
  have hrs : StrOk r := fun s hs => p.st s (hrm s hs)
  have hl1 : r.length + 1 ≤ 100000 := by omega
  have hzst : strOkD ZZZ = true := by decide +kernel
  have hast : strOkD (Str.ofString "a") = true := by decide +kernel
  let xs : List D := [.lst (r.map D.str ++ [.str (nth ps 0)]), .tup (r.map D.str), .non, .lst (r.map D.str ++ [.non]), .lst ((r.map D.str ++ [D.str ZZZ]).drop 1), .str (Str.ofString "a")]
  have pr := plain_DS hrs
  have dr := depth_DS r
  have hq : ∀ x, x ∈ xs → Q5 ps r x ∨ x = DS r := by
    intro x hx
    rcases List.mem_cons.mp hx with rfl | hx
    · left
      have e : r.map D.str ++ [D.str (nth ps 0)] = (r ++ [nth ps 0]).map D.str := by rw [List.map_append]; rfl
      rw [e]
      refine ⟨⟨_, opNe_DS (fun s hs => ?_) hrs⟩, ⟨true, rfl⟩, refused_row p ?_⟩
      · rcases List.mem_append.mp hs with hs | hs
        · exact hrs s hs
        · rw [List.mem_singleton.mp hs]; exact p.st _ hp0
      · rw [is_row_lst ps _ p2 (by rw [List.length_map, List.length_append]; exact hl1) (fun x hx => by
          obtain ⟨s, _, rfl⟩ := List.mem_map.mp hx
          exact .inl ⟨s, rfl⟩)]
        unfold rowB
        simp only [List.length_map, List.length_append, List.length_singleton]
        rw [decide_eq_false (by omega), Bool.false_and]
    rcases List.mem_cons.mp hx with rfl | hx
    · left
      have q : eqOk (.tup (r.map D.str)) (DS r) = true := by
        have a1 : VD.plain (.tup (r.map D.str)) = true := by rw [VD.plain]; exact plainL_str hrs
        have a2 : depth (.tup (r.map D.str)) = 1 := by rw [depth, depthL_str]
        unfold eqOk
        rw [a1, a2, pr, dr]; rfl
      exact ⟨⟨_, ne_ok q⟩, ⟨false, rfl⟩, refused_row p (is_row_tup _ _)⟩
    rcases List.mem_cons.mp hx with rfl | hx
    · left
      have q : eqOk .non (DS r) = true := by
        unfold eqOk
        rw [pr, dr, VD.plain, depth]; rfl
        all_goals (intros; contradiction)
      exact ⟨⟨_, ne_ok q⟩, ⟨false, rfl⟩, refused_row p (is_row_non _)⟩
    rcases List.mem_cons.mp hx with rfl | hx
    · left
      have pl : ∀ l : List Str, StrOk l → plainL (l.map D.str ++ [.non]) = true := by
        intro l
        induction l with
        | nil => intro _; rfl
        | cons s l ih =>
          intro h
          rw [List.map_cons, List.cons_append, plainL, VD.plain, h s (List.mem_cons_self ..), ih fun y hy => h y (List.mem_cons_of_mem _ hy)]
          rfl
      have dl : ∀ l : List Str, depthL (l.map D.str ++ [.non]) = 0 := by
        intro l
        induction l with
        | nil => rfl
        | cons s l ih => simp [depthL, depth, ih]
      have q : eqOk (.lst (r.map D.str ++ [.non])) (DS r) = true := by
        have a1 : VD.plain (.lst (r.map D.str ++ [.non])) = true := by rw [VD.plain]; exact pl r hrs
        have a2 : depth (.lst (r.map D.str ++ [.non])) = 1 := by rw [depth, dl]
        unfold eqOk
        rw [a1, a2, pr, dr]; rfl
      refine ⟨⟨_, ne_ok q⟩, ⟨true, rfl⟩, refused_row p ?_⟩
      rw [is_row_lst ps _ p2 (by rw [List.length_append, List.length_map]; exact hl1) (fun x hx => by
        rcases List.mem_append.mp hx with hx | hx
        · obtain ⟨s, _, rfl⟩ := List.mem_map.mp hx
          exact .inl ⟨s, rfl⟩
        · exact .inr (List.mem_singleton.mp hx))]
      unfold rowB
      simp only [List.length_map, List.length_append, List.length_singleton]
      rw [decide_eq_false (by omega), Bool.false_and]
    rcases List.mem_cons.mp hx with rfl | hx
    · cases r with
      | nil => right; rfl
      | cons s r' =>
        left
        have e : (((s :: r').map D.str) ++ [D.str ZZZ]).drop 1 = (r' ++ [ZZZ]).map D.str := by rw [List.map_append]; rfl
        rw [e]
        refine ⟨⟨_, opNe_DS (fun s hs => ?_) hrs⟩, ⟨true, rfl⟩, refused_row p ?_⟩
        · rcases List.mem_append.mp hs with hs | hs
          · exact hrs s (List.mem_cons_of_mem _ hs)
          · rw [List.mem_singleton.mp hs]; exact hzst
        · rw [is_row_lst ps _ p2 (by rw [List.length_map, List.length_append]; rw [List.length_cons] at hl1; show r'.length + 1 ≤ 100000; omega) (fun x hx => by
            obtain ⟨s, _, rfl⟩ := List.mem_map.mp hx
            exact .inl ⟨s, rfl⟩)]
          have : ((r' ++ [ZZZ]).map D.str).all (memD ps) = false := by
            rw [List.all_eq_false]
            refine ⟨D.str ZZZ, List.mem_map.mpr ⟨ZZZ, by simp, rfl⟩, ?_⟩
            show ¬ decide (ZZZ ∈ ps) = true
            rw [decide_eq_false D0.nz]
            exact Bool.false_ne_true
          show OB (_ && ((r' ++ [ZZZ]).map D.str).all (memD ps)) = _
          rw [this, Bool.and_false]
    rw [List.mem_singleton.mp hx]
    left
    have q : eqOk (.str (Str.ofString "a")) (DS r) = true := by
      have a1 : VD.plain (.str (Str.ofString "a")) = true := by rw [VD.plain]; exact hast
      have a2 : depth (.str (Str.ofString "a")) = 0 := rfl
      unfold eqOk
      rw [a1, a2, pr, dr]; rfl
    exact ⟨⟨_, ne_ok q⟩, ⟨false, rfl⟩, refused_row p (is_row_str _ _)⟩
  obtain ⟨ρ', h1, v, rfl⟩ := sFor_inv (i := (wList (eFz (oLst (aCons (eFz (oOp opAdd (eLook 9) (eFz (oSl (eLook 1) pNone (pSome (eC (.int 1))))))) (aCons (eFz (oCall cTuple (aCons (eLook 9) aNil))) (aCons (eC .non) (aCons (eFz (oOp opAdd (eLook 9) (eFz (oLst (aCons (eC .non) aNil))))) (aCons (eFz (oSl (eFz (oOp opAdd (eLook 9) (eFz (oLst (aCons (eC (.str (Str.ofString "zzzzzzzzzzzz"))) aNil))))) (pSome (eC (.int 1))) pNone)) (aCons (eC (.str (Str.ofString "a"))) aNil)))))))))) (g := nName 10) (b := K_law_5) xs (fun k ρ => ∃ v, ρ = [a, .d (DS ps), c, d, v4, v5, v6, v7, v8, .d (DS r), v]) (ρ := [a, .d (DS ps), c, d, v4, v5, v6, v7, v8, .d (DS r), v10]) (by
      simp only [VD.run, VD.begin0, VD.sSeq, VD.Out.thn, VD.sIf, VD.got_ok, VD.got_ex, VD.got_bad, VD.sRet, VD.sRetV, VD.sSet, VD.setB, VD.sDrop, VD.sFz, VD.fz1, VD.sApp, VD.sRev, VD.sNext, VD.sRaise, VD.sAug, VD.sFor, VD.sTry, VD.clr, VD.oE, VD.eFz, VD.frz, VD.oOp, VD.oUn, VD.oCall, VD.oCallN, VD.oMethL, VD.oSl, VD.pNone, VD.pSome, VD.aCons, VD.aNil, VD.eLook, VD.eVar, VD.eC, VD.eAnd, VD.eOr, VD.eNot, VD.eIf, VD.oChain, VD.oLst, VD.oTup, VD.oLc, VD.bYes, VD.nName, VD.nTup, VD.nCons, VD.nNil, VD.wList, VD.wStr, VD.wRange1, VD.wZip, VD.wipeB, VD.XR.bind_ok, VD.XR.bind_ex, VD.XR.bind_bad, VD.bOf, VD.bNot, VD.bOr, VD.bAnd, VD.opAdd, VD.opSub, VD.opMul, VD.opMod, VD.opNeg, VD.opDiv, VD.opPow, VD.opLt, VD.opLe, VD.opGt, VD.opGe, VD.opIs, VD.opIsNot, VD.isNon, VD.opIsi, VD.isTy, VD.opRev, VD.cLen, VD.cList, VD.cTuple, VD.cInt, VD.eI, List.length_cons, List.length_nil, List.length_map, List.map_cons, List.map_nil, List.getElem?_cons_zero, List.getElem?_cons_succ, List.set_cons_zero, List.set_cons_succ, List.replicate_succ, List.replicate_zero, List.cons_append, List.nil_append, Nat.reduceSub, Nat.reduceAdd, Nat.reduceLeDiff, Nat.reduceLT, Nat.reduceEqDiff, Nat.reduceMul, Bool.not_true, Bool.not_false, if_true, if_false, ite_true, ite_false, reduceIte, Bool.false_eq_true, reduceCtorEq, VD.LIM, VD.noX, DS, opSl, c1, cut1, hl1]
      rfl) ⟨_, rfl⟩ (by
    rintro k x _ hx ⟨v, rfl⟩
    exact ⟨_, _, rfl, k5_eq p (hq x (List.mem_of_getElem? hx)) hrs a c d v4 v5 v6 v7 v8, _, rfl⟩)
  exact ⟨v, h1⟩
theorem rep_eq (x : Str) (m : Nat) (h : m ≤ 1000) : opMul (.lst [.str x]) (.int m) = .ok (.own (DS (List.replicate m x))) := by
  have e : (List.replicate m [D.str x]).flatten = (List.replicate m x).map D.str := by
    rw [List.map_replicate]
    clear h
    induction m with
    | zero => rfl
    | succ m ih => rw [List.replicate_succ, List.flatten_cons, ih]; rfl
  show (if 1 * ((m : Int)).toNat ≤ LIM ∧ ((m : Int)).natAbs < 1000000 then XR.ok (B.own (.lst (List.replicate ((m : Int)).toNat [D.str x]).flatten)) else .bad) = _
  rw [Int.toNat_natCast, Int.natAbs_natCast, if_pos ⟨by unfold LIM; omega, by omega⟩, e]
theorem law_true (ns : List Int) (hns : ns.length ≤ 63) : m_law [.scr ns] = .ok (.d (.bl true)) := by
  obtain ⟨ps, e1, D0⟩ := drawn_places_eq ns hns
  have p := D0.pl
  obtain ⟨pa, p2, p40⟩ := p.parts
  have em : (ps.length : Int) - 2 = ((ps.length - 2 : Nat) : Int) := by omega
  have e2 := how_many_eq ps.length p2 (by omega)
  have e3 := lpower_eq ps.length (ps.length - 2) (by omega) (by omega)
  obtain ⟨v4, h1⟩ := l1_eq ns hns p ((ps.length ^ (ps.length - 2) : Nat) : Int)
  have x0 : opIx (DS ps) (.int 0) = .ok (.d (.str (nth ps 0))) := opIx_nth (l := ps) (i := 0) (by omega)
  have x1 : opIx (DS ps) (.int (-1)) = .ok (.d (.str (nth ps (ps.length - 1)))) := by
    unfold opIx atD
    simp only [DS]
    rw [if_neg (by decide), if_pos (by rw [List.length_map]; omega), List.length_map, show ((-1 : Int) + (ps.length : Int)).toNat = ps.length - 1 by omega, List.getElem?_map, List.getElem?_eq_getElem (by omega), nth_eq]
    rfl
  have r1 := rep_eq (nth ps 0) (ps.length - 2) (by omega)
  have r2 := rep_eq (nth ps (ps.length - 1)) (ps.length - 2) (by omega)
  have R : ∀ i, i < ps.length → Rw ps (List.replicate (ps.length - 2) (nth ps i)) := fun i hi => ⟨by rw [List.length_replicate]; omega, fun x hx => by rw [(List.mem_replicate.mp hx).2]; exact nth_mem hi⟩
  have g1 := holds_eq p (R 0 (by omega))
  have g2 := holds_eq p (R (ps.length - 1) (by omega))
  obtain ⟨nums, e5, hnm⟩ := numbers_eq ns 10 50 hns (by omega)
  have e5' : m__law_numbers [.scr ns, .int 10, .int 50] = .ok (.own (DI nums)) := e5
  obtain ⟨z, v7, h2⟩ := l2_eq (.d (.scr ns)) (.d (DS ps)) (.d (.int ps.length)) (.d (.int ((ps.length ^ (ps.length - 2) : Nat) : Int))) v4 nums
  obtain ⟨v7', v8', h3⟩ := l3_eq p (.d (.scr ns)) v4 v7 nums hnm z
  obtain ⟨v10, h4⟩ := l4_eq p (.d (.scr ns)) (.d (.int ps.length)) (.d (.int ((ps.length ^ (ps.length - 2) : Nat) : Int))) v4 (.own (DI nums)) (.d (.int z)) v7' v8' (DS (List.replicate (ps.length - 2) (nth ps 0)))
  obtain ⟨v10', h5⟩ := l5_eq D0 (.d (.scr ns)) (.d (.int ps.length)) (.d (.int ((ps.length ^ (ps.length - 2) : Nat) : Int))) v4 (.own (DI nums)) (.d (.int z)) v7' v8' v10 _ rfl
  have w2 : m_how_many [.int 2] = .ok (.d (.int 1)) := how_many_eq 2 (by decide) (by decide)
  have w3 : m_how_many [.int 3] = .ok (.d (.int 3)) := how_many_eq 3 (by decide) (by decide)
  have w4 : m_how_many [.int 4] = .ok (.d (.int 16)) := how_many_eq 4 (by decide) (by decide)
  simp only [m_law, b_law, VD.run, VD.begin0, VD.sSeq, VD.Out.thn, VD.sIf, VD.got_ok, VD.got_ex, VD.got_bad, VD.sRet, VD.sRetV, VD.sSet, VD.setB, VD.sDrop, VD.sFz, VD.fz1, VD.sApp, VD.sRev, VD.sNext, VD.sRaise, VD.sAug, VD.sFor, VD.sTry, VD.clr, VD.oE, VD.eFz, VD.frz, VD.oOp, VD.oUn, VD.oCall, VD.oCallN, VD.oMethL, VD.oSl, VD.pNone, VD.pSome, VD.aCons, VD.aNil, VD.eLook, VD.eVar, VD.eC, VD.eAnd, VD.eOr, VD.eNot, VD.eIf, VD.oChain, VD.oLst, VD.oTup, VD.oLc, VD.bYes, VD.nName, VD.nTup, VD.nCons, VD.nNil, VD.wList, VD.wStr, VD.wRange1, VD.wZip, VD.wipeB, VD.XR.bind_ok, VD.XR.bind_ex, VD.XR.bind_bad, VD.bOf, VD.bNot, VD.bOr, VD.bAnd, VD.opAdd, VD.opSub, VD.opMul, VD.opMod, VD.opNeg, VD.opDiv, VD.opPow, VD.opLt, VD.opLe, VD.opGt, VD.opGe, VD.opIs, VD.opIsNot, VD.isNon, VD.opIsi, VD.isTy, VD.opRev, VD.cLen, VD.cList, VD.cTuple, VD.cInt, VD.eI, List.length_cons, List.length_nil, List.length_map, List.map_cons, List.map_nil, List.getElem?_cons_zero, List.getElem?_cons_succ, List.set_cons_zero, List.set_cons_succ, List.replicate_succ, List.replicate_zero, List.cons_append, List.nil_append, Nat.reduceSub, Nat.reduceAdd, Nat.reduceLeDiff, Nat.reduceLT, Nat.reduceEqDiff, Nat.reduceMul, Bool.not_true, Bool.not_false, if_true, if_false, ite_true, ite_false, reduceIte, Bool.false_eq_true, reduceCtorEq, VD.LIM, VD.noX, -opMul, DS, e1, e2, em, e3, is_int_eq, opNe_int, decide_true, h1, x0, x1, r1, r2, g1, g2, e5', h2, h3, h4, h5, w2, w3, w4, opEq_int]
end G

set_option Elab.async false
set_option linter.all false
set_option maxRecDepth 100000
set_option maxHeartbeats 4000000
namespace G
open PySem PySem.Spec L2 VD VS
def top (i : Nat) : Stmt := PySem.Challenge.pw_valleywatch_k87_numbers_of_rows.main.body.getD i (.Pass ⟨0, 0, 0, 0⟩)
abbrev s_has_name_signs : Stmt := top 9
def d_has_name_signs : He.DefD := ⟨("has_name_signs", none), "has_name_signs", "has_name_signs", defArgs s_has_name_signs, defBody s_has_name_signs, defScope s_has_name_signs, [], []⟩
abbrev s_is_name : Stmt := top 10
def d_is_name : He.DefD := ⟨("is_name", none), "is_name", "is_name", defArgs s_is_name, defBody s_is_name, defScope s_is_name, [], []⟩
abbrev s_is_ascending : Stmt := top 11
def d_is_ascending : He.DefD := ⟨("is_ascending", none), "is_ascending", "is_ascending", defArgs s_is_ascending, defBody s_is_ascending, defScope s_is_ascending, [], []⟩
abbrev s_are_names : Stmt := top 12
def d_are_names : He.DefD := ⟨("are_names", none), "are_names", "are_names", defArgs s_are_names, defBody s_are_names, defScope s_are_names, [], []⟩
abbrev s_are_places : Stmt := top 13
def d_are_places : He.DefD := ⟨("are_places", none), "are_places", "are_places", defArgs s_are_places, defBody s_are_places, defScope s_are_places, [], []⟩
abbrev s_check_places : Stmt := top 16
def d_check_places : He.DefD := ⟨("check_places", none), "check_places", "check_places", defArgs s_check_places, defBody s_check_places, defScope s_check_places, [], []⟩
abbrev s_is_row : Stmt := top 17
def d_is_row : He.DefD := ⟨("is_row", none), "is_row", "is_row", defArgs s_is_row, defBody s_is_row, defScope s_is_row, [], []⟩
abbrev s_check_row : Stmt := top 18
def d_check_row : He.DefD := ⟨("check_row", none), "check_row", "check_row", defArgs s_check_row, defBody s_check_row, defScope s_check_row, [], []⟩
abbrev s_power : Stmt := top 20
def d_power : He.DefD := ⟨("power", none), "power", "power", defArgs s_power, defBody s_power, defScope s_power, [], []⟩
abbrev s_how_many : Stmt := top 22
def d_how_many : He.DefD := ⟨("how_many", none), "how_many", "how_many", defArgs s_how_many, defBody s_how_many, defScope s_how_many, [], []⟩
abbrev s_row_at : Stmt := top 23
def d_row_at : He.DefD := ⟨("row_at", none), "row_at", "row_at", defArgs s_row_at, defBody s_row_at, defScope s_row_at, [], []⟩
abbrev s_number_of : Stmt := top 24
def d_number_of : He.DefD := ⟨("number_of", none), "number_of", "number_of", defArgs s_number_of, defBody s_number_of, defScope s_number_of, [], []⟩
abbrev s__law_numbers : Stmt := top 26
def d__law_numbers : He.DefD := ⟨("_law_numbers", none), "_law_numbers", "_law_numbers", defArgs s__law_numbers, defBody s__law_numbers, defScope s__law_numbers, [], []⟩
abbrev s__law_is_integer : Stmt := top 27
def d__law_is_integer : He.DefD := ⟨("_law_is_integer", none), "_law_is_integer", "_law_is_integer", defArgs s__law_is_integer, defBody s__law_is_integer, defScope s__law_is_integer, [], []⟩
abbrev s__law_name : Stmt := top 28
def d__law_name : He.DefD := ⟨("_law_name", none), "_law_name", "_law_name", defArgs s__law_name, defBody s__law_name, defScope s__law_name, [], []⟩
abbrev s__law_names : Stmt := top 29
def d__law_names : He.DefD := ⟨("_law_names", none), "_law_names", "_law_names", defArgs s__law_names, defBody s__law_names, defScope s__law_names, [], []⟩
abbrev s__law_drawn_places : Stmt := top 30
def d__law_drawn_places : He.DefD := ⟨("_law_drawn_places", none), "_law_drawn_places", "_law_drawn_places", defArgs s__law_drawn_places, defBody s__law_drawn_places, defScope s__law_drawn_places, [], []⟩
abbrev s__law_drawn_row : Stmt := top 31
def d__law_drawn_row : He.DefD := ⟨("_law_drawn_row", none), "_law_drawn_row", "_law_drawn_row", defArgs s__law_drawn_row, defBody s__law_drawn_row, defScope s__law_drawn_row, [], []⟩
abbrev s__law_power : Stmt := top 32
def d__law_power : He.DefD := ⟨("_law_power", none), "_law_power", "_law_power", defArgs s__law_power, defBody s__law_power, defScope s__law_power, [], []⟩
abbrev s__law_number : Stmt := top 33
def d__law_number : He.DefD := ⟨("_law_number", none), "_law_number", "_law_number", defArgs s__law_number, defBody s__law_number, defScope s__law_number, [], []⟩
abbrev s__law_row_at : Stmt := top 34
def d__law_row_at : He.DefD := ⟨("_law_row_at", none), "_law_row_at", "_law_row_at", defArgs s__law_row_at, defBody s__law_row_at, defScope s__law_row_at, [], []⟩
abbrev s__law_refused : Stmt := top 35
def d__law_refused : He.DefD := ⟨("_law_refused", none), "_law_refused", "_law_refused", defArgs s__law_refused, defBody s__law_refused, defScope s__law_refused, [], []⟩
abbrev s__law_row_holds : Stmt := top 36
def d__law_row_holds : He.DefD := ⟨("_law_row_holds", none), "_law_row_holds", "_law_row_holds", defArgs s__law_row_holds, defBody s__law_row_holds, defScope s__law_row_holds, [], []⟩
abbrev s_law : Stmt := top 37
def d_law : He.DefD := ⟨("law", none), "law", "law", defArgs s_law, defBody s_law, defScope s_law, [], []⟩
def fn : List He.DefD := [d_has_name_signs, d_is_name, d_is_ascending, d_are_names, d_are_places, d_check_places, d_is_row, d_check_row, d_power, d_how_many, d_row_at, d_number_of, d__law_numbers, d__law_is_integer, d__law_name, d__law_names, d__law_drawn_places, d__law_drawn_row, d__law_power, d__law_number, d__law_row_at, d__law_refused, d__law_row_holds, d_law]
def exs : List (PySem.W.Frag → Bool) := [fGlo "has_name_signs", fGlo "is_name", fGlo "is_ascending", fGlo "are_names", fGlo "are_places", fGlo "check_places", fGlo "is_row", fGlo "check_row", fGlo "power", fGlo "how_many", fGlo "row_at", fGlo "number_of", fGlo "_law_numbers", fGlo "_law_is_integer", fGlo "_law_name", fGlo "_law_names", fGlo "_law_drawn_places", fGlo "_law_drawn_row", fGlo "_law_power", fGlo "_law_number", fGlo "_law_row_at", fGlo "_law_refused", fGlo "_law_row_holds", fGlo "law", fFree "all", fFree "bool", fFree "int", fFree "isinstance", fFree "len", fFree "list", fFree "range", fFree "sorted", fFree "str", fFree "tuple", fFree "zip", fStr "FIGURES" "0123456789", fInt "LEAST_PLACES" (2), fStr "LETTERS" "abcdefghijklmnopqrstuvwxyz", fInt "LONGEST_NAME" (12), fInt "MOST_PLACES" (40), fGlo "BadRow", fExc "BadRow", fExcC "BadRow", fKit "BadRow" "BadRow" true, fKit "BadRow" "BadTable" false, fExm "BadRow" "ValleyError" true, fGlo "BadRow", fGlo "BadTable", fGlo "ValleyError"]
structure Txt (K : PySem.W.Frag) (mg : Str → Option Value) : Prop where
  d_has_name_signs : Df K mg "has_name_signs" s_has_name_signs
  d_is_name : Df K mg "is_name" s_is_name
  d_is_ascending : Df K mg "is_ascending" s_is_ascending
  d_are_names : Df K mg "are_names" s_are_names
  d_are_places : Df K mg "are_places" s_are_places
  d_check_places : Df K mg "check_places" s_check_places
  d_is_row : Df K mg "is_row" s_is_row
  d_check_row : Df K mg "check_row" s_check_row
  d_power : Df K mg "power" s_power
  d_how_many : Df K mg "how_many" s_how_many
  d_row_at : Df K mg "row_at" s_row_at
  d_number_of : Df K mg "number_of" s_number_of
  d__law_numbers : Df K mg "_law_numbers" s__law_numbers
  d__law_is_integer : Df K mg "_law_is_integer" s__law_is_integer
  d__law_name : Df K mg "_law_name" s__law_name
  d__law_names : Df K mg "_law_names" s__law_names
  d__law_drawn_places : Df K mg "_law_drawn_places" s__law_drawn_places
  d__law_drawn_row : Df K mg "_law_drawn_row" s__law_drawn_row
  d__law_power : Df K mg "_law_power" s__law_power
  d__law_number : Df K mg "_law_number" s__law_number
  d__law_row_at : Df K mg "_law_row_at" s__law_row_at
  d__law_refused : Df K mg "_law_refused" s__law_refused
  d__law_row_holds : Df K mg "_law_row_holds" s__law_row_holds
  d_law : Df K mg "law" s_law
  z_all : mg "all" = none
  z_bool : mg "bool" = none
  z_int : mg "int" = none
  z_isinstance : mg "isinstance" = none
  z_len : mg "len" = none
  z_list : mg "list" = none
  z_range : mg "range" = none
  z_sorted : mg "sorted" = none
  z_str : mg "str" = none
  z_tuple : mg "tuple" = none
  z_zip : mg "zip" = none
  c_FIGURES : ∃ t, mg "FIGURES" = some (.str (Str.ofString "0123456789") t)
  c_LEAST_PLACES : ∃ t, mg "LEAST_PLACES" = some (.int (2) t)
  c_LETTERS : ∃ t, mg "LETTERS" = some (.str (Str.ofString "abcdefghijklmnopqrstuvwxyz") t)
  c_LONGEST_NAME : ∃ t, mg "LONGEST_NAME" = some (.int (12) t)
  c_MOST_PLACES : ∃ t, mg "MOST_PLACES" = some (.int (40) t)
  e_BadRow : Ex0 K mg "BadRow"
  x_BadRow : ExcC K (He.ga K "BadRow")
  k_BadRow_BadRow : PySem.W.kitOne K (.ref (He.ga K "BadRow")) (.ref (He.ga K "BadRow")) = some true
  k_BadRow_BadTable : PySem.W.kitOne K (.ref (He.ga K "BadRow")) (.ref (He.ga K "BadTable")) = some false
  m_BadRow_ValleyError : PySem.W.exmOne K (.ref (He.ga K "BadRow")) (.ref (He.ga K "ValleyError")) = some true
  g_BadRow : mg "BadRow" = some (.ref (He.ga K "BadRow"))
  g_BadTable : mg "BadTable" = some (.ref (He.ga K "BadTable"))
  g_ValleyError : mg "ValleyError" = some (.ref (He.ga K "ValleyError"))
theorem txt_of {K : PySem.W.Frag} {h : Heap} {mg : Str → Option Value} (X : K.In h) (G : h.Ns mainGlobals mg) (c : He.SaysD [] fn K) (e : allK exs K = true) : Txt K mg :=
  ⟨⟨c.def_ 0 (d := d_has_name_signs) rfl, He.glo_ok X G (allK_at e 0 (f := fGlo "has_name_signs"))⟩,
   ⟨c.def_ 1 (d := d_is_name) rfl, He.glo_ok X G (allK_at e 1 (f := fGlo "is_name"))⟩,
   ⟨c.def_ 2 (d := d_is_ascending) rfl, He.glo_ok X G (allK_at e 2 (f := fGlo "is_ascending"))⟩,
   ⟨c.def_ 3 (d := d_are_names) rfl, He.glo_ok X G (allK_at e 3 (f := fGlo "are_names"))⟩,
   ⟨c.def_ 4 (d := d_are_places) rfl, He.glo_ok X G (allK_at e 4 (f := fGlo "are_places"))⟩,
   ⟨c.def_ 5 (d := d_check_places) rfl, He.glo_ok X G (allK_at e 5 (f := fGlo "check_places"))⟩,
   ⟨c.def_ 6 (d := d_is_row) rfl, He.glo_ok X G (allK_at e 6 (f := fGlo "is_row"))⟩,
   ⟨c.def_ 7 (d := d_check_row) rfl, He.glo_ok X G (allK_at e 7 (f := fGlo "check_row"))⟩,
   ⟨c.def_ 8 (d := d_power) rfl, He.glo_ok X G (allK_at e 8 (f := fGlo "power"))⟩,
   ⟨c.def_ 9 (d := d_how_many) rfl, He.glo_ok X G (allK_at e 9 (f := fGlo "how_many"))⟩,
   ⟨c.def_ 10 (d := d_row_at) rfl, He.glo_ok X G (allK_at e 10 (f := fGlo "row_at"))⟩,
   ⟨c.def_ 11 (d := d_number_of) rfl, He.glo_ok X G (allK_at e 11 (f := fGlo "number_of"))⟩,
   ⟨c.def_ 12 (d := d__law_numbers) rfl, He.glo_ok X G (allK_at e 12 (f := fGlo "_law_numbers"))⟩,
   ⟨c.def_ 13 (d := d__law_is_integer) rfl, He.glo_ok X G (allK_at e 13 (f := fGlo "_law_is_integer"))⟩,
   ⟨c.def_ 14 (d := d__law_name) rfl, He.glo_ok X G (allK_at e 14 (f := fGlo "_law_name"))⟩,
   ⟨c.def_ 15 (d := d__law_names) rfl, He.glo_ok X G (allK_at e 15 (f := fGlo "_law_names"))⟩,
   ⟨c.def_ 16 (d := d__law_drawn_places) rfl, He.glo_ok X G (allK_at e 16 (f := fGlo "_law_drawn_places"))⟩,
   ⟨c.def_ 17 (d := d__law_drawn_row) rfl, He.glo_ok X G (allK_at e 17 (f := fGlo "_law_drawn_row"))⟩,
   ⟨c.def_ 18 (d := d__law_power) rfl, He.glo_ok X G (allK_at e 18 (f := fGlo "_law_power"))⟩,
   ⟨c.def_ 19 (d := d__law_number) rfl, He.glo_ok X G (allK_at e 19 (f := fGlo "_law_number"))⟩,
   ⟨c.def_ 20 (d := d__law_row_at) rfl, He.glo_ok X G (allK_at e 20 (f := fGlo "_law_row_at"))⟩,
   ⟨c.def_ 21 (d := d__law_refused) rfl, He.glo_ok X G (allK_at e 21 (f := fGlo "_law_refused"))⟩,
   ⟨c.def_ 22 (d := d__law_row_holds) rfl, He.glo_ok X G (allK_at e 22 (f := fGlo "_law_row_holds"))⟩,
   ⟨c.def_ 23 (d := d_law) rfl, He.glo_ok X G (allK_at e 23 (f := fGlo "law"))⟩,
   He.free_ok X G (allK_at e 24 (f := fFree "all")),
   He.free_ok X G (allK_at e 25 (f := fFree "bool")),
   He.free_ok X G (allK_at e 26 (f := fFree "int")),
   He.free_ok X G (allK_at e 27 (f := fFree "isinstance")),
   He.free_ok X G (allK_at e 28 (f := fFree "len")),
   He.free_ok X G (allK_at e 29 (f := fFree "list")),
   He.free_ok X G (allK_at e 30 (f := fFree "range")),
   He.free_ok X G (allK_at e 31 (f := fFree "sorted")),
   He.free_ok X G (allK_at e 32 (f := fFree "str")),
   He.free_ok X G (allK_at e 33 (f := fFree "tuple")),
   He.free_ok X G (allK_at e 34 (f := fFree "zip")),
   He.str_ok X G (allK_at e 35 (f := fStr "FIGURES" "0123456789")),
   He.int_ok X G (allK_at e 36 (f := fInt "LEAST_PLACES" (2))),
   He.str_ok X G (allK_at e 37 (f := fStr "LETTERS" "abcdefghijklmnopqrstuvwxyz")),
   He.int_ok X G (allK_at e 38 (f := fInt "LONGEST_NAME" (12))),
   He.int_ok X G (allK_at e 39 (f := fInt "MOST_PLACES" (40))),
   ex0_mk (He.glo_ok X G (allK_at e 40 (f := fGlo "BadRow"))) (allK_at e 41 (f := fExc "BadRow")),
   fExcC_ok (allK_at e 42 (f := fExcC "BadRow")),
   fKit_ok (allK_at e 43 (f := fKit "BadRow" "BadRow" true)),
   fKit_ok (allK_at e 44 (f := fKit "BadRow" "BadTable" false)),
   fExm_ok (allK_at e 45 (f := fExm "BadRow" "ValleyError" true)),
   He.glo_ok X G (allK_at e 46 (f := fGlo "BadRow")),
   He.glo_ok X G (allK_at e 47 (f := fGlo "BadTable")),
   He.glo_ok X G (allK_at e 48 (f := fGlo "ValleyError"))⟩
section
variable {P : Program} {w : World} {K : PySem.W.Frag} {mg : Str → Option Value} {base : Heap}
abbrev nm_has_name_signs : List Str := ["text", "sign"]
theorem sc_has_name_signs : FnScope nm_has_name_signs ["text"] (defScope s_has_name_signs) := ⟨rfl, rfl, rfl, by decide +kernel, rfl, by decide +kernel, by decide +kernel⟩
theorem gd_has_name_signs (T : Txt K mg) : Gd P w K mg base 1 "has_name_signs" ["text"] m_has_name_signs := by
  obtain ⟨t_FIGURES, c_FIGURES⟩ := T.c_FIGURES
  obtain ⟨t_LETTERS, c_LETTERS⟩ := T.c_LETTERS
  exact gd_mk T.d_has_name_signs sc_has_name_signs (fun _ _ _ _ _ _ _ us hl => match us, hl with | [_], _ => rfl) fun cdv A outer s H E hr => ⟨_, (pss_cons (ps_if (pt_cmpR (r := (rInA K true)) op_notInA (pe_ixK K (pv 0) pe_int (fun _ _ => rfl)) (pe_glob (v := .str (Str.ofString "abcdefghijklmnopqrstuvwxyz")) (by rfl) c_LETTERS ⟨_, rfl⟩) (by rfl)) (pss_one (ps_ret pe_bl)) pss_nil)
  (pss_one (ps_ret (pe_callB (r := (rAll K)) (cr_all rfl) (by rfl) T.z_all boot_all' (pa_cons (pe_lc (own := [("sign", 1)]) (g := (L2.gName 1)) rfl sc_has_name_signs.nd (pi_str (pv 0)) (blkOk_by (N := nm_has_name_signs) (sc := (defScope s_has_name_signs)) (by decide +kernel)) (fun _ _ _ _ _ => (pg_name (i := 1) sc_has_name_signs.nd rfl (Or.inl rfl))) (fun _ _ _ _ _ => pts_nil) (fun _ _ _ _ _ => (pe_or (pe_cmpR (r := (rInA K false)) op_inA (pv 1) (pe_glob (v := .str (Str.ofString "abcdefghijklmnopqrstuvwxyz")) (by rfl) c_LETTERS ⟨_, rfl⟩) (by rfl)) (pe_one (pe_cmpR (r := (rInA K false)) op_inA (pv 1) (pe_glob (v := .str (Str.ofString "0123456789")) (by rfl) c_FIGURES ⟨_, rfl⟩) (by rfl)))))) pa_nil))))),
    by exact (ss_seq (ss_if (st_test (so_op s_notIn (sb_of (se_fz (so_op s_ix (sb_look 0) (sb_of se_int)))) (sb_of se_str))) (ss_ret (so_of se_bl)) ss_next)
  (ss_ret (so_cb s_all (sab_cons (sb_of (se_fz (so_lc (sib_of (si_str (sb_look 0))) (sg_name 1) (by decide) st_yes (se_or (se_fz (so_op s_in (sb_look 1) (sb_of se_str))) (se_fz (so_op s_in (sb_look 1) (sb_of se_str))))))) sab_nil))))⟩
abbrev nm_is_name : List Str := ["value"]
theorem sc_is_name : FnScope nm_is_name ["value"] (defScope s_is_name) := ⟨rfl, rfl, rfl, by decide +kernel, rfl, by decide +kernel, by decide +kernel⟩
theorem gd_is_name (T : Txt K mg) : Gd P w K mg base 2 "is_name" ["value"] m_is_name := by
  obtain ⟨⟨fd_has_name_signs, _, G_has_name_signs, b_has_name_signs⟩, g_has_name_signs, k_has_name_signs⟩ := gd_has_name_signs (P := P) (w := w) (base := base) T
  obtain ⟨t_LONGEST_NAME, c_LONGEST_NAME⟩ := T.c_LONGEST_NAME
  exact gd_mk T.d_is_name sc_is_name (fun _ _ _ _ _ _ _ us hl => match us, hl with | [_], _ => rfl) fun cdv A outer s H E hr => ⟨_, (pss_cons (ps_if (pt_not (pt_val (pe_callB (r := rIsi K) call_isi (by rfl) T.z_isinstance boot_isinstance' (pa_cons (pv 0) (pa_cons (pe_bltn (v := .ty "str") (by rfl) T.z_str boot_str' rfl) pa_nil))))) (pss_one (ps_ret pe_bl)) pss_nil)
  (pss_cons (ps_if (pt_not (pt_chain (r := (rLeA K)) (r' := (rLeA K)) (op_leA hr.units) (op_leA hr.units) pe_int (pe_callB (r := (rLenA K)) call_lenA (by rfl) T.z_len boot_len' (pa_cons (pv 0) pa_nil)) (pe_glob (v := .int (12)) (by rfl) c_LONGEST_NAME ⟨_, rfl⟩))) (pss_one (ps_ret pe_bl)) pss_nil)
  (pss_one (ps_ret (pe_callS G_has_name_signs (hr.mono (by decide)) (by rfl) g_has_name_signs k_has_name_signs b_has_name_signs (fun σ => passAt (takes_of rfl rfl rfl rfl) σ) (pa_cons (pv 0) pa_nil)))))),
    by exact (ss_seq (ss_if (st_not (st_B (s_isi .str (sb_look 0)))) (ss_ret (so_of se_bl)) ss_next)
  (ss_seq (ss_if (st_not (st_test (so_chain s_le s_le (sb_of se_int) (sb_of (se_fz (so_cb s_len (sab_cons (sb_look 0) sab_nil)))) (sb_of se_int)))) (ss_ret (so_of se_bl)) ss_next)
  (ss_ret (so_call (sa_cons (se_var 0) sa_nil)))))⟩
abbrev nm_is_ascending : List Str := ["values", "before", "after"]
theorem sc_is_ascending : FnScope nm_is_ascending ["values"] (defScope s_is_ascending) := ⟨rfl, rfl, rfl, by decide +kernel, rfl, by decide +kernel, by decide +kernel⟩
theorem gd_is_ascending (T : Txt K mg) : Gd P w K mg base 1 "is_ascending" ["values"] m_is_ascending := by
  skip
  exact gd_mk T.d_is_ascending sc_is_ascending (fun _ _ _ _ _ _ _ us hl => match us, hl with | [_], _ => rfl) fun cdv A outer s H E hr => ⟨_, (pss_one (ps_ret (pe_callB (r := (rAll K)) (cr_all rfl) (by rfl) T.z_all boot_all' (pa_cons (pe_lc (own := [("before", 1), ("after", 2)]) (g := (L2.gTup K 2 (L2.gCons (L2.gName 1) (L2.gCons (L2.gName 2) L2.gNil)))) rfl sc_is_ascending.nd (pi_zipK K (by rfl) T.z_zip (pa_cons (pv 0) (pa_cons (pe_sliceK K (pv 0) (po_some pe_int) po_none) pa_nil))) (blkOk_by (N := nm_is_ascending) (sc := (defScope s_is_ascending)) (by decide +kernel)) (fun _ _ _ _ _ => (pg_tupK K (n := 2) rfl (pgs_cons (pg_name (i := 1) sc_is_ascending.nd rfl (Or.inl rfl)) (pgs_cons (pg_name (i := 2) sc_is_ascending.nd rfl (Or.inl rfl)) pgs_nil)))) (fun _ _ _ _ _ => pts_nil) (fun _ _ _ _ _ => (pe_cmpR (r := (rLtA K)) (op_ltA hr.units) (pv 1) (pv 2) (nomark _)))) pa_nil)))),
    by exact (ss_ret (so_cb s_all (sab_cons (sb_of (se_fz (so_lc (sib_zip (sab_cons (sb_look 0) (sab_cons (sb_of (se_fz (so_sl (sb_look 0) (sp_some (sb_of se_int)) sp_none))) sab_nil))) (sg_tup (sgs_cons (sg_name 1) (sgs_cons (sg_name 2) sgs_nil))) (by decide) st_yes (se_fz (so_op s_lt (sb_look 1) (sb_look 2)))))) sab_nil)))⟩
abbrev nm_are_names : List Str := ["value", "name"]
theorem sc_are_names : FnScope nm_are_names ["value"] (defScope s_are_names) := ⟨rfl, rfl, rfl, by decide +kernel, rfl, by decide +kernel, by decide +kernel⟩
theorem gd_are_names (T : Txt K mg) : Gd P w K mg base 3 "are_names" ["value"] m_are_names := by
  obtain ⟨⟨fd_is_name, _, G_is_name, b_is_name⟩, g_is_name, k_is_name⟩ := gd_is_name (P := P) (w := w) (base := base) T
  obtain ⟨⟨fd_is_ascending, _, G_is_ascending, b_is_ascending⟩, g_is_ascending, k_is_ascending⟩ := gd_is_ascending (P := P) (w := w) (base := base) T
  exact gd_mk T.d_are_names sc_are_names (fun _ _ _ _ _ _ _ us hl => match us, hl with | [_], _ => rfl) fun cdv A outer s H E hr => ⟨_, (pss_cons (ps_if (PW.pt (pw_or (pt_not (pt_val (pe_callB (r := rIsi K) call_isi (by rfl) T.z_isinstance boot_isinstance' (pa_cons (pv 0) (pa_cons (pe_bltn (v := .ty "list") (by rfl) T.z_list boot_list' rfl) pa_nil))))) (pw_or1 (pt_not (pt_val (pe_callB (r := (rAll K)) (cr_all rfl) (by rfl) T.z_all boot_all' (pa_cons (pe_lc (own := [("name", 1)]) (g := (L2.gName 1)) rfl sc_are_names.nd (pi_listK K (pv 0)) (blkOk_by (N := nm_are_names) (sc := (defScope s_are_names)) (by decide +kernel)) (fun _ _ _ _ _ => (pg_name (i := 1) sc_are_names.nd rfl (Or.inl rfl))) (fun _ _ _ _ _ => pts_nil) (fun _ _ _ _ _ => (pe_callS G_is_name (hr.mono (by decide)) (by rfl) g_is_name k_is_name b_is_name (fun σ => passAt takes0 σ) (pa_cons (pv 1) pa_nil)))) pa_nil))))))) (pss_one (ps_ret pe_bl)) pss_nil)
  (pss_one (ps_ret (pe_callS G_is_ascending (hr.mono (by decide)) (by rfl) g_is_ascending k_is_ascending b_is_ascending (fun σ => passAt (takes_of rfl rfl rfl rfl) σ) (pa_cons (pv 0) pa_nil))))),
    by exact (ss_seq (ss_if (st_or (st_not (st_B (s_isi .list (sb_look 0)))) (st_not (st_B (so_cb s_all (sab_cons (sb_of (se_fz (so_lc (sib_list (sb_look 0)) (sg_name 1) (by decide) st_yes (se_fz (so_call (sa_cons (se_var 1) sa_nil)))))) sab_nil))))) (ss_ret (so_of se_bl)) ss_next)
  (ss_ret (so_call (sa_cons (se_var 0) sa_nil))))⟩
abbrev nm_are_places : List Str := ["value"]
theorem sc_are_places : FnScope nm_are_places ["value"] (defScope s_are_places) := ⟨rfl, rfl, rfl, by decide +kernel, rfl, by decide +kernel, by decide +kernel⟩
theorem gd_are_places (T : Txt K mg) : Gd P w K mg base 4 "are_places" ["value"] m_are_places := by
  obtain ⟨⟨fd_are_names, _, G_are_names, b_are_names⟩, g_are_names, k_are_names⟩ := gd_are_names (P := P) (w := w) (base := base) T
  obtain ⟨t_MOST_PLACES, c_MOST_PLACES⟩ := T.c_MOST_PLACES
  exact gd_mk T.d_are_places sc_are_places (fun _ _ _ _ _ _ _ us hl => match us, hl with | [_], _ => rfl) fun cdv A outer s H E hr => ⟨_, (pss_one (ps_ret (pe_and (pe_callS G_are_names (hr.mono (by decide)) (by rfl) g_are_names k_are_names b_are_names (fun σ => passAt (takes_of rfl rfl rfl rfl) σ) (pa_cons (pv 0) pa_nil)) (pe_one (pe_chain (r := (rLeA K)) (r' := (rLeA K)) (op_leA hr.units) (op_leA hr.units) pe_int (pe_callB (r := (rLenA K)) call_lenA (by rfl) T.z_len boot_len' (pa_cons (pv 0) pa_nil)) (pe_glob (v := .int (40)) (by rfl) c_MOST_PLACES ⟨_, rfl⟩)))))),
    by exact (ss_ret (so_of (se_and (se_fz (so_call (sa_cons (se_var 0) sa_nil))) (se_fz (so_chain s_le s_le (sb_of se_int) (sb_of (se_fz (so_cb s_len (sab_cons (sb_look 0) sab_nil)))) (sb_of se_int))))))⟩
abbrev nm_check_places : List Str := ["places"]
theorem sc_check_places : FnScope nm_check_places ["places"] (defScope s_check_places) := ⟨rfl, rfl, rfl, by decide +kernel, rfl, by decide +kernel, by decide +kernel⟩
theorem gd_check_places (T : Txt K mg) : Gd P w K mg base 5 "check_places" ["places"] m_check_places := by
  obtain ⟨⟨fd_are_places, _, G_are_places, b_are_places⟩, g_are_places, k_are_places⟩ := gd_are_places (P := P) (w := w) (base := base) T
  obtain ⟨t_LEAST_PLACES, c_LEAST_PLACES⟩ := T.c_LEAST_PLACES
  exact gd_mk T.d_check_places sc_check_places (fun _ _ _ _ _ _ _ us hl => match us, hl with | [_], _ => rfl) fun cdv A outer s H E hr => ⟨_, (pss_one (ps_if (PW.pt (pw_or (pt_not (pt_val (pe_callS G_are_places (hr.mono (by decide)) (by rfl) g_are_places k_are_places b_are_places (fun σ => passAt (takes_of rfl rfl rfl rfl) σ) (pa_cons (pv 0) pa_nil)))) (pw_or1 (pt_cmpR (r := (rLtA K)) (op_ltA hr.units) (pe_callB (r := (rLenA K)) call_lenA (by rfl) T.z_len boot_len' (pa_cons (pv 0) pa_nil)) (pe_glob (v := .int (2)) (by rfl) c_LEAST_PLACES ⟨_, rfl⟩) (nomark _))))) (pss_one (ps_raise rfl (takes_of rfl rfl rfl rfl) (pmk_own PySem.F.excBase_ValueError T.e_BadRow.q T.e_BadRow.g T.e_BadRow.kp (raises_own T.e_BadRow.s T.e_BadRow.t) (by rfl)))) pss_nil)),
    by exact (ss_if (st_or (st_not (st_B (so_call (sa_cons (se_var 0) sa_nil)))) (st_test (so_op s_lt (sb_of (se_fz (so_cb s_len (sab_cons (sb_look 0) sab_nil)))) (sb_of se_int)))) (ss_raise "BadRow") ss_next)⟩
abbrev nm_is_row : List Str := ["places", "value", "place"]
theorem sc_is_row : FnScope nm_is_row ["places", "value"] (defScope s_is_row) := ⟨rfl, rfl, rfl, by decide +kernel, rfl, by decide +kernel, by decide +kernel⟩
theorem gd_is_row (T : Txt K mg) : Gd P w K mg base 1 "is_row" ["places", "value"] m_is_row := by
  obtain ⟨t_LEAST_PLACES, c_LEAST_PLACES⟩ := T.c_LEAST_PLACES
  exact gd_mk T.d_is_row sc_is_row (fun _ _ _ _ _ _ _ us hl => match us, hl with | [_, _], _ => rfl) fun cdv A outer s H E hr => ⟨_, (pss_cons (ps_if (PW.pt (pw_or (pt_not (pt_val (pe_callB (r := rIsi K) call_isi (by rfl) T.z_isinstance boot_isinstance' (pa_cons (pv 1) (pa_cons (pe_bltn (v := .ty "list") (by rfl) T.z_list boot_list' rfl) pa_nil))))) (pw_or1 (pt_cmpR (r := (rNeA K)) (op_neA hr.units) (pe_callB (r := (rLenA K)) call_lenA (by rfl) T.z_len boot_len' (pa_cons (pv 1) pa_nil)) (pe_op (r := (rI0 fun i j => .int (i - j))) op_sub (pe_callB (r := (rLenA K)) call_lenA (by rfl) T.z_len boot_len' (pa_cons (pv 0) pa_nil)) (pe_glob (v := .int (2)) (by rfl) c_LEAST_PLACES ⟨_, rfl⟩)) (nomark _))))) (pss_one (ps_ret pe_bl)) pss_nil)
  (pss_one (ps_ret (pe_callB (r := (rAll K)) (cr_all rfl) (by rfl) T.z_all boot_all' (pa_cons (pe_lc (own := [("place", 2)]) (g := (L2.gName 2)) rfl sc_is_row.nd (pi_listK K (pv 1)) (blkOk_by (N := nm_is_row) (sc := (defScope s_is_row)) (by decide +kernel)) (fun _ _ _ _ _ => (pg_name (i := 2) sc_is_row.nd rfl (Or.inl rfl))) (fun _ _ _ _ _ => pts_nil) (fun _ _ _ _ _ => (pe_and (pe_callB (r := rIsi K) call_isi (by rfl) T.z_isinstance boot_isinstance' (pa_cons (pv 2) (pa_cons (pe_bltn (v := .ty "str") (by rfl) T.z_str boot_str' rfl) pa_nil))) (pe_one (pe_cmpR (r := (rInA K false)) op_inA (pv 2) (pv 0) (by rfl)))))) pa_nil))))),
    by exact (ss_seq (ss_if (st_or (st_not (st_B (s_isi .list (sb_look 1)))) (st_test (so_op s_ne (sb_of (se_fz (so_cb s_len (sab_cons (sb_look 1) sab_nil)))) (sb_of (se_fz (so_op s_sub (sb_of (se_fz (so_cb s_len (sab_cons (sb_look 0) sab_nil)))) (sb_of se_int))))))) (ss_ret (so_of se_bl)) ss_next)
  (ss_ret (so_cb s_all (sab_cons (sb_of (se_fz (so_lc (sib_list (sb_look 1)) (sg_name 2) (by decide) st_yes (se_and (se_fz (s_isi .str (sb_look 2))) (se_fz (so_op s_in (sb_look 2) (sb_look 0))))))) sab_nil))))⟩
abbrev nm_check_row : List Str := ["places", "row"]
theorem sc_check_row : FnScope nm_check_row ["places", "row"] (defScope s_check_row) := ⟨rfl, rfl, rfl, by decide +kernel, rfl, by decide +kernel, by decide +kernel⟩
theorem gd_check_row (T : Txt K mg) : Gd P w K mg base 6 "check_row" ["places", "row"] m_check_row := by
  obtain ⟨⟨fd_check_places, _, G_check_places, b_check_places⟩, g_check_places, k_check_places⟩ := gd_check_places (P := P) (w := w) (base := base) T
  obtain ⟨⟨fd_is_row, _, G_is_row, b_is_row⟩, g_is_row, k_is_row⟩ := gd_is_row (P := P) (w := w) (base := base) T
  exact gd_mk T.d_check_row sc_check_row (fun _ _ _ _ _ _ _ us hl => match us, hl with | [_, _], _ => rfl) fun cdv A outer s H E hr => ⟨_, (pss_cons (ps_expr (pe_callS G_check_places (hr.mono (by decide)) (by rfl) g_check_places k_check_places b_check_places (fun σ => passAt (takes_of rfl rfl rfl rfl) σ) (pa_cons (pv 0) pa_nil)))
  (pss_one (ps_if (pt_not (pt_val (pe_callS G_is_row (hr.mono (by decide)) (by rfl) g_is_row k_is_row b_is_row (fun σ => passAt (takes_of rfl rfl rfl rfl) σ) (pa_cons (pv 0) (pa_cons (pv 1) pa_nil))))) (pss_one (ps_raise rfl (takes_of rfl rfl rfl rfl) (pmk_own PySem.F.excBase_ValueError T.e_BadRow.q T.e_BadRow.g T.e_BadRow.kp (raises_own T.e_BadRow.s T.e_BadRow.t) (by rfl)))) pss_nil))),
    by exact (ss_seq (ss_drop (se_fz (so_call (sa_cons (se_var 0) sa_nil))))
  (ss_if (st_not (st_B (so_call (sa_cons (se_var 0) (sa_cons (se_var 1) sa_nil))))) (ss_raise "BadRow") ss_next))⟩
abbrev nm_power : List Str := ["base", "exponent", "found", "_"]
theorem sc_power : FnScope nm_power ["base", "exponent"] (defScope s_power) := ⟨rfl, rfl, rfl, by decide +kernel, rfl, by decide +kernel, by decide +kernel⟩
theorem gd_power (T : Txt K mg) : Gd P w K mg base 1 "power" ["base", "exponent"] m_power := by
  skip
  exact gd_mk T.d_power sc_power (fun _ _ _ _ _ _ _ us hl => match us, hl with | [_, _], _ => rfl) fun cdv A outer s H E hr => ⟨_, (pss_cons (ps_set (i := 2) sc_power.nd rfl (Or.inl rfl) pe_int)
  (pss_cons (ps_for (passes_of rfl) rfl (pi_range1 rfl T.z_range (pa_cons (pv 1) pa_nil)) (pg_name (i := 3) sc_power.nd rfl (Or.inl rfl)) (pss_one (ps_set (i := 2) sc_power.nd rfl (Or.inl rfl) (pe_op (r := rMulA) op_mulA (pv 2) (pv 0)))))
  (pss_one (ps_ret (pv 2))))),
    by exact (ss_seq (ss_set 2 (so_of se_int))
  (ss_seq (ss_for (si_range1 (sb_look 1)) (sg_name 3) (ss_set 2 (so_op s_mul (sb_look 2) (sb_look 0))))
  (ss_retV 2)))⟩
abbrev nm_how_many : List Str := ["n"]
theorem sc_how_many : FnScope nm_how_many ["n"] (defScope s_how_many) := ⟨rfl, rfl, rfl, by decide +kernel, rfl, by decide +kernel, by decide +kernel⟩
theorem gd_how_many (T : Txt K mg) : Gd P w K mg base 2 "how_many" ["n"] m_how_many := by
  obtain ⟨⟨fd_power, _, G_power, b_power⟩, g_power, k_power⟩ := gd_power (P := P) (w := w) (base := base) T
  obtain ⟨t_LEAST_PLACES, c_LEAST_PLACES⟩ := T.c_LEAST_PLACES
  exact gd_mk T.d_how_many sc_how_many (fun _ _ _ _ _ _ _ us hl => match us, hl with | [_], _ => rfl) fun cdv A outer s H E hr => ⟨_, (pss_one (ps_ret (pe_callS G_power (hr.mono (by decide)) (by rfl) g_power k_power b_power (fun σ => passAt (takes_of rfl rfl rfl rfl) σ) (pa_cons (pv 0) (pa_cons (pe_op (r := (rI0 fun i j => .int (i - j))) op_sub (pv 0) (pe_glob (v := .int (2)) (by rfl) c_LEAST_PLACES ⟨_, rfl⟩)) pa_nil))))),
    by exact (ss_ret (so_call (sa_cons (se_var 0) (sa_cons (se_fz (so_op s_sub (sb_look 0) (sb_of se_int))) sa_nil))))⟩
abbrev nm_row_at : List Str := ["places", "number", "size", "row", "left", "_"]
theorem sc_row_at : FnScope nm_row_at ["places", "number"] (defScope s_row_at) := ⟨rfl, rfl, rfl, by decide +kernel, rfl, by decide +kernel, by decide +kernel⟩
theorem gd_row_at (T : Txt K mg) : Gd P w K mg base 6 "row_at" ["places", "number"] m_row_at := by
  obtain ⟨⟨fd_check_places, _, G_check_places, b_check_places⟩, g_check_places, k_check_places⟩ := gd_check_places (P := P) (w := w) (base := base) T
  obtain ⟨⟨fd_how_many, _, G_how_many, b_how_many⟩, g_how_many, k_how_many⟩ := gd_how_many (P := P) (w := w) (base := base) T
  obtain ⟨t_LEAST_PLACES, c_LEAST_PLACES⟩ := T.c_LEAST_PLACES
  exact gd_mk T.d_row_at sc_row_at (fun _ _ _ _ _ _ _ us hl => match us, hl with | [_, _], _ => rfl) fun cdv A outer s H E hr => ⟨_, (pss_cons (ps_expr (pe_callS G_check_places (hr.mono (by decide)) (by rfl) g_check_places k_check_places b_check_places (fun σ => passAt (takes_of rfl rfl rfl rfl) σ) (pa_cons (pv 0) pa_nil)))
  (pss_cons (ps_set (i := 2) sc_row_at.nd rfl (Or.inl rfl) (pe_callB (r := (rLenA K)) call_lenA (by rfl) T.z_len boot_len' (pa_cons (pv 0) pa_nil)))
  (pss_cons (ps_if (pt_not (pt_chain (r := (rLeA K)) (r' := (rLtA K)) (op_leA hr.units) (op_ltA hr.units) pe_int (pv 1) (pe_callS G_how_many (hr.mono (by decide)) (by rfl) g_how_many k_how_many b_how_many (fun σ => passAt (takes_of rfl rfl rfl rfl) σ) (pa_cons (pv 2) pa_nil)))) (pss_one (ps_ret pe_non)) pss_nil)
  (pss_cons (ps_set (i := 3) sc_row_at.nd rfl (Or.inl rfl) (pe_lst pa_nil))
  (pss_cons (ps_set (i := 4) sc_row_at.nd rfl (Or.inl rfl) (pv 1))
  (pss_cons (ps_for (passes_of rfl) rfl (pi_range1 rfl T.z_range (pa_cons (pe_op (r := (rI0 fun i j => .int (i - j))) op_sub (pv 2) (pe_glob (v := .int (2)) (by rfl) c_LEAST_PLACES ⟨_, rfl⟩)) pa_nil)) (pg_name (i := 5) sc_row_at.nd rfl (Or.inl rfl)) (pss_cons (ps_expr (pe_bmK K PySem.F.plainAttrs_list PySem.F.slot_list_append PySem.F.type_list_append mt_append (pv 3) (pa_cons (pe_ixK K (pv 0) (pe_op (r := (rI (fun _ j => 0 < j) fun i j => .int (i % j))) op_mod (pv 4) (pv 2)) (fun _ _ => rfl)) pa_nil)))
  (pss_one (ps_set (i := 4) sc_row_at.nd rfl (Or.inl rfl) (pe_op (r := (rI CDivW fun i j => .int (i / j))) op_fdivW (pv 4) (pv 2))))))
  (pss_cons (ps_expr (pe_bm0 PySem.F.plainAttrs_list PySem.F.slot_list_reverse PySem.F.type_list_reverse mt_reverse (pv 3)))
  (pss_one (ps_ret (pv 3)))))))))),
    by exact (ss_seq (ss_drop (se_fz (so_call (sa_cons (se_var 0) sa_nil))))
  (ss_seq (ss_set 2 (so_cb s_len (sab_cons (sb_look 0) sab_nil)))
  (ss_seq (ss_fz 2 (ss_if (st_not (st_test (so_chain s_le s_lt (sb_of se_int) (sb_look 1) (sb_of (se_fz (so_call (sa_cons (se_var 2) sa_nil))))))) (ss_ret (so_of se_non)) ss_next))
  (ss_seq (ss_set 3 (so_lst sa_nil))
  (ss_seq (ss_set 4 (so_of (se_var 1)))
  (ss_seq (ss_for (si_range1 (sb_of (se_fz (so_op s_sub (sb_look 2) (sb_of se_int))))) (sg_name 5) (ss_seq (ss_app 3 (se_fz (so_op s_ix (sb_look 0) (sb_of (se_fz (so_op s_mod (sb_look 4) (sb_look 2)))))))
  (ss_set 4 (so_op s_div (sb_look 4) (sb_look 2)))))
  (ss_seq (ss_rev 3)
  (ss_retV 3))))))))⟩
abbrev nm_number_of : List Str := ["places", "row", "found", "place"]
theorem sc_number_of : FnScope nm_number_of ["places", "row"] (defScope s_number_of) := ⟨rfl, rfl, rfl, by decide +kernel, rfl, by decide +kernel, by decide +kernel⟩
theorem gd_number_of (T : Txt K mg) : Gd P w K mg base 7 "number_of" ["places", "row"] m_number_of := by
  obtain ⟨⟨fd_check_row, _, G_check_row, b_check_row⟩, g_check_row, k_check_row⟩ := gd_check_row (P := P) (w := w) (base := base) T
  exact gd_mk T.d_number_of sc_number_of (fun _ _ _ _ _ _ _ us hl => match us, hl with | [_, _], _ => rfl) fun cdv A outer s H E hr => ⟨_, (pss_cons (ps_expr (pe_callS G_check_row (hr.mono (by decide)) (by rfl) g_check_row k_check_row b_check_row (fun σ => passAt (takes_of rfl rfl rfl rfl) σ) (pa_cons (pv 0) (pa_cons (pv 1) pa_nil))))
  (pss_cons (ps_set (i := 2) sc_number_of.nd rfl (Or.inl rfl) pe_int)
  (pss_cons (ps_for (passes_of rfl) rfl (pi_listK K (pv 1)) (pg_name (i := 3) sc_number_of.nd rfl (Or.inl rfl)) (pss_one (ps_set (i := 2) sc_number_of.nd rfl (Or.inl rfl) (pe_op (r := rAddA) op_addA (pe_op (r := rMulA) op_mulA (pv 2) (pe_callB (r := (rLenA K)) call_lenA (by rfl) T.z_len boot_len' (pa_cons (pv 0) pa_nil))) (pe_bmK K PySem.F.plainAttrs_list PySem.F.slot_list_index PySem.F.type_list_index mt_index (pv 0) (pa_cons (pv 3) pa_nil))))))
  (pss_one (ps_ret (pv 2)))))),
    by exact (ss_seq (ss_drop (se_fz (so_call (sa_cons (se_var 0) (sa_cons (se_var 1) sa_nil)))))
  (ss_seq (ss_set 2 (so_of se_int))
  (ss_seq (ss_for (si_list (se_var 1)) (sg_name 3) (ss_set 2 (so_op s_add (sb_of (se_fz (so_op s_mul (sb_look 2) (sb_of (se_fz (so_cb s_len (sab_cons (sb_look 0) sab_nil))))))) (sb_of (se_fz (so_methL m_index (sb_look 0) (sab_cons (sb_look 3) sab_nil)))))))
  (ss_retV 2))))⟩
abbrev nm__law_numbers : List Str := ["script", "at", "count", "cell", "numbers", "k", "mixed"]
theorem sc__law_numbers : FnScope nm__law_numbers ["script", "at", "count"] (defScope s__law_numbers) := ⟨rfl, rfl, rfl, by decide +kernel, rfl, by decide +kernel, by decide +kernel⟩
theorem gd__law_numbers (T : Txt K mg) : Gd P w K mg base 1 "_law_numbers" ["script", "at", "count"] m__law_numbers := by
  skip
  exact gd_mk T.d__law_numbers sc__law_numbers (fun _ _ _ _ _ _ _ us hl => match us, hl with | [_, _, _], _ => rfl) fun cdv A outer s H E hr => ⟨_, (pss_cons (ps_set (i := 3) sc__law_numbers.nd rfl (Or.inl rfl) (pe_op (r := rMulA) op_mulA pe_int (pe_op (r := rAddA) op_addA (pv 1) pe_int)))
  (pss_cons (ps_if (pt_cmpR (r := (rLtA K)) (op_ltA hr.units) (pv 1) (pe_callB (r := (rLenA K)) call_lenA (by rfl) T.z_len boot_len' (pa_cons (pv 0) pa_nil)) (nomark _)) (pss_one (ps_set (i := 3) sc__law_numbers.nd rfl (Or.inl rfl) (pe_callTy (r := fun xs H Q => (∃ i, xs = [.int i] ∧ Q (.int i) H) ∨ ∃ k, xs = [.bl k] ∧ Q (.int (if k then 1 else 0)) H) call_int1 (by rfl) T.z_int boot_int' (pa_cons (pe_ixK K (pv 0) (pv 1) (fun _ _ => rfl)) pa_nil)))) pss_nil)
  (pss_cons (ps_if (pt_cmpR (r := (rLtA K)) (op_ltA hr.units) (pv 3) pe_int (nomark _)) (pss_one (ps_set (i := 3) sc__law_numbers.nd rfl (Or.inl rfl) (pe_op (r := (rI0 fun i j => .int (i - j))) op_sub pe_int (pe_op (r := rMulA) op_mulA pe_int (pv 3))))) pss_nil)
  (pss_cons (ps_set (i := 4) sc__law_numbers.nd rfl (Or.inl rfl) (pe_lst pa_nil))
  (pss_cons (ps_for (passes_of rfl) rfl (pi_range1 rfl T.z_range (pa_cons (pv 2) pa_nil)) (pg_name (i := 5) sc__law_numbers.nd rfl (Or.inl rfl)) (pss_one (ps_if (pt_cmpR (r := (rGeA K)) (op_geA hr.units) (pv 3) (pe_op (r := (rI CPow fun i j => .int (i ^ j.toNat))) op_pow pe_int pe_int) (nomark _)) (pss_cons (ps_expr (pe_bmK K PySem.F.plainAttrs_list PySem.F.slot_list_append PySem.F.type_list_append mt_append (pv 4) (pa_cons (pe_op (r := (rI (fun _ j => 0 < j) fun i j => .int (i % j))) op_mod (pv 3) pe_int) pa_nil)))
  (pss_one (ps_set (i := 3) sc__law_numbers.nd rfl (Or.inl rfl) (pe_op (r := (rI CDivW fun i j => .int (i / j))) op_fdivW (pv 3) pe_int)))) (pss_cons (ps_set (i := 6) sc__law_numbers.nd rfl (Or.inl rfl) (pe_op (r := (rI (fun _ j => 0 < j) fun i j => .int (i % j))) op_mod (pe_op (r := rAddA) op_addA (pe_op (r := rAddA) op_addA (pe_op (r := rMulA) op_mulA (pv 3) pe_int) (pe_op (r := rMulA) op_mulA (pe_op (r := rAddA) op_addA (pv 5) pe_int) pe_int)) (pe_op (r := rMulA) op_mulA (pv 1) pe_int)) pe_int))
  (pss_cons (ps_set (i := 6) sc__law_numbers.nd rfl (Or.inl rfl) (pe_op (r := (rI (fun _ j => 0 < j) fun i j => .int (i % j))) op_mod (pe_op (r := rAddA) op_addA (pe_op (r := rMulA) op_mulA (pv 6) (pv 6)) (pe_op (r := rMulA) op_mulA pe_int (pe_op (r := rAddA) op_addA (pv 5) pe_int))) pe_int))
  (pss_one (ps_expr (pe_bmK K PySem.F.plainAttrs_list PySem.F.slot_list_append PySem.F.type_list_append mt_append (pv 4) (pa_cons (pe_op (r := (rI (fun _ j => 0 < j) fun i j => .int (i % j))) op_mod (pe_op (r := (rI CDivW fun i j => .int (i / j))) op_fdivW (pv 6) pe_int) pe_int) pa_nil)))))))))
  (pss_one (ps_ret (pv 4)))))))),
    by exact (ss_seq (ss_set 3 (so_op s_mul (sb_of se_int) (sb_of (se_fz (so_op s_add (sb_look 1) (sb_of se_int))))))
  (ss_seq (ss_if (st_test (so_op s_lt (sb_look 1) (sb_of (se_fz (so_cb s_len (sab_cons (sb_look 0) sab_nil)))))) (ss_set 3 (so_cb s_int (sab_cons (sb_of (se_fz (so_op s_ix (sb_look 0) (sb_look 1)))) sab_nil))) ss_next)
  (ss_seq (ss_if (st_test (so_op s_lt (sb_look 3) (sb_of se_int))) (ss_set 3 (so_op s_sub (sb_of se_int) (sb_of (se_fz (so_op s_mul (sb_of se_int) (sb_look 3)))))) ss_next)
  (ss_seq (ss_set 4 (so_lst sa_nil))
  (ss_seq (ss_for (si_range1 (sb_look 2)) (sg_name 5) (ss_if (st_test (so_op s_ge (sb_look 3) (sb_of (se_fz (so_op s_pow (sb_of se_int) (sb_of se_int)))))) (ss_seq (ss_app 4 (se_fz (so_op s_mod (sb_look 3) (sb_of se_int))))
  (ss_set 3 (so_op s_div (sb_look 3) (sb_of se_int)))) (ss_seq (ss_set 6 (so_op s_mod (sb_of (se_fz (so_op s_add (sb_of (se_fz (so_op s_add (sb_of (se_fz (so_op s_mul (sb_look 3) (sb_of se_int)))) (sb_of (se_fz (so_op s_mul (sb_of (se_fz (so_op s_add (sb_look 5) (sb_of se_int)))) (sb_of se_int))))))) (sb_of (se_fz (so_op s_mul (sb_look 1) (sb_of se_int))))))) (sb_of se_int)))
  (ss_seq (ss_set 6 (so_op s_mod (sb_of (se_fz (so_op s_add (sb_of (se_fz (so_op s_mul (sb_look 6) (sb_look 6)))) (sb_of (se_fz (so_op s_mul (sb_of se_int) (sb_of (se_fz (so_op s_add (sb_look 5) (sb_of se_int)))))))))) (sb_of se_int)))
  (ss_app 4 (se_fz (so_op s_mod (sb_of (se_fz (so_op s_div (sb_look 6) (sb_of se_int)))) (sb_of se_int))))))))
  (ss_retV 4))))))⟩
abbrev nm__law_is_integer : List Str := ["value"]
theorem sc__law_is_integer : FnScope nm__law_is_integer ["value"] (defScope s__law_is_integer) := ⟨rfl, rfl, rfl, by decide +kernel, rfl, by decide +kernel, by decide +kernel⟩
theorem gd__law_is_integer (T : Txt K mg) : Gd P w K mg base 1 "_law_is_integer" ["value"] m__law_is_integer := by
  skip
  exact gd_mk T.d__law_is_integer sc__law_is_integer (fun _ _ _ _ _ _ _ us hl => match us, hl with | [_], _ => rfl) fun cdv A outer s H E hr => ⟨_, (pss_one (ps_ret (pe_and (pe_callB (r := rIsi K) call_isi (by rfl) T.z_isinstance boot_isinstance' (pa_cons (pv 0) (pa_cons (pe_bltn (v := .ty "int") (by rfl) T.z_int boot_int' rfl) pa_nil))) (pe_one (pe_not (pe_callB (r := rIsi K) call_isi (by rfl) T.z_isinstance boot_isinstance' (pa_cons (pv 0) (pa_cons (pe_bltn (v := .ty "bool") (by rfl) T.z_bool boot_bool' rfl) pa_nil)))))))),
    by exact (ss_ret (so_of (se_and (se_fz (s_isi .int (sb_look 0))) (se_not (se_fz (s_isi .bool (sb_look 0)))))))⟩
abbrev nm__law_name : List Str := ["numbers", "at", "longest", "signs", "name", "k"]
theorem sc__law_name : FnScope nm__law_name ["numbers", "at", "longest"] (defScope s__law_name) := ⟨rfl, rfl, rfl, by decide +kernel, rfl, by decide +kernel, by decide +kernel⟩
theorem gd__law_name (T : Txt K mg) : Gd P w K mg base 1 "_law_name" ["numbers", "at", "longest"] m__law_name := by
  skip
  exact gd_mk T.d__law_name sc__law_name (fun _ _ _ _ _ _ _ us hl => match us, hl with | [_, _, _], _ => rfl) fun cdv A outer s H E hr => ⟨_, (pss_cons (ps_set (i := 3) sc__law_name.nd rfl (Or.inl rfl) pe_str)
  (pss_cons (ps_set (i := 4) sc__law_name.nd rfl (Or.inl rfl) (pe_ixK K (pv 3) (pe_op (r := (rI (fun _ j => 0 < j) fun i j => .int (i % j))) op_mod (pe_ixK K (pv 0) (pv 1) (fun _ _ => rfl)) pe_int) (fun _ _ => rfl)))
  (pss_cons (ps_for (passes_of rfl) rfl (pi_range1 rfl T.z_range (pa_cons (pe_op (r := (rI (fun _ j => 0 < j) fun i j => .int (i % j))) op_mod (pe_ixK K (pv 0) (pe_op (r := rAddA) op_addA (pv 1) pe_int) (fun _ _ => rfl)) (pv 2)) pa_nil)) (pg_name (i := 5) sc__law_name.nd rfl (Or.inl rfl)) (pss_one (ps_set (i := 4) sc__law_name.nd rfl (Or.inl rfl) (pe_op (r := rAddA) op_addA (pv 4) (pe_ixK K (pv 3) (pe_op (r := (rI (fun _ j => 0 < j) fun i j => .int (i % j))) op_mod (pe_op (r := rAddA) op_addA (pe_op (r := rAddA) op_addA (pe_op (r := rMulA) op_mulA (pe_ixK K (pv 0) (pe_op (r := rAddA) op_addA (pv 1) pe_int) (fun _ _ => rfl)) (pe_op (r := rAddA) op_addA (pv 5) pe_int)) (pe_op (r := (rI CDivW fun i j => .int (i / j))) op_fdivW (pe_ixK K (pv 0) (pe_op (r := rAddA) op_addA (pe_op (r := rAddA) op_addA (pv 1) pe_int) (pe_op (r := (rI (fun _ j => 0 < j) fun i j => .int (i % j))) op_mod (pv 5) pe_int)) (fun _ _ => rfl)) pe_int)) (pv 5)) pe_int) (fun _ _ => rfl))))))
  (pss_one (ps_ret (pv 4)))))),
    by exact (ss_seq (ss_set 3 (so_of se_str))
  (ss_seq (ss_set 4 (so_op s_ix (sb_look 3) (sb_of (se_fz (so_op s_mod (sb_of (se_fz (so_op s_ix (sb_look 0) (sb_look 1)))) (sb_of se_int))))))
  (ss_seq (ss_for (si_range1 (sb_of (se_fz (so_op s_mod (sb_of (se_fz (so_op s_ix (sb_look 0) (sb_of (se_fz (so_op s_add (sb_look 1) (sb_of se_int))))))) (sb_look 2))))) (sg_name 5) (ss_set 4 (so_op s_add (sb_look 4) (sb_of (se_fz (so_op s_ix (sb_look 3) (sb_of (se_fz (so_op s_mod (sb_of (se_fz (so_op s_add (sb_of (se_fz (so_op s_add (sb_of (se_fz (so_op s_mul (sb_of (se_fz (so_op s_ix (sb_look 0) (sb_of (se_fz (so_op s_add (sb_look 1) (sb_of se_int))))))) (sb_of (se_fz (so_op s_add (sb_look 5) (sb_of se_int))))))) (sb_of (se_fz (so_op s_div (sb_of (se_fz (so_op s_ix (sb_look 0) (sb_of (se_fz (so_op s_add (sb_of (se_fz (so_op s_add (sb_look 1) (sb_of se_int)))) (sb_of (se_fz (so_op s_mod (sb_look 5) (sb_of se_int)))))))))) (sb_of se_int))))))) (sb_look 5)))) (sb_of se_int))))))))))
  (ss_retV 4))))⟩
abbrev nm__law_names : List Str := ["script", "at", "many", "longest", "names", "k", "numbers", "name"]
theorem sc__law_names : FnScope nm__law_names ["script", "at", "many", "longest"] (defScope s__law_names) := ⟨rfl, rfl, rfl, by decide +kernel, rfl, by decide +kernel, by decide +kernel⟩
theorem gd__law_names (T : Txt K mg) : Gd P w K mg base 2 "_law_names" ["script", "at", "many", "longest"] m__law_names := by
  obtain ⟨⟨fd__law_numbers, _, G__law_numbers, b__law_numbers⟩, g__law_numbers, k__law_numbers⟩ := gd__law_numbers (P := P) (w := w) (base := base) T
  obtain ⟨⟨fd__law_name, _, G__law_name, b__law_name⟩, g__law_name, k__law_name⟩ := gd__law_name (P := P) (w := w) (base := base) T
  exact gd_mk T.d__law_names sc__law_names (fun _ _ _ _ _ _ _ us hl => match us, hl with | [_, _, _, _], _ => rfl) fun cdv A outer s H E hr => ⟨_, (pss_cons (ps_set (i := 4) sc__law_names.nd rfl (Or.inl rfl) (pe_lst pa_nil))
  (pss_cons (ps_for (passes_of rfl) rfl (pi_range1 rfl T.z_range (pa_cons (pv 2) pa_nil)) (pg_name (i := 5) sc__law_names.nd rfl (Or.inl rfl)) (pss_cons (ps_set (i := 6) sc__law_names.nd rfl (Or.inl rfl) (pe_callS G__law_numbers (hr.mono (by decide)) (by rfl) g__law_numbers k__law_numbers b__law_numbers (fun σ => passAt (takes_of rfl rfl rfl rfl) σ) (pa_cons (pv 0) (pa_cons (pe_op (r := rAddA) op_addA (pv 1) (pe_op (r := (rI CDivW fun i j => .int (i / j))) op_fdivW (pv 5) pe_int)) (pa_cons (pe_op (r := rMulA) op_mulA pe_int (pe_op (r := rAddA) op_addA pe_int (pe_op (r := (rI (fun _ j => 0 < j) fun i j => .int (i % j))) op_mod (pv 5) pe_int))) pa_nil)))))
  (pss_cons (ps_set (i := 7) sc__law_names.nd rfl (Or.inl rfl) (pe_callS G__law_name (hr.mono (by decide)) (by rfl) g__law_name k__law_name b__law_name (fun σ => passAt (takes_of rfl rfl rfl rfl) σ) (pa_cons (pv 6) (pa_cons (pe_op (r := rMulA) op_mulA pe_int (pe_op (r := (rI (fun _ j => 0 < j) fun i j => .int (i % j))) op_mod (pv 5) pe_int)) (pa_cons (pv 3) pa_nil)))))
  (pss_one (ps_if (pt_cmpR (r := (rInA K true)) op_notInA (pv 7) (pv 4) (by rfl)) (pss_one (ps_expr (pe_bmK K PySem.F.plainAttrs_list PySem.F.slot_list_append PySem.F.type_list_append mt_append (pv 4) (pa_cons (pv 7) pa_nil)))) pss_nil)))))
  (pss_one (ps_ret (pv 4))))),
    by exact (ss_seq (ss_set 4 (so_lst sa_nil))
  (ss_seq (ss_for (si_range1 (sb_look 2)) (sg_name 5) (ss_seq (ss_set 6 (so_call (sa_cons (se_var 0) (sa_cons (se_fz (so_op s_add (sb_look 1) (sb_of (se_fz (so_op s_div (sb_look 5) (sb_of se_int)))))) (sa_cons (se_fz (so_op s_mul (sb_of se_int) (sb_of (se_fz (so_op s_add (sb_of se_int) (sb_of (se_fz (so_op s_mod (sb_look 5) (sb_of se_int))))))))) sa_nil)))))
  (ss_seq (ss_fz 6 (ss_set 7 (so_call (sa_cons (se_var 6) (sa_cons (se_fz (so_op s_mul (sb_of se_int) (sb_of (se_fz (so_op s_mod (sb_look 5) (sb_of se_int)))))) (sa_cons (se_var 3) sa_nil))))))
  (ss_if (st_test (so_op s_notIn (sb_look 7) (sb_look 4))) (ss_fz 7 (ss_app 4 (se_var 7))) ss_next))))
  (ss_retV 4)))⟩
abbrev nm__law_drawn_places : List Str := ["script", "most", "sizes", "many", "places"]
theorem sc__law_drawn_places : FnScope nm__law_drawn_places ["script", "most"] (defScope s__law_drawn_places) := ⟨rfl, rfl, rfl, by decide +kernel, rfl, by decide +kernel, by decide +kernel⟩
theorem gd__law_drawn_places (T : Txt K mg) : Gd P w K mg base 3 "_law_drawn_places" ["script", "most"] m__law_drawn_places := by
  obtain ⟨⟨fd__law_numbers, _, G__law_numbers, b__law_numbers⟩, g__law_numbers, k__law_numbers⟩ := gd__law_numbers (P := P) (w := w) (base := base) T
  obtain ⟨⟨fd__law_names, _, G__law_names, b__law_names⟩, g__law_names, k__law_names⟩ := gd__law_names (P := P) (w := w) (base := base) T
  exact gd_mk T.d__law_drawn_places sc__law_drawn_places (fun _ _ _ _ _ _ _ us hl => match us, hl with | [_, _], _ => rfl) fun cdv A outer s H E hr => ⟨_, (pss_cons (ps_set (i := 2) sc__law_drawn_places.nd rfl (Or.inl rfl) (pe_callS G__law_numbers (hr.mono (by decide)) (by rfl) g__law_numbers k__law_numbers b__law_numbers (fun σ => passAt (takes_of rfl rfl rfl rfl) σ) (pa_cons (pv 0) (pa_cons pe_int (pa_cons pe_int pa_nil)))))
  (pss_cons (ps_set (i := 3) sc__law_drawn_places.nd rfl (Or.inl rfl) (pe_op (r := rAddA) op_addA pe_int (pe_op (r := (rI (fun _ j => 0 < j) fun i j => .int (i % j))) op_mod (pe_ixK K (pv 2) pe_int (fun _ _ => rfl)) (pe_op (r := (rI0 fun i j => .int (i - j))) op_sub (pv 1) pe_int))))
  (pss_cons (ps_if (pt_cmpR (r := (rEqA K)) (op_eqA hr.units) (pe_op (r := (rI (fun _ j => 0 < j) fun i j => .int (i % j))) op_mod (pe_ixK K (pv 2) pe_int (fun _ _ => rfl)) pe_int) pe_int (nomark _)) (pss_one (ps_set (i := 3) sc__law_drawn_places.nd rfl (Or.inl rfl) (pe_op (r := rAddA) op_addA pe_int (pe_op (r := (rI (fun _ j => 0 < j) fun i j => .int (i % j))) op_mod (pe_ixK K (pv 2) pe_int (fun _ _ => rfl)) pe_int)))) pss_nil)
  (pss_cons (ps_set (i := 4) sc__law_drawn_places.nd rfl (Or.inl rfl) (pe_callB (r := (rSortedS K)) cr_sortedS (by rfl) T.z_sorted boot_sorted' (pa_cons (pe_callS G__law_names (hr.mono (by decide)) (by rfl) g__law_names k__law_names b__law_names (fun σ => passAt (takes_of rfl rfl rfl rfl) σ) (pa_cons (pv 0) (pa_cons pe_int (pa_cons (pv 3) (pa_cons pe_int pa_nil))))) pa_nil)))
  (pss_cons (ps_if (pt_cmpR (r := (rLtA K)) (op_ltA hr.units) (pe_callB (r := (rLenA K)) call_lenA (by rfl) T.z_len boot_len' (pa_cons (pv 4) pa_nil)) pe_int (nomark _)) (pss_one (ps_set (i := 4) sc__law_drawn_places.nd rfl (Or.inl rfl) (pe_lst (pa_cons pe_str (pa_cons pe_str pa_nil))))) pss_nil)
  (pss_one (ps_ret (pv 4)))))))),
    by exact (ss_seq (ss_set 2 (so_call (sa_cons (se_var 0) (sa_cons se_int (sa_cons se_int sa_nil)))))
  (ss_seq (ss_set 3 (so_op s_add (sb_of se_int) (sb_of (se_fz (so_op s_mod (sb_of (se_fz (so_op s_ix (sb_look 2) (sb_of se_int)))) (sb_of (se_fz (so_op s_sub (sb_look 1) (sb_of se_int)))))))))
  (ss_seq (ss_if (st_test (so_op s_eq (sb_of (se_fz (so_op s_mod (sb_of (se_fz (so_op s_ix (sb_look 2) (sb_of se_int)))) (sb_of se_int)))) (sb_of se_int))) (ss_set 3 (so_op s_add (sb_of se_int) (sb_of (se_fz (so_op s_mod (sb_of (se_fz (so_op s_ix (sb_look 2) (sb_of se_int)))) (sb_of se_int)))))) ss_next)
  (ss_seq (ss_fz 3 (ss_set 4 (so_cb s_sorted (sab_cons (sb_of (se_fz (so_call (sa_cons (se_var 0) (sa_cons se_int (sa_cons (se_var 3) (sa_cons se_int sa_nil))))))) sab_nil))))
  (ss_seq (ss_if (st_test (so_op s_lt (sb_of (se_fz (so_cb s_len (sab_cons (sb_look 4) sab_nil)))) (sb_of se_int))) (ss_set 4 (so_lst (sa_cons se_str (sa_cons se_str sa_nil)))) ss_next)
  (ss_retV 4))))))⟩
abbrev nm__law_drawn_row : List Str := ["script", "at", "places", "numbers", "few", "k"]
theorem sc__law_drawn_row : FnScope nm__law_drawn_row ["script", "at", "places"] (defScope s__law_drawn_row) := ⟨rfl, rfl, rfl, by decide +kernel, rfl, by decide +kernel, by decide +kernel⟩
theorem gd__law_drawn_row (T : Txt K mg) : Gd P w K mg base 2 "_law_drawn_row" ["script", "at", "places"] m__law_drawn_row := by
  obtain ⟨⟨fd__law_numbers, _, G__law_numbers, b__law_numbers⟩, g__law_numbers, k__law_numbers⟩ := gd__law_numbers (P := P) (w := w) (base := base) T
  exact gd_mk T.d__law_drawn_row sc__law_drawn_row (fun _ _ _ _ _ _ _ us hl => match us, hl with | [_, _, _], _ => rfl) fun cdv A outer s H E hr => ⟨_, (pss_cons (ps_set (i := 3) sc__law_drawn_row.nd rfl (Or.inr rfl) (pe_callS G__law_numbers (hr.mono (by decide)) (by rfl) g__law_numbers k__law_numbers b__law_numbers (fun σ => passAt (takes_of rfl rfl rfl rfl) σ) (pa_cons (pv 0) (pa_cons (pv 1) (pa_cons pe_int pa_nil)))))
  (pss_cons (ps_set (i := 4) sc__law_drawn_row.nd rfl (Or.inr rfl) (pe_op (r := rAddA) op_addA pe_int (pe_op (r := (rI (fun _ j => 0 < j) fun i j => .int (i % j))) op_mod (pe_ixK K (pv 3) pe_int (fun _ _ => rfl)) (pe_callB (r := (rLenA K)) call_lenA (by rfl) T.z_len boot_len' (pa_cons (pv 2) pa_nil)))))
  (pss_one (ps_ret (pe_lc (own := [("k", 5)]) (g := (L2.gName 5)) rfl sc__law_drawn_row.nd (pi_range1 rfl T.z_range (pa_cons (pe_op (r := (rI0 fun i j => .int (i - j))) op_sub (pe_callB (r := (rLenA K)) call_lenA (by rfl) T.z_len boot_len' (pa_cons (pv 2) pa_nil)) pe_int) pa_nil)) (blkOk_by (N := nm__law_drawn_row) (sc := (defScope s__law_drawn_row)) (by decide +kernel)) (fun _ _ _ _ _ => (pg_name (i := 5) sc__law_drawn_row.nd rfl (Or.inl rfl))) (fun _ _ _ _ _ => pts_nil) (fun _ _ _ _ _ => (pe_ixK K (pv 2) (pe_op (r := (rI (fun _ j => 0 < j) fun i j => .int (i % j))) op_mod (pe_op (r := rMulA) op_mulA (pe_ixK K (pv 3) (pv 5) (fun _ _ => rfl)) (pe_op (r := rAddA) op_addA (pv 5) pe_int)) (pv 4)) (fun _ _ => rfl)))))))),
    by exact (ss_seq (ss_set 3 (so_call (sa_cons (se_var 0) (sa_cons (se_var 1) (sa_cons se_int sa_nil)))))
  (ss_seq (ss_set 4 (so_op s_add (sb_of se_int) (sb_of (se_fz (so_op s_mod (sb_of (se_fz (so_op s_ix (sb_look 3) (sb_of se_int)))) (sb_of (se_fz (so_cb s_len (sab_cons (sb_look 2) sab_nil)))))))))
  (ss_ret (so_lc (sib_of (si_range1 (sb_of (se_fz (so_op s_sub (sb_of (se_fz (so_cb s_len (sab_cons (sb_look 2) sab_nil)))) (sb_of se_int)))))) (sg_name 5) (by decide) st_yes (se_fz (so_op s_ix (sb_look 2) (sb_of (se_fz (so_op s_mod (sb_of (se_fz (so_op s_mul (sb_of (se_fz (so_op s_ix (sb_look 3) (sb_look 5)))) (sb_of (se_fz (so_op s_add (sb_look 5) (sb_of se_int))))))) (sb_look 4))))))))))⟩
abbrev nm__law_power : List Str := ["base", "times", "found", "turn"]
theorem sc__law_power : FnScope nm__law_power ["base", "times"] (defScope s__law_power) := ⟨rfl, rfl, rfl, by decide +kernel, rfl, by decide +kernel, by decide +kernel⟩
theorem gd__law_power (T : Txt K mg) : Gd P w K mg base 1 "_law_power" ["base", "times"] m__law_power := by
  skip
  exact gd_mk T.d__law_power sc__law_power (fun _ _ _ _ _ _ _ us hl => match us, hl with | [_, _], _ => rfl) fun cdv A outer s H E hr => ⟨_, (pss_cons (ps_set (i := 2) sc__law_power.nd rfl (Or.inl rfl) pe_int)
  (pss_cons (ps_for (passes_of rfl) rfl (pi_range1 rfl T.z_range (pa_cons (pv 1) pa_nil)) (pg_name (i := 3) sc__law_power.nd rfl (Or.inl rfl)) (pss_one (ps_set (i := 2) sc__law_power.nd rfl (Or.inl rfl) (pe_op (r := rMulA) op_mulA (pv 2) (pv 0)))))
  (pss_one (ps_ret (pv 2))))),
    by exact (ss_seq (ss_set 2 (so_of se_int))
  (ss_seq (ss_for (si_range1 (sb_look 1)) (sg_name 3) (ss_set 2 (so_op s_mul (sb_look 2) (sb_look 0))))
  (ss_retV 2)))⟩
abbrev nm__law_number : List Str := ["places", "row", "number", "worth", "place", "other"]
theorem sc__law_number : FnScope nm__law_number ["places", "row"] (defScope s__law_number) := ⟨rfl, rfl, rfl, by decide +kernel, rfl, by decide +kernel, by decide +kernel⟩
theorem gd__law_number (T : Txt K mg) : Gd P w K mg base 2 "_law_number" ["places", "row"] m__law_number := by
  obtain ⟨⟨fd__law_power, _, G__law_power, b__law_power⟩, g__law_power, k__law_power⟩ := gd__law_power (P := P) (w := w) (base := base) T
  exact gd_mk T.d__law_number sc__law_number (fun _ _ _ _ _ _ _ us hl => match us, hl with | [_, _], _ => rfl) fun cdv A outer s H E hr => ⟨_, (pss_cons (ps_set (i := 2) sc__law_number.nd rfl (Or.inl rfl) pe_int)
  (pss_cons (ps_set (i := 3) sc__law_number.nd rfl (Or.inl rfl) (pe_callS G__law_power (hr.mono (by decide)) (by rfl) g__law_power k__law_power b__law_power (fun σ => passAt (takes_of rfl rfl rfl rfl) σ) (pa_cons (pe_callB (r := (rLenA K)) call_lenA (by rfl) T.z_len boot_len' (pa_cons (pv 0) pa_nil)) (pa_cons (pe_callB (r := (rLenA K)) call_lenA (by rfl) T.z_len boot_len' (pa_cons (pv 1) pa_nil)) pa_nil))))
  (pss_cons (ps_for (passes_of rfl) rfl (pi_listK K (pv 1)) (pg_name (i := 4) sc__law_number.nd rfl (Or.inr rfl)) (pss_cons (ps_set (i := 3) sc__law_number.nd rfl (Or.inl rfl) (pe_op (r := (rI CDivW fun i j => .int (i / j))) op_fdivW (pv 3) (pe_callB (r := (rLenA K)) call_lenA (by rfl) T.z_len boot_len' (pa_cons (pv 0) pa_nil))))
  (pss_one (ps_set (i := 2) sc__law_number.nd rfl (Or.inl rfl) (pe_op (r := rAddA) op_addA (pv 2) (pe_op (r := rMulA) op_mulA (pv 3) (pe_callB (r := (rLenA K)) call_lenA (by rfl) T.z_len boot_len' (pa_cons (pe_lc (own := [("other", 5)]) (g := (L2.gName 5)) rfl sc__law_number.nd (pi_listK K (pv 0)) (blkOk_by (N := nm__law_number) (sc := (defScope s__law_number)) (by decide +kernel)) (fun _ _ _ _ _ => (pg_name (i := 5) sc__law_number.nd rfl (Or.inl rfl))) (fun _ _ _ _ _ => (pts_one (pt_cmpR (r := (rLtA K)) (op_ltA hr.units) (pv 5) (pv 4) (nomark _)))) (fun _ _ _ _ _ => (pv 5))) pa_nil))))))))
  (pss_one (ps_ret (pv 2)))))),
    by exact (ss_seq (ss_set 2 (so_of se_int))
  (ss_seq (ss_set 3 (so_call (sa_cons (se_fz (so_cb s_len (sab_cons (sb_look 0) sab_nil))) (sa_cons (se_fz (so_cb s_len (sab_cons (sb_look 1) sab_nil))) sa_nil))))
  (ss_seq (ss_for (si_list (se_var 1)) (sg_name 4) (ss_seq (ss_set 3 (so_op s_div (sb_look 3) (sb_of (se_fz (so_cb s_len (sab_cons (sb_look 0) sab_nil))))))
  (ss_set 2 (so_op s_add (sb_look 2) (sb_of (se_fz (so_op s_mul (sb_look 3) (sb_of (se_fz (so_cb s_len (sab_cons (sb_of (se_fz (so_lc (sib_list (sb_look 0)) (sg_name 5) (by decide) (st_test (so_op s_lt (sb_look 5) (sb_look 4))) (se_var 5)))) sab_nil)))))))))))
  (ss_retV 2))))⟩
abbrev nm__law_row_at : List Str := ["places", "number", "row", "worth", "turn"]
theorem sc__law_row_at : FnScope nm__law_row_at ["places", "number"] (defScope s__law_row_at) := ⟨rfl, rfl, rfl, by decide +kernel, rfl, by decide +kernel, by decide +kernel⟩
theorem gd__law_row_at (T : Txt K mg) : Gd P w K mg base 2 "_law_row_at" ["places", "number"] m__law_row_at := by
  obtain ⟨⟨fd__law_power, _, G__law_power, b__law_power⟩, g__law_power, k__law_power⟩ := gd__law_power (P := P) (w := w) (base := base) T
  exact gd_mk T.d__law_row_at sc__law_row_at (fun _ _ _ _ _ _ _ us hl => match us, hl with | [_, _], _ => rfl) fun cdv A outer s H E hr => ⟨_, (pss_cons (ps_set (i := 2) sc__law_row_at.nd rfl (Or.inl rfl) (pe_lst pa_nil))
  (pss_cons (ps_set (i := 3) sc__law_row_at.nd rfl (Or.inl rfl) (pe_callS G__law_power (hr.mono (by decide)) (by rfl) g__law_power k__law_power b__law_power (fun σ => passAt (takes_of rfl rfl rfl rfl) σ) (pa_cons (pe_callB (r := (rLenA K)) call_lenA (by rfl) T.z_len boot_len' (pa_cons (pv 0) pa_nil)) (pa_cons (pe_op (r := (rI0 fun i j => .int (i - j))) op_sub (pe_callB (r := (rLenA K)) call_lenA (by rfl) T.z_len boot_len' (pa_cons (pv 0) pa_nil)) pe_int) pa_nil))))
  (pss_cons (ps_for (passes_of rfl) rfl (pi_range1 rfl T.z_range (pa_cons (pe_op (r := (rI0 fun i j => .int (i - j))) op_sub (pe_callB (r := (rLenA K)) call_lenA (by rfl) T.z_len boot_len' (pa_cons (pv 0) pa_nil)) pe_int) pa_nil)) (pg_name (i := 4) sc__law_row_at.nd rfl (Or.inl rfl)) (pss_cons (ps_set (i := 3) sc__law_row_at.nd rfl (Or.inl rfl) (pe_op (r := (rI CDivW fun i j => .int (i / j))) op_fdivW (pv 3) (pe_callB (r := (rLenA K)) call_lenA (by rfl) T.z_len boot_len' (pa_cons (pv 0) pa_nil))))
  (pss_one (ps_expr (pe_bmK K PySem.F.plainAttrs_list PySem.F.slot_list_append PySem.F.type_list_append mt_append (pv 2) (pa_cons (pe_ixK K (pv 0) (pe_op (r := (rI (fun _ j => 0 < j) fun i j => .int (i % j))) op_mod (pe_op (r := (rI CDivW fun i j => .int (i / j))) op_fdivW (pv 1) (pv 3)) (pe_callB (r := (rLenA K)) call_lenA (by rfl) T.z_len boot_len' (pa_cons (pv 0) pa_nil))) (fun _ _ => rfl)) pa_nil))))))
  (pss_one (ps_ret (pv 2)))))),
    by exact (ss_seq (ss_set 2 (so_lst sa_nil))
  (ss_seq (ss_set 3 (so_call (sa_cons (se_fz (so_cb s_len (sab_cons (sb_look 0) sab_nil))) (sa_cons (se_fz (so_op s_sub (sb_of (se_fz (so_cb s_len (sab_cons (sb_look 0) sab_nil)))) (sb_of se_int))) sa_nil))))
  (ss_seq (ss_for (si_range1 (sb_of (se_fz (so_op s_sub (sb_of (se_fz (so_cb s_len (sab_cons (sb_look 0) sab_nil)))) (sb_of se_int))))) (sg_name 4) (ss_seq (ss_set 3 (so_op s_div (sb_look 3) (sb_of (se_fz (so_cb s_len (sab_cons (sb_look 0) sab_nil))))))
  (ss_app 2 (se_fz (so_op s_ix (sb_look 0) (sb_of (se_fz (so_op s_mod (sb_of (se_fz (so_op s_div (sb_look 1) (sb_look 3)))) (sb_of (se_fz (so_cb s_len (sab_cons (sb_look 0) sab_nil))))))))))))
  (ss_retV 2))))⟩
abbrev nm__law_refused : List Str := ["which", "places", "row", "e"]
theorem sc__law_refused : FnScope nm__law_refused ["which", "places", "row"] (defScope s__law_refused) := ⟨rfl, rfl, rfl, by decide +kernel, rfl, by decide +kernel, by decide +kernel⟩
theorem gd__law_refused (T : Txt K mg) : Gd P w K mg base 8 "_law_refused" ["which", "places", "row"] m__law_refused := by
  obtain ⟨⟨fd_number_of, _, G_number_of, b_number_of⟩, g_number_of, k_number_of⟩ := gd_number_of (P := P) (w := w) (base := base) T
  obtain ⟨⟨fd_row_at, _, G_row_at, b_row_at⟩, g_row_at, k_row_at⟩ := gd_row_at (P := P) (w := w) (base := base) T
  exact gd_mk T.d__law_refused sc__law_refused (fun _ _ _ _ _ _ _ us hl => match us, hl with | [_, _, _], _ => rfl) fun cdv A outer s H E hr => ⟨_, (pss_cons (ps_try_as (i := 3) rfl rfl sc__law_refused.nd rfl rfl ⟨rfl, by decide, Or.inl T.g_ValleyError⟩ (takes_of rfl rfl rfl rfl) (fun W pn xe tk hp => (pss_one (ps_if (pt_cmpR (r := (rEqA K)) (op_eqA hr.units) (pv 0) pe_int (nomark _)) (pss_one (ps_expr (pe_callS G_number_of (hr.mono (by decide)) (by rfl) g_number_of k_number_of b_number_of (fun σ => passAt tk σ) (pa_cons (pv 1) (pa_cons (pv 2) pa_nil))))) (pss_one (ps_expr (pe_callS G_row_at (hr.mono (by decide)) (by rfl) g_row_at k_row_at b_row_at (fun σ => passAt tk σ) (pa_cons (pv 1) (pa_cons pe_int pa_nil)))))))) (fun a oe cls d pn hz hf => (pss_one (ps_ret (pe_and (pe_callB (r := rIsX K a cls d) (call_isX hz hf) (by rfl) T.z_isinstance boot_isinstance' (pa_cons (pv 3) (pa_cons (pe_glob (v := .ref (He.ga K "BadRow")) (by rfl) T.g_BadRow rfl) pa_nil))) (pe_one (pe_not (pe_callB (r := rIsX K a cls d) (call_isX hz hf) (by rfl) T.z_isinstance boot_isinstance' (pa_cons (pv 3) (pa_cons (pe_glob (v := .ref (He.ga K "BadTable")) (by rfl) T.g_BadTable rfl) pa_nil))))))))))
  (pss_one (ps_ret pe_bl))),
    by exact (ss_seq (ss_try (fun W => (ss_if (st_test (so_op s_eq (sb_look 0) (sb_of se_int))) (ss_drop (se_fz (so_call (sa_cons (se_var 1) (sa_cons (se_var 2) sa_nil))))) (ss_drop (se_fz (so_call (sa_cons (se_var 1) (sa_cons se_int sa_nil))))))) (by
  intro c x
  unfold h__law_refused_139
  by_cases h0 : c = Str.ofString "BadRow"
  · subst h0; rw [if_pos rfl]; cases x with
    | some _ => trivial
    | none => exact ⟨T.m_BadRow_ValleyError, fun a cls d => (ss_ret (so_of (se_and (se_fz (so_isX T.x_BadRow T.k_BadRow_BadRow)) (se_not (se_fz (so_isX T.x_BadRow T.k_BadRow_BadTable))))))⟩
  rw [if_neg h0]
  trivial))
  (ss_ret (so_of se_bl)))⟩
abbrev nm__law_row_holds : List Str := ["places", "row", "handed", "number", "told", "later"]
theorem sc__law_row_holds : FnScope nm__law_row_holds ["places", "row"] (defScope s__law_row_holds) := ⟨rfl, rfl, rfl, by decide +kernel, rfl, by decide +kernel, by decide +kernel⟩
theorem gd__law_row_holds (T : Txt K mg) : Gd P w K mg base 8 "_law_row_holds" ["places", "row"] m__law_row_holds := by
  obtain ⟨⟨fd_number_of, _, G_number_of, b_number_of⟩, g_number_of, k_number_of⟩ := gd_number_of (P := P) (w := w) (base := base) T
  obtain ⟨⟨fd__law_is_integer, _, G__law_is_integer, b__law_is_integer⟩, g__law_is_integer, k__law_is_integer⟩ := gd__law_is_integer (P := P) (w := w) (base := base) T
  obtain ⟨⟨fd__law_number, _, G__law_number, b__law_number⟩, g__law_number, k__law_number⟩ := gd__law_number (P := P) (w := w) (base := base) T
  obtain ⟨⟨fd_row_at, _, G_row_at, b_row_at⟩, g_row_at, k_row_at⟩ := gd_row_at (P := P) (w := w) (base := base) T
  obtain ⟨⟨fd_how_many, _, G_how_many, b_how_many⟩, g_how_many, k_how_many⟩ := gd_how_many (P := P) (w := w) (base := base) T
  obtain ⟨⟨fd__law_row_at, _, G__law_row_at, b__law_row_at⟩, g__law_row_at, k__law_row_at⟩ := gd__law_row_at (P := P) (w := w) (base := base) T
  exact gd_mk T.d__law_row_holds sc__law_row_holds (fun _ _ _ _ _ _ _ us hl => match us, hl with | [_, _], _ => rfl) fun cdv A outer s H E hr => ⟨_, (pss_cons (ps_set (i := 2) sc__law_row_holds.nd rfl (Or.inl rfl) (pe_lst (pa_cons (pe_callTy (r := fun xs H Q => ∃ p ys, xs = [.ref p] ∧ (SqL K H p ys ∨ SqT K H p ys) ∧ ∀ l, H l = none → Q (.ref l) (upd H l (.lst ys))) call_list_of (by rfl) T.z_list boot_list' (pa_cons (pv 0) pa_nil)) (pa_cons (pe_callTy (r := fun xs H Q => ∃ p ys, xs = [.ref p] ∧ (SqL K H p ys ∨ SqT K H p ys) ∧ ∀ l, H l = none → Q (.ref l) (upd H l (.lst ys))) call_list_of (by rfl) T.z_list boot_list' (pa_cons (pv 1) pa_nil)) pa_nil))))
  (pss_cons (ps_set (i := 3) sc__law_row_holds.nd rfl (Or.inl rfl) (pe_callS G_number_of (hr.mono (by decide)) (by rfl) g_number_of k_number_of b_number_of (fun σ => passAt (takes_of rfl rfl rfl rfl) σ) (pa_cons (pe_ixK K (pv 2) pe_int (fun _ _ => rfl)) (pa_cons (pe_ixK K (pv 2) pe_int (fun _ _ => rfl)) pa_nil))))
  (pss_cons (ps_if (PW.pt (pw_or (pt_cmpR (r := (rNeA K)) (op_neA hr.units) (pv 2) (pe_lst (pa_cons (pv 0) (pa_cons (pv 1) pa_nil))) (nomark _)) (pw_or (pt_not (pt_val (pe_callS G__law_is_integer (hr.mono (by decide)) (by rfl) g__law_is_integer k__law_is_integer b__law_is_integer (fun σ => passAt (takes_of rfl rfl rfl rfl) σ) (pa_cons (pv 3) pa_nil)))) (pw_or1 (pt_cmpR (r := (rNeA K)) (op_neA hr.units) (pv 3) (pe_callS G__law_number (hr.mono (by decide)) (by rfl) g__law_number k__law_number b__law_number (fun σ => passAt (takes_of rfl rfl rfl rfl) σ) (pa_cons (pv 0) (pa_cons (pv 1) pa_nil))) (nomark _)))))) (pss_one (ps_ret pe_bl)) pss_nil)
  (pss_cons (ps_set (i := 4) sc__law_row_holds.nd rfl (Or.inl rfl) (pe_callS G_row_at (hr.mono (by decide)) (by rfl) g_row_at k_row_at b_row_at (fun σ => passAt (takes_of rfl rfl rfl rfl) σ) (pa_cons (pe_ixK K (pv 2) pe_int (fun _ _ => rfl)) (pa_cons (pv 3) pa_nil))))
  (pss_cons (ps_if (PW.pt (pw_or (pt_not (pt_val (pe_callB (r := rIsi K) call_isi (by rfl) T.z_isinstance boot_isinstance' (pa_cons (pv 4) (pa_cons (pe_bltn (v := .ty "list") (by rfl) T.z_list boot_list' rfl) pa_nil))))) (pw_or (pt_cmpR (r := (rNeA K)) (op_neA hr.units) (pv 4) (pv 1) (nomark _)) (pw_or1 (pt_cmpR (r := (rNeA K)) (op_neA hr.units) (pe_ixK K (pv 2) pe_int (fun _ _ => rfl)) (pv 0) (nomark _)))))) (pss_one (ps_ret pe_bl)) pss_nil)
  (pss_cons (ps_expr (pe_bmK K PySem.F.plainAttrs_list PySem.F.slot_list_append PySem.F.type_list_append mt_append (pv 4) (pa_cons pe_str pa_nil)))
  (pss_cons (ps_set (i := 5) sc__law_row_holds.nd rfl (Or.inl rfl) (pe_callS G_row_at (hr.mono (by decide)) (by rfl) g_row_at k_row_at b_row_at (fun σ => passAt (takes_of rfl rfl rfl rfl) σ) (pa_cons (pe_ixK K (pv 2) pe_int (fun _ _ => rfl)) (pa_cons (pe_op (r := rAddA) op_addA (pv 3) pe_int) pa_nil))))
  (pss_cons (ps_if (pt_cmpR (r := (rEqA K)) (op_eqA hr.units) (pe_op (r := rAddA) op_addA (pv 3) pe_int) (pe_callS G_how_many (hr.mono (by decide)) (by rfl) g_how_many k_how_many b_how_many (fun σ => passAt (takes_of rfl rfl rfl rfl) σ) (pa_cons (pe_callB (r := (rLenA K)) call_lenA (by rfl) T.z_len boot_len' (pa_cons (pv 0) pa_nil)) pa_nil)) (nomark _)) (pss_one (ps_ret (pe_cmpR (r := rIsA) op_isA (pv 5) pe_non (nomark _)))) pss_nil)
  (pss_one (ps_ret (pe_and (pe_cmpR (r := (rGtA K)) (op_gtA hr.units) (pv 5) (pv 1) (nomark _)) (pe_and (pe_cmpR (r := (rEqA K)) (op_eqA hr.units) (pv 5) (pe_callS G__law_row_at (hr.mono (by decide)) (by rfl) g__law_row_at k__law_row_at b__law_row_at (fun σ => passAt (takes_of rfl rfl rfl rfl) σ) (pa_cons (pv 0) (pa_cons (pe_op (r := rAddA) op_addA (pv 3) pe_int) pa_nil))) (nomark _)) (pe_one (pe_cmpR (r := (rEqA K)) (op_eqA hr.units) (pe_callS G_number_of (hr.mono (by decide)) (by rfl) g_number_of k_number_of b_number_of (fun σ => passAt (takes_of rfl rfl rfl rfl) σ) (pa_cons (pv 0) (pa_cons (pv 5) pa_nil))) (pe_op (r := rAddA) op_addA (pv 3) pe_int) (nomark _))))))))))))))),
    by exact (ss_seq (ss_set 2 (so_lst (sa_cons (se_fz (so_cb s_list (sab_cons (sb_look 0) sab_nil))) (sa_cons (se_fz (so_cb s_list (sab_cons (sb_look 1) sab_nil))) sa_nil))))
  (ss_seq (ss_set 3 (so_call (sa_cons (se_fz (so_op s_ix (sb_look 2) (sb_of se_int))) (sa_cons (se_fz (so_op s_ix (sb_look 2) (sb_of se_int))) sa_nil))))
  (ss_seq (ss_fz 3 (ss_if (st_or (st_test (so_op s_ne (sb_look 2) (sb_of (se_fz (so_lst (sa_cons (se_var 0) (sa_cons (se_var 1) sa_nil))))))) (st_or (st_not (st_B (so_call (sa_cons (se_var 3) sa_nil)))) (st_test (so_op s_ne (sb_look 3) (sb_of (se_fz (so_call (sa_cons (se_var 0) (sa_cons (se_var 1) sa_nil))))))))) (ss_ret (so_of se_bl)) ss_next))
  (ss_seq (ss_fz 3 (ss_set 4 (so_call (sa_cons (se_fz (so_op s_ix (sb_look 2) (sb_of se_int))) (sa_cons (se_var 3) sa_nil)))))
  (ss_seq (ss_if (st_or (st_not (st_B (s_isi .list (sb_look 4)))) (st_or (st_test (so_op s_ne (sb_look 4) (sb_look 1))) (st_test (so_op s_ne (sb_of (se_fz (so_op s_ix (sb_look 2) (sb_of se_int)))) (sb_look 0))))) (ss_ret (so_of se_bl)) ss_next)
  (ss_seq (ss_app 4 se_str)
  (ss_seq (ss_set 5 (so_call (sa_cons (se_fz (so_op s_ix (sb_look 2) (sb_of se_int))) (sa_cons (se_fz (so_op s_add (sb_look 3) (sb_of se_int))) sa_nil))))
  (ss_seq (ss_if (st_test (so_op s_eq (sb_of (se_fz (so_op s_add (sb_look 3) (sb_of se_int)))) (sb_of (se_fz (so_call (sa_cons (se_fz (so_cb s_len (sab_cons (sb_look 0) sab_nil))) sa_nil)))))) (ss_ret (so_op s_is (sb_look 5) (sb_of se_non))) ss_next)
  (ss_fz 5 (ss_ret (so_of (se_and (se_fz (so_op s_gt (sb_look 5) (sb_look 1))) (se_and (se_fz (so_op s_eq (sb_look 5) (sb_of (se_fz (so_call (sa_cons (se_var 0) (sa_cons (se_fz (so_op s_add (sb_look 3) (sb_of se_int))) sa_nil))))))) (se_fz (so_op s_eq (sb_of (se_fz (so_call (sa_cons (se_var 0) (sa_cons (se_var 5) sa_nil))))) (sb_of (se_fz (so_op s_add (sb_look 3) (sb_of se_int)))))))))))))))))))⟩
abbrev nm_law : List Str := ["script", "places", "size", "whole", "turn", "numbers", "big", "number", "told", "row", "bad"]
theorem sc_law : FnScope nm_law ["script"] (defScope s_law) := ⟨rfl, rfl, rfl, by decide +kernel, rfl, by decide +kernel, by decide +kernel⟩
theorem gd_law (T : Txt K mg) : Gd P w K mg base 9 "law" ["script"] m_law := by
  obtain ⟨⟨fd__law_drawn_places, _, G__law_drawn_places, b__law_drawn_places⟩, g__law_drawn_places, k__law_drawn_places⟩ := gd__law_drawn_places (P := P) (w := w) (base := base) T
  obtain ⟨⟨fd_how_many, _, G_how_many, b_how_many⟩, g_how_many, k_how_many⟩ := gd_how_many (P := P) (w := w) (base := base) T
  obtain ⟨⟨fd__law_is_integer, _, G__law_is_integer, b__law_is_integer⟩, g__law_is_integer, k__law_is_integer⟩ := gd__law_is_integer (P := P) (w := w) (base := base) T
  obtain ⟨⟨fd__law_power, _, G__law_power, b__law_power⟩, g__law_power, k__law_power⟩ := gd__law_power (P := P) (w := w) (base := base) T
  obtain ⟨⟨fd__law_row_holds, _, G__law_row_holds, b__law_row_holds⟩, g__law_row_holds, k__law_row_holds⟩ := gd__law_row_holds (P := P) (w := w) (base := base) T
  obtain ⟨⟨fd__law_drawn_row, _, G__law_drawn_row, b__law_drawn_row⟩, g__law_drawn_row, k__law_drawn_row⟩ := gd__law_drawn_row (P := P) (w := w) (base := base) T
  obtain ⟨⟨fd__law_numbers, _, G__law_numbers, b__law_numbers⟩, g__law_numbers, k__law_numbers⟩ := gd__law_numbers (P := P) (w := w) (base := base) T
  obtain ⟨⟨fd_row_at, _, G_row_at, b_row_at⟩, g_row_at, k_row_at⟩ := gd_row_at (P := P) (w := w) (base := base) T
  obtain ⟨⟨fd__law_row_at, _, G__law_row_at, b__law_row_at⟩, g__law_row_at, k__law_row_at⟩ := gd__law_row_at (P := P) (w := w) (base := base) T
  obtain ⟨⟨fd_number_of, _, G_number_of, b_number_of⟩, g_number_of, k_number_of⟩ := gd_number_of (P := P) (w := w) (base := base) T
  obtain ⟨⟨fd__law_refused, _, G__law_refused, b__law_refused⟩, g__law_refused, k__law_refused⟩ := gd__law_refused (P := P) (w := w) (base := base) T
  exact gd_mk T.d_law sc_law (fun _ _ _ _ _ _ _ us hl => match us, hl with | [_], _ => rfl) fun cdv A outer s H E hr => ⟨_, (pss_cons (ps_set (i := 1) sc_law.nd rfl (Or.inl rfl) (pe_callS G__law_drawn_places (hr.mono (by decide)) (by rfl) g__law_drawn_places k__law_drawn_places b__law_drawn_places (fun σ => passAt (takes_of rfl rfl rfl rfl) σ) (pa_cons (pv 0) (pa_cons pe_int pa_nil))))
  (pss_cons (ps_set (i := 2) sc_law.nd rfl (Or.inl rfl) (pe_callB (r := (rLenA K)) call_lenA (by rfl) T.z_len boot_len' (pa_cons (pv 1) pa_nil)))
  (pss_cons (ps_set (i := 3) sc_law.nd rfl (Or.inl rfl) (pe_callS G_how_many (hr.mono (by decide)) (by rfl) g_how_many k_how_many b_how_many (fun σ => passAt (takes_of rfl rfl rfl rfl) σ) (pa_cons (pv 2) pa_nil)))
  (pss_cons (ps_if (PW.pt (pw_or (pt_not (pt_val (pe_callS G__law_is_integer (hr.mono (by decide)) (by rfl) g__law_is_integer k__law_is_integer b__law_is_integer (fun σ => passAt (takes_of rfl rfl rfl rfl) σ) (pa_cons (pv 3) pa_nil)))) (pw_or1 (pt_cmpR (r := (rNeA K)) (op_neA hr.units) (pv 3) (pe_callS G__law_power (hr.mono (by decide)) (by rfl) g__law_power k__law_power b__law_power (fun σ => passAt (takes_of rfl rfl rfl rfl) σ) (pa_cons (pv 2) (pa_cons (pe_op (r := (rI0 fun i j => .int (i - j))) op_sub (pv 2) pe_int) pa_nil))) (nomark _))))) (pss_one (ps_ret pe_bl)) pss_nil)
  (pss_cons (ps_for (passes_of rfl) rfl (pi_range1 rfl T.z_range (pa_cons pe_int pa_nil)) (pg_name (i := 4) sc_law.nd rfl (Or.inl rfl)) (pss_one (ps_if (pt_not (pt_val (pe_callS G__law_row_holds (hr.mono (by decide)) (by rfl) g__law_row_holds k__law_row_holds b__law_row_holds (fun σ => passAt (takes_of rfl rfl rfl rfl) σ) (pa_cons (pv 1) (pa_cons (pe_callS G__law_drawn_row (hr.mono (by decide)) (by rfl) g__law_drawn_row k__law_drawn_row b__law_drawn_row (fun σ => passAt (takes_of rfl rfl rfl rfl) σ) (pa_cons (pv 0) (pa_cons (pe_op (r := rAddA) op_addA pe_int (pv 4)) (pa_cons (pv 1) pa_nil)))) pa_nil))))) (pss_one (ps_ret pe_bl)) pss_nil)))
  (pss_cons (ps_if (PW.pt (pw_or (pt_not (pt_val (pe_callS G__law_row_holds (hr.mono (by decide)) (by rfl) g__law_row_holds k__law_row_holds b__law_row_holds (fun σ => passAt (takes_of rfl rfl rfl rfl) σ) (pa_cons (pv 1) (pa_cons (pe_op (r := rMulA) op_mulA (pe_lst (pa_cons (pe_ixK K (pv 1) (pe_un un_neg pe_int) (fun _ _ => rfl)) pa_nil)) (pe_op (r := (rI0 fun i j => .int (i - j))) op_sub (pv 2) pe_int)) pa_nil))))) (pw_or1 (pt_not (pt_val (pe_callS G__law_row_holds (hr.mono (by decide)) (by rfl) g__law_row_holds k__law_row_holds b__law_row_holds (fun σ => passAt (takes_of rfl rfl rfl rfl) σ) (pa_cons (pv 1) (pa_cons (pe_op (r := rMulA) op_mulA (pe_lst (pa_cons (pe_ixK K (pv 1) pe_int (fun _ _ => rfl)) pa_nil)) (pe_op (r := (rI0 fun i j => .int (i - j))) op_sub (pv 2) pe_int)) pa_nil)))))))) (pss_one (ps_ret pe_bl)) pss_nil)
  (pss_cons (ps_set (i := 5) sc_law.nd rfl (Or.inl rfl) (pe_callS G__law_numbers (hr.mono (by decide)) (by rfl) g__law_numbers k__law_numbers b__law_numbers (fun σ => passAt (takes_of rfl rfl rfl rfl) σ) (pa_cons (pv 0) (pa_cons pe_int (pa_cons pe_int pa_nil)))))
  (pss_cons (ps_set (i := 6) sc_law.nd rfl (Or.inl rfl) pe_int)
  (pss_cons (ps_for (passes_of rfl) rfl (pi_listK K (pe_sliceK K (pv 5) po_none (po_some pe_int))) (pg_name (i := 7) sc_law.nd rfl (Or.inl rfl)) (pss_one (ps_set (i := 6) sc_law.nd rfl (Or.inl rfl) (pe_op (r := rAddA) op_addA (pe_op (r := rMulA) op_mulA (pv 6) pe_int) (pv 7)))))
  (pss_cons (ps_for (passes_of rfl) rfl (pi_listK K (pe_lst (pa_cons pe_int (pa_cons (pe_op (r := (rI0 fun i j => .int (i - j))) op_sub (pv 3) pe_int) (pa_cons (pe_op (r := (rI (fun _ j => 0 < j) fun i j => .int (i % j))) op_mod (pv 6) (pv 3)) (pa_cons (pe_op (r := (rI (fun _ j => 0 < j) fun i j => .int (i % j))) op_mod (pe_ixK K (pv 5) pe_int (fun _ _ => rfl)) (pv 3)) (pa_cons (pv 3) (pa_cons (pe_op (r := rAddA) op_addA (pv 3) (pe_ixK K (pv 5) pe_int (fun _ _ => rfl))) (pa_cons (pe_op (r := rMulA) op_mulA (pv 3) pe_int) (pa_cons (pe_un un_neg pe_int) (pa_cons (pe_un un_neg (pv 3)) (pa_cons (pe_op (r := (rI0 fun i j => .int (i - j))) op_sub (pe_op (r := (rI0 fun i j => .int (i - j))) op_sub pe_int (pe_ixK K (pv 5) pe_int (fun _ _ => rfl))) pe_int) pa_nil)))))))))))) (pg_name (i := 7) sc_law.nd rfl (Or.inl rfl)) (pss_cons (ps_set (i := 8) sc_law.nd rfl (Or.inl rfl) (pe_callS G_row_at (hr.mono (by decide)) (by rfl) g_row_at k_row_at b_row_at (fun σ => passAt (takes_of rfl rfl rfl rfl) σ) (pa_cons (pe_callTy (r := fun xs H Q => ∃ p ys, xs = [.ref p] ∧ (SqL K H p ys ∨ SqT K H p ys) ∧ ∀ l, H l = none → Q (.ref l) (upd H l (.lst ys))) call_list_of (by rfl) T.z_list boot_list' (pa_cons (pv 1) pa_nil)) (pa_cons (pv 7) pa_nil))))
  (pss_one (ps_if (pt_chain (r := (rLeA K)) (r' := (rLtA K)) (op_leA hr.units) (op_ltA hr.units) pe_int (pv 7) (pv 3)) (pss_one (ps_if (PW.pt (pw_or (pt_not (pt_val (pe_callB (r := rIsi K) call_isi (by rfl) T.z_isinstance boot_isinstance' (pa_cons (pv 8) (pa_cons (pe_bltn (v := .ty "list") (by rfl) T.z_list boot_list' rfl) pa_nil))))) (pw_or (pt_cmpR (r := (rNeA K)) (op_neA hr.units) (pv 8) (pe_callS G__law_row_at (hr.mono (by decide)) (by rfl) g__law_row_at k__law_row_at b__law_row_at (fun σ => passAt (takes_of rfl rfl rfl rfl) σ) (pa_cons (pv 1) (pa_cons (pv 7) pa_nil))) (nomark _)) (pw_or1 (pt_cmpR (r := (rNeA K)) (op_neA hr.units) (pe_callS G_number_of (hr.mono (by decide)) (by rfl) g_number_of k_number_of b_number_of (fun σ => passAt (takes_of rfl rfl rfl rfl) σ) (pa_cons (pv 1) (pa_cons (pv 8) pa_nil))) (pv 7) (nomark _)))))) (pss_one (ps_ret pe_bl)) pss_nil)) (pss_one (ps_if (pt_cmpR (r := rIsNotA) op_isNotA (pv 8) pe_non (nomark _)) (pss_one (ps_ret pe_bl)) pss_nil))))))
  (pss_cons (ps_set (i := 9) sc_law.nd rfl (Or.inl rfl) (pe_op (r := rMulA) op_mulA (pe_lst (pa_cons (pe_ixK K (pv 1) pe_int (fun _ _ => rfl)) pa_nil)) (pe_op (r := (rI0 fun i j => .int (i - j))) op_sub (pv 2) pe_int)))
  (pss_cons (ps_for (passes_of rfl) rfl (pi_listK K (pe_lst (pa_cons (pe_revLK K (pv 1)) (pa_cons (pe_sliceK K (pv 1) po_none (po_some pe_int)) (pa_cons (pe_lst pa_nil) (pa_cons pe_non (pa_cons (pe_op (r := rAddA) op_addA (pv 1) (pe_sliceK K (pv 1) (po_some (pe_un un_neg pe_int)) po_none)) (pa_cons (pe_op (r := rAddA) op_addA (pe_lst (pa_cons pe_str pa_nil)) (pv 1)) (pa_cons (pe_callTy (r := fun xs H Q => ∃ p ys, xs = [.ref p] ∧ ((SqL K H p ys ∧ ∀ l, H l = none → Q (.ref l) (upd H l (.tup ys))) ∨ (SqT K H p ys ∧ Q (.ref p) H))) call_tuple_of (by rfl) T.z_tuple boot_tuple' (pa_cons (pv 1) pa_nil)) pa_nil))))))))) (pg_name (i := 10) sc_law.nd rfl (Or.inl rfl)) (pss_one (ps_if (PW.pt (pw_or (pt_not (pt_val (pe_callS G__law_refused (hr.mono (by decide)) (by rfl) g__law_refused k__law_refused b__law_refused (fun σ => passAt (takes_of rfl rfl rfl rfl) σ) (pa_cons pe_int (pa_cons (pv 10) (pa_cons (pv 9) pa_nil)))))) (pw_or1 (pt_not (pt_val (pe_callS G__law_refused (hr.mono (by decide)) (by rfl) g__law_refused k__law_refused b__law_refused (fun σ => passAt (takes_of rfl rfl rfl rfl) σ) (pa_cons pe_int (pa_cons (pv 10) (pa_cons (pv 9) pa_nil))))))))) (pss_one (ps_ret pe_bl)) pss_nil)))
  (pss_cons (ps_for (passes_of rfl) rfl (pi_listK K (pe_lst (pa_cons (pe_op (r := rAddA) op_addA (pv 9) (pe_sliceK K (pv 1) po_none (po_some pe_int))) (pa_cons (pe_callTy (r := fun xs H Q => ∃ p ys, xs = [.ref p] ∧ ((SqL K H p ys ∧ ∀ l, H l = none → Q (.ref l) (upd H l (.tup ys))) ∨ (SqT K H p ys ∧ Q (.ref p) H))) call_tuple_of (by rfl) T.z_tuple boot_tuple' (pa_cons (pv 9) pa_nil)) (pa_cons pe_non (pa_cons (pe_op (r := rAddA) op_addA (pv 9) (pe_lst (pa_cons pe_non pa_nil))) (pa_cons (pe_sliceK K (pe_op (r := rAddA) op_addA (pv 9) (pe_lst (pa_cons pe_str pa_nil))) (po_some pe_int) po_none) (pa_cons pe_str pa_nil)))))))) (pg_name (i := 10) sc_law.nd rfl (Or.inl rfl)) (pss_one (ps_if (PW.pt (pw_and (PW.pt (pw_or (pt_cmpR (r := (rNeA K)) (op_neA hr.units) (pv 10) (pv 9) (nomark _)) (pw_or1 (pt_not (pt_val (pe_callB (r := rIsi K) call_isi (by rfl) T.z_isinstance boot_isinstance' (pa_cons (pv 10) (pa_cons (pe_bltn (v := .ty "list") (by rfl) T.z_list boot_list' rfl) pa_nil)))))))) (pw_and1 (pt_not (pt_val (pe_callS G__law_refused (hr.mono (by decide)) (by rfl) g__law_refused k__law_refused b__law_refused (fun σ => passAt (takes_of rfl rfl rfl rfl) σ) (pa_cons pe_int (pa_cons (pv 1) (pa_cons (pv 10) pa_nil))))))))) (pss_one (ps_ret pe_bl)) pss_nil)))
  (pss_one (ps_ret (pe_and (pe_cmpR (r := (rEqA K)) (op_eqA hr.units) (pe_callS G_how_many (hr.mono (by decide)) (by rfl) g_how_many k_how_many b_how_many (fun σ => passAt (takes_of rfl rfl rfl rfl) σ) (pa_cons pe_int pa_nil)) pe_int (nomark _)) (pe_and (pe_cmpR (r := (rEqA K)) (op_eqA hr.units) (pe_callS G_how_many (hr.mono (by decide)) (by rfl) g_how_many k_how_many b_how_many (fun σ => passAt (takes_of rfl rfl rfl rfl) σ) (pa_cons pe_int pa_nil)) pe_int (nomark _)) (pe_one (pe_cmpR (r := (rEqA K)) (op_eqA hr.units) (pe_callS G_how_many (hr.mono (by decide)) (by rfl) g_how_many k_how_many b_how_many (fun σ => passAt (takes_of rfl rfl rfl rfl) σ) (pa_cons pe_int pa_nil)) pe_int (nomark _)))))))))))))))))))),
    by exact (ss_seq (ss_set 1 (so_call (sa_cons (se_var 0) (sa_cons se_int sa_nil))))
  (ss_seq (ss_set 2 (so_cb s_len (sab_cons (sb_look 1) sab_nil)))
  (ss_seq (ss_fz 2 (ss_set 3 (so_call (sa_cons (se_var 2) sa_nil))))
  (ss_seq (ss_fz 3 (ss_fz 2 (ss_if (st_or (st_not (st_B (so_call (sa_cons (se_var 3) sa_nil)))) (st_test (so_op s_ne (sb_look 3) (sb_of (se_fz (so_call (sa_cons (se_var 2) (sa_cons (se_fz (so_op s_sub (sb_look 2) (sb_of se_int))) sa_nil)))))))) (ss_ret (so_of se_bl)) ss_next)))
  (ss_seq (ss_for (si_range1 (sb_of se_int)) (sg_name 4) (ss_fz 1 (ss_if (st_not (st_B (so_call (sa_cons (se_var 1) (sa_cons (se_fz (so_call (sa_cons (se_var 0) (sa_cons (se_fz (so_op s_add (sb_of se_int) (sb_look 4))) (sa_cons (se_var 1) sa_nil))))) sa_nil))))) (ss_ret (so_of se_bl)) ss_next)))
  (ss_seq (ss_fz 1 (ss_if (st_or (st_not (st_B (so_call (sa_cons (se_var 1) (sa_cons (se_fz (so_op s_mul (sb_of (se_fz (so_lst (sa_cons (se_fz (so_op s_ix (sb_look 1) (sb_of (se_fz (so_un s_neg (sb_of se_int)))))) sa_nil)))) (sb_of (se_fz (so_op s_sub (sb_look 2) (sb_of se_int)))))) sa_nil))))) (st_not (st_B (so_call (sa_cons (se_var 1) (sa_cons (se_fz (so_op s_mul (sb_of (se_fz (so_lst (sa_cons (se_fz (so_op s_ix (sb_look 1) (sb_of se_int))) sa_nil)))) (sb_of (se_fz (so_op s_sub (sb_look 2) (sb_of se_int)))))) sa_nil)))))) (ss_ret (so_of se_bl)) ss_next))
  (ss_seq (ss_set 5 (so_call (sa_cons (se_var 0) (sa_cons se_int (sa_cons se_int sa_nil)))))
  (ss_seq (ss_set 6 (so_of se_int))
  (ss_seq (ss_for (si_list (se_fz (so_sl (sb_look 5) sp_none (sp_some (sb_of se_int))))) (sg_name 7) (ss_set 6 (so_op s_add (sb_of (se_fz (so_op s_mul (sb_look 6) (sb_of se_int)))) (sb_look 7))))
  (ss_seq (ss_fz 3 (ss_for (si_list (se_fz (so_lst (sa_cons se_int (sa_cons (se_fz (so_op s_sub (sb_look 3) (sb_of se_int))) (sa_cons (se_fz (so_op s_mod (sb_look 6) (sb_look 3))) (sa_cons (se_fz (so_op s_mod (sb_of (se_fz (so_op s_ix (sb_look 5) (sb_of se_int)))) (sb_look 3))) (sa_cons (se_var 3) (sa_cons (se_fz (so_op s_add (sb_look 3) (sb_of (se_fz (so_op s_ix (sb_look 5) (sb_of se_int)))))) (sa_cons (se_fz (so_op s_mul (sb_look 3) (sb_of se_int))) (sa_cons (se_fz (so_un s_neg (sb_of se_int))) (sa_cons (se_fz (so_un s_neg (sb_look 3))) (sa_cons (se_fz (so_op s_sub (sb_of (se_fz (so_op s_sub (sb_of se_int) (sb_of (se_fz (so_op s_ix (sb_look 5) (sb_of se_int))))))) (sb_of se_int))) sa_nil))))))))))))) (sg_name 7) (ss_seq (ss_set 8 (so_call (sa_cons (se_fz (so_cb s_list (sab_cons (sb_look 1) sab_nil))) (sa_cons (se_var 7) sa_nil))))
  (ss_if (st_test (so_chain s_le s_lt (sb_of se_int) (sb_look 7) (sb_look 3))) (ss_fz 8 (ss_fz 1 (ss_if (st_or (st_not (st_B (s_isi .list (sb_look 8)))) (st_or (st_test (so_op s_ne (sb_look 8) (sb_of (se_fz (so_call (sa_cons (se_var 1) (sa_cons (se_var 7) sa_nil))))))) (st_test (so_op s_ne (sb_of (se_fz (so_call (sa_cons (se_var 1) (sa_cons (se_var 8) sa_nil))))) (sb_look 7))))) (ss_ret (so_of se_bl)) ss_next))) (ss_if (st_test (so_op s_isNot (sb_look 8) (sb_of se_non))) (ss_ret (so_of se_bl)) ss_next)))))
  (ss_seq (ss_set 9 (so_op s_mul (sb_of (se_fz (so_lst (sa_cons (se_fz (so_op s_ix (sb_look 1) (sb_of se_int))) sa_nil)))) (sb_of (se_fz (so_op s_sub (sb_look 2) (sb_of se_int))))))
  (ss_seq (ss_for (si_list (se_fz (so_lst (sa_cons (se_fz (so_rev (sb_look 1))) (sa_cons (se_fz (so_sl (sb_look 1) sp_none (sp_some (sb_of se_int)))) (sa_cons (se_fz (so_lst sa_nil)) (sa_cons se_non (sa_cons (se_fz (so_op s_add (sb_look 1) (sb_of (se_fz (so_sl (sb_look 1) (sp_some (sb_of (se_fz (so_un s_neg (sb_of se_int))))) sp_none))))) (sa_cons (se_fz (so_op s_add (sb_of (se_fz (so_lst (sa_cons se_str sa_nil)))) (sb_look 1))) (sa_cons (se_fz (so_cb s_tuple (sab_cons (sb_look 1) sab_nil))) sa_nil)))))))))) (sg_name 10) (ss_fz 9 (ss_if (st_or (st_not (st_B (so_call (sa_cons se_int (sa_cons (se_var 10) (sa_cons (se_var 9) sa_nil)))))) (st_not (st_B (so_call (sa_cons se_int (sa_cons (se_var 10) (sa_cons (se_var 9) sa_nil))))))) (ss_ret (so_of se_bl)) ss_next)))
  (ss_seq (ss_for (si_list (se_fz (so_lst (sa_cons (se_fz (so_op s_add (sb_look 9) (sb_of (se_fz (so_sl (sb_look 1) sp_none (sp_some (sb_of se_int))))))) (sa_cons (se_fz (so_cb s_tuple (sab_cons (sb_look 9) sab_nil))) (sa_cons se_non (sa_cons (se_fz (so_op s_add (sb_look 9) (sb_of (se_fz (so_lst (sa_cons se_non sa_nil)))))) (sa_cons (se_fz (so_sl (sb_of (se_fz (so_op s_add (sb_look 9) (sb_of (se_fz (so_lst (sa_cons se_str sa_nil))))))) (sp_some (sb_of se_int)) sp_none)) (sa_cons se_str sa_nil))))))))) (sg_name 10) (ss_fz 1 (ss_if (st_and (st_or (st_test (so_op s_ne (sb_look 10) (sb_look 9))) (st_not (st_B (s_isi .list (sb_look 10))))) (st_not (st_B (so_call (sa_cons se_int (sa_cons (se_var 1) (sa_cons (se_var 10) sa_nil))))))) (ss_ret (so_of se_bl)) ss_next)))
  (ss_ret (so_of (se_and (se_fz (so_op s_eq (sb_of (se_fz (so_call (sa_cons se_int sa_nil)))) (sb_of se_int))) (se_and (se_fz (so_op s_eq (sb_of (se_fz (so_call (sa_cons se_int sa_nil)))) (sb_of se_int))) (se_fz (so_op s_eq (sb_of (se_fz (so_call (sa_cons se_int sa_nil)))) (sb_of se_int))))))))))))))))))))⟩
end
end G

set_option Elab.async false
set_option linter.all false
set_option maxRecDepth 100000
set_option maxHeartbeats 0
namespace G
open PySem PySem.Spec L2 VD VS
abbrev RR : PySem.W.OpenRow := PySem.W.OpenLaw.row PySem.Challenge.rw_valleywatch_k87_numbers_of_rows
abbrev hk : PySem.W.Hook := hookE 5 fn exs
def ob (s : PySem.W.SharedT) : AlE := obsE 5 fn exs (HandSHeadRun.getT s)
theorem ob_eq (s : PySem.W.SharedT) : ob s = hk.obs s.abs := obsE_eq (HandSHeadRun.getT_eq s)
def loose : List Str := ["ValleyError", "BadTable", "BadRow", "LETTERS", "FIGURES", "LONGEST_NAME", "MOST_PLACES", "has_name_signs", "is_name", "is_ascending", "are_names", "are_places", "LEAST_PLACES", "check_places", "is_row", "check_row", "power", "how_many", "row_at", "number_of", "_law_numbers", "_law_is_integer", "_law_name", "_law_names", "_law_drawn_places", "_law_drawn_row", "_law_power", "_law_number", "_law_row_at", "_law_refused", "_law_row_holds"]
theorem hrun (w : World) : HandSHeadRun.RunEq RR (PySem.W.view RR.prog [37]) hk ob 4000 loose w := by
  intro os
  kernel_rfl
end G
open PySem PySem.W PySem.Calls PyProof.Rows
theorem G.fin (Z : ∀ ns : List Int, ns.length ≤ 63 → G.m_law [.scr ns] = .ok (.d (.bl true))) : PySem.Challenge.rw_valleywatch_k87_numbers_of_rows.Holds := by
  w_on; o_law
  refine HandSHeadRun.head_any (r := OpenLaw.row PySem.Challenge.rw_valleywatch_k87_numbers_of_rows) (q := view (OpenLaw.row PySem.Challenge.rw_valleywatch_k87_numbers_of_rows).prog [37]) (H := G.hk) (ob := G.ob) (M := 4000) (loose := G.loose) (d := HandSHeadRun.topDef (OpenLaw.row PySem.Challenge.rw_valleywatch_k87_numbers_of_rows).prog 37) (kwd := []) G.ob_eq
    (by kernel_rfl) (fun s => by kernel_rfl) G.hrun (by kernel_rfl) (by kernel_rfl) (by kernel_rfl) (by rfl) (by first | assumption | decide +kernel) (by decide +kernel) ⟨rfl, rfl, rfl, rfl, rfl, by decide +kernel⟩ ?hw ?hc
  case hw => w_witness2
  case hc =>
    refine L2.walk_ofE (l := PySem.Challenge.rw_valleywatch_k87_numbers_of_rows) (n := 63) (k := 9) (x := "script") (CX := L2.CX0) rfl (by decide) (by kernel_rfl) ⟨rfl, by decide, by decide⟩ ?F (fun _ _ _ _ z => z)
    case F =>
      intro w mg fa h Y Gn hmg0
      obtain ⟨K, KX, c, e⟩ := Y
      have hmg : mg ("law" : PySem.Str) = some (.ref fa) := by
        have e : (HandSHeadRun.topDef (OpenLaw.row PySem.Challenge.rw_valleywatch_k87_numbers_of_rows).prog 37).name = ("law" : PySem.Str) := by kernel_rfl
        rw [← e]
        exact hmg0
      have T := G.txt_of KX Gn c e
      have efa : fa = He.ga K "law" := by
        have z := hmg.symm.trans T.d_law.gm
        cases z; rfl
      subst efa
      obtain ⟨fd, F⟩ := T.d_law.ex
      have b := L2.FunD.bindsA (ps := ["script"]) F fun _ _ _ _ _ _ us hl => match us, hl with | [_], _ => rfl
      refine ⟨K, fd, fun vs H Q _ => VS.spF K 1 G.m_law vs H Q fun _ _ _ => False, KX, fun s v => b s [v] rfl, fun H a ns hl _ hS => ?_, fun base _ _ => ?_⟩
      · refine ⟨H, [.scr ns], L2.Same.refl _, .cons (.scr hS) .nil, rfl, ?_⟩
        rw [Z ns hl]
        exact fun F' v H' _ r => by cases r; rfl
      · obtain ⟨⟨fd2, l2, F2, _⟩, _, _⟩ := G.gd_law (P := (PySem.Challenge.rw_valleywatch_k87_numbers_of_rows).prog) (w := w) (base := base) T
        cases VS.fd_same (VS.fd_at F) l2
        exact VS.fn_shut F2

theorem PySem.Challenge.cw_valleywatch_k87_numbers_of_rows_holds : PySem.Challenge.rw_valleywatch_k87_numbers_of_rows.Holds := by
  exact G.fin G.law_true
