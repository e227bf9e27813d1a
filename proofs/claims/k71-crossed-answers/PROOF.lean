import PyProof.Rows.All
import Wide.All
import OpenK.AllK
import Wide.FinOn
import HandS.ForMost
import HandS.ForExc
import HandS.HeadHook1
import HandS.CallSlots
import HandS.TupAny
import HandS.NoneIn
import HandS.Zip
import HandS.Walk
import HandS.Deep
import HandS.Rev
import HandS.SortInts
import HandS.TupMul
import HandS.IsInst
import KE.GoesEnum
import KE.GoesNew
import KE.GoesRev
import HandS.Comp
import HandS.WordsExc
import HandS.Call
import HandS.Defaults
import HandS.ExcOwn
import HandS.Exc
import HandS.ExcInit
import HandS.ExcIs
import HandS.ExcField
import HandS.Head0
import HandS.Head1
import HandS.Head2
import HandS.HeadEnd
import HandS.HeadHook2
import HandS.Words
import PySem.Challenge.RW_hiredhands_k71_crossed_answers
import KE.KStateDown
import HandS.Ends
import HandS.More
set_option Elab.async false
set_option linter.all false
set_option maxRecDepth 100000
set_option maxHeartbeats 4000000
/-! Pu, part A: plain data and the denotations of Python expressions and statements. No heap here. -/
namespace Pu
open PySem

/-- plain data: what a Python value is worth. ext: a list that is only read (the script) -/
inductive D where
  | non | bl (b : Bool) | int (i : Int) | str (x : Str)
  | tup (ds : List D) | lst (ds : List D) | ext (ds : List D)
  | obj (C : Str) (fs : List (Str × D))

/-- the end of an expression: a value, an error of a class of the program with its fields, or nothing is said -/
inductive Res (α : Type) where
  | ok (a : α) | exc (C : Str) (fs : List (Str × D)) | bad
namespace Res
@[simp] def bind {α β : Type} : Res α → (α → Res β) → Res β
  | .ok a, f => f a
  | .exc C fs, _ => .exc C fs
  | .bad, _ => .bad
end Res

/-- a slot: data that nobody changes; a list, an instance, a set that this frame alone changes; a caught error -/
inductive Cell where
  | val (d : D) | own (ds : List D) | oobj (C : Str) (fs : List (Str × D)) | oset (xs : List Int) | exn (C : Str) (fs : List (Str × D))
abbrev Env := List (Option Cell)

/-! ### values -/
mutual
/-- == of plain data -/
def D.eqv : D → D → Bool
  | .non, .non => true
  | .bl a, .bl b => a == b
  | .bl a, .int j => (if a then 1 else 0) == j
  | .int i, .bl b => i == (if b then 1 else 0)
  | .int i, .int j => i == j
  | .str x, .str y => x == y
  | .lst xs, .lst ys => D.eqvAll xs ys
  | .tup xs, .tup ys => D.eqvAll xs ys
  | _, _ => false
def D.eqvAll : List D → List D → Bool
  | [], [] => true
  | x :: xs, y :: ys => D.eqv x y && D.eqvAll xs ys
  | _, _ => false
end
/-- no instance within, at most so deep -/
def D.dep : Nat → D → Bool
  | _, .non => true
  | _, .bl _ => true
  | _, .int _ => true
  | _, .str x => PyData.canLay0 (.str x)
  | n + 1, .tup ds => ds.all (D.dep n)
  | n + 1, .lst ds => ds.all (D.dep n)
  | _, _ => false
def D.flat : D → Bool
  | .non => true
  | .bl _ => true
  | .int _ => true
  | .str _ => true
  | _ => false
/-- nothing that could lead to a list -/
def D.atom : D → Bool := D.flat

abbrev line : Nat := 16777216

def oAdd : D → D → Res D
  | .int i, .int j => .ok (.int (i + j))
  | .lst a, .lst b => if a.length + b.length ≤ line then .ok (.lst (a ++ b)) else .bad
  | .tup a, .tup b => if a.length + b.length ≤ line then .ok (.tup (a ++ b)) else .bad
  | _, _ => .bad
/-- += of ints -/
def oAddI : D → D → Res D
  | .int i, .int j => .ok (.int (i + j))
  | _, _ => .bad
def oSub : D → D → Res D
  | .int i, .int j => .ok (.int (i - j))
  | _, _ => .bad
def mulOk (i j : Int) : Bool := (decide (-18446744073709551616 < i) && decide (i < 18446744073709551616)) || (decide (-18446744073709551616 < j) && decide (j < 18446744073709551616))
def oMul : D → D → Res D
  | .int i, .int j => if mulOk i j = true then .ok (.int (i * j)) else .bad
  | .lst a, .int k => if k < 4611686018427387904 ∧ -4611686018427387904 < k ∧ a.length * k.toNat ≤ line then .ok (.lst (List.replicate k.toNat a).flatten) else .bad
  | .tup a, .int k => if a.isEmpty = false ∧ 2 ≤ k ∧ k ≤ 1000 ∧ a.length ≤ 1000 then .ok (.tup (List.replicate k.toNat a).flatten) else .bad
  | _, _ => .bad
def oMod : D → D → Res D
  | .int i, .int j => if 0 < j then .ok (.int (i % j)) else .bad
  | _, _ => .bad
def oDiv : D → D → Res D
  | .int i, .int j => if 0 < j ∧ j < 1073741824 then .ok (.int (i / j)) else .bad
  | _, _ => .bad
def oPow : D → D → Res D
  | .int i, .int j => if 0 ≤ j ∧ j ≤ 1000000 ∧ i.natAbs < 18446744073709551616 then .ok (.int (i ^ j.toNat)) else .bad
  | _, _ => .bad
def oNeg : D → Res D
  | .int i => .ok (.int (-i))
  | _ => .bad
def oLt : D → D → Res D
  | .int i, .int j => .ok (.bl (decide (i < j)))
  | _, _ => .bad
def oLe : D → D → Res D
  | .int i, .int j => .ok (.bl (decide (i ≤ j)))
  | _, _ => .bad
def oGt : D → D → Res D
  | .int i, .int j => .ok (.bl (decide (j < i)))
  | _, _ => .bad
def oGe : D → D → Res D
  | .int i, .int j => .ok (.bl (decide (j ≤ i)))
  | _, _ => .bad
def oEq (d e : D) : Res D := if D.dep 8 d = true ∧ D.dep 8 e = true then .ok (.bl (D.eqv d e)) else .bad
def oNe (d e : D) : Res D := if D.dep 8 d = true ∧ D.dep 8 e = true then .ok (.bl (!D.eqv d e)) else .bad
def D.isN : D → Bool
  | .non => true
  | _ => false
/-- is None, is not None -/
def oIs (x : D) : D → Res D
  | .non => .ok (.bl x.isN)
  | _ => .bad
def oIsNot (x : D) : D → Res D
  | .non => .ok (.bl (!x.isN))
  | _ => .bad
/-- x in ys: a list of any data, a tuple of flat ones -/
def oIn (x : D) : D → Res D
  | .lst ys => if D.dep 8 x = true ∧ ys.all (D.dep 7) = true then .ok (.bl (ys.any fun y => D.eqv y x)) else .bad
  | .tup ys => if D.flat x = true ∧ ys.all D.flat = true then .ok (.bl (ys.any fun y => D.eqv y x)) else .bad
  | _ => .bad
def oNotIn (x : D) : D → Res D
  | .lst ys => if D.dep 8 x = true ∧ ys.all (D.dep 7) = true then .ok (.bl (!ys.any fun y => D.eqv y x)) else .bad
  | .tup ys => if D.flat x = true ∧ ys.all D.flat = true then .ok (.bl (!ys.any fun y => D.eqv y x)) else .bad
  | _ => .bad
/-- the place that an index of any sign means -/
def ixN (n : Nat) (i : Int) : Option Nat := if 0 ≤ i then (if i < n then some i.toNat else none) else if -(n : Int) ≤ i then some (i + n).toNat else none
def atI {α : Type} (xs : List α) (i : Int) : Option α := (ixN xs.length i).bind fun j => xs[j]?
def optR {α : Type} : Option α → Res α
  | some a => .ok a
  | none => .bad
def oIx : D → D → Res D
  | .lst xs, .int i => optR (atI xs i)
  | .tup xs, .int i => optR (atI xs i)
  | .ext xs, .int i => optR (atI xs i)
  | _, _ => .bad
/-- where a slice's end lies -/
def sIx (n d : Nat) : Option Int → Nat
  | none => d
  | some v => if v < 0 then (v + n).toNat else min v.toNat n
def cut {α : Type} (xs : List α) (lo hi : Option Int) : List α := (xs.drop (sIx xs.length 0 lo)).take (sIx xs.length xs.length hi - sIx xs.length 0 lo)
def oSl : D → Option Int → Option Int → Res D
  | .lst xs, lo, hi => .ok (.lst (cut xs lo hi))
  | .tup xs, lo, hi => .ok (.tup (cut xs lo hi))
  | _, _, _ => .bad
def oTruth : D → Res Bool
  | .non => .ok false
  | .bl b => .ok b
  | .int i => .ok (i != 0)
  | .lst xs => .ok (!xs.isEmpty)
  | .tup xs => .ok (!xs.isEmpty)
  | _ => .bad
def oBool : D → Res Bool
  | .bl b => .ok b
  | _ => .bad

/-! ### built-ins on values -/
def ints? : List D → Option (List Int)
  | [] => some []
  | .int i :: r => (ints? r).map (i :: ·)
  | _ :: _ => none
def bools? : List D → Option (List Bool)
  | [] => some []
  | .bl i :: r => (bools? r).map (i :: ·)
  | _ :: _ => none
def bLen : D → Res D
  | .lst xs => .ok (.int xs.length)
  | .tup xs => .ok (.int xs.length)
  | .ext xs => .ok (.int xs.length)
  | _ => .bad
def bList : D → Res D
  | .lst xs => .ok (.lst xs)
  | .tup xs => .ok (.lst xs)
  | _ => .bad
def bTuple : D → Res D
  | .lst xs => .ok (.tup xs)
  | .tup xs => .ok (.tup xs)
  | _ => .bad
def bSum : D → Res D
  | .lst xs => match ints? xs with
    | some ns => .ok (.int ns.sum)
    | none => .bad
  | _ => .bad
def bAll : D → Res D
  | .lst xs => match bools? xs with
    | some bs => .ok (.bl (bs.all id))
    | none => .bad
  | _ => .bad
def bInt : D → Res D
  | .int i => .ok (.int i)
  | .bl b => .ok (.int (if b then 1 else 0))
  | _ => .bad
def bMax2 : D → D → Res D
  | .int i, .int j => .ok (.int (if j > i then j else i))
  | _, _ => .bad
def bMin2 : D → D → Res D
  | .int i, .int j => .ok (.int (if j < i then j else i))
  | _, _ => .bad
/-- a stable insertion by ≤ -/
def insI (x : Int) : List Int → List Int
  | [] => [x]
  | y :: ys => if x ≤ y then x :: y :: ys else y :: insI x ys
def sortI : List Int → List Int
  | [] => []
  | x :: xs => insI x (sortI xs)
def bSortedI : D → Res D
  | .lst xs => match ints? xs with
    | some ns => .ok (.lst ((sortI ns).map .int))
    | none => .bad
  | _ => .bad
def bIsInt : D → Res D
  | .int _ => .ok (.bl true)
  | .bl _ => .ok (.bl true)
  | .non => .ok (.bl false)
  | .str _ => .ok (.bl false)
  | .tup _ => .ok (.bl false)
  | .lst _ => .ok (.bl false)
  | _ => .bad
def bIsBool : D → Res D
  | .bl _ => .ok (.bl true)
  | .int _ => .ok (.bl false)
  | .non => .ok (.bl false)
  | .str _ => .ok (.bl false)
  | .tup _ => .ok (.bl false)
  | .lst _ => .ok (.bl false)
  | _ => .bad
def bIsTuple : D → Res D
  | .tup _ => .ok (.bl true)
  | .int _ => .ok (.bl false)
  | .bl _ => .ok (.bl false)
  | .non => .ok (.bl false)
  | .str _ => .ok (.bl false)
  | .lst _ => .ok (.bl false)
  | _ => .bad
def rng (lo hi : Int) : List D := (List.range (hi - lo).toNat).map fun (i : Nat) => .int (lo + i)

/-! ### expressions -/
abbrev EV := Env → Res D
def eVar (i : Nat) : EV := fun ρ => match ρ[i]? with
  | some (some (.val d)) => .ok d
  | _ => .bad
/-- a name that is only looked at -/
def ePeek (i : Nat) : EV := fun ρ => match ρ[i]? with
  | some (some (.val d)) => .ok d
  | some (some (.own ds)) => .ok (.lst ds)
  | _ => .bad
def eC (d : D) : EV := fun _ => .ok d
def e1 (g : D → Res D) (a : EV) : EV := fun ρ => (a ρ).bind g
def e2 (g : D → D → Res D) (a b : EV) : EV := fun ρ => (a ρ).bind fun x => (b ρ).bind fun y => g x y
/-- a op b op' c -/
def eChain (g g' : D → D → Res D) (a b c : EV) : EV := fun ρ => (a ρ).bind fun x => (b ρ).bind fun y => (g x y).bind fun z => (oBool z).bind fun k => match k with
  | true => (c ρ).bind fun w => g' y w
  | false => .ok (.bl false)
def eAnd (a b : EV) : EV := fun ρ => (a ρ).bind fun x => (oBool x).bind fun k => match k with
  | true => b ρ
  | false => .ok (.bl false)
def eOr (a b : EV) : EV := fun ρ => (a ρ).bind fun x => (oBool x).bind fun k => match k with
  | true => .ok (.bl true)
  | false => b ρ
def eNot (a : EV) : EV := fun ρ => (a ρ).bind fun x => (oBool x).bind fun k => .ok (.bl (!k))
def eSlice (a : EV) (lo hi : Env → Res (Option Int)) : EV := fun ρ => (a ρ).bind fun x => (lo ρ).bind fun l => (hi ρ).bind fun h => oSl x l h
def pNone : Env → Res (Option Int) := fun _ => .ok none
def pSome (a : EV) : Env → Res (Option Int) := fun ρ => (a ρ).bind fun x => match x with
  | .int i => .ok (some i)
  | _ => .bad
/-- arguments, items -/
abbrev AV := Env → Res (List D)
def aNil : AV := fun _ => .ok []
def aCons (a : EV) (r : AV) : AV := fun ρ => (a ρ).bind fun x => (r ρ).bind fun xs => .ok (x :: xs)
def eTup (a : AV) : EV := fun ρ => (a ρ).bind fun xs => .ok (.tup xs)
def eLst (a : AV) : EV := fun ρ => (a ρ).bind fun xs => .ok (.lst xs)
def eL (a : AV) : EV := fun ρ => (a ρ).bind fun xs => .ok (.lst xs)
/-- a def of the program -/
def eCall (f : List D → Res D) (a : AV) : EV := fun ρ => (a ρ).bind f
/-- .. whose arguments may be lists that this frame goes on to change: the answer leads to none of them -/
def eCallB (f : List D → Res D) (a : AV) : EV := fun ρ => (a ρ).bind fun xs => match f xs with
  | .ok d => if d.atom = true then .ok d else .bad
  | .exc C fs => if fs.all (fun p => p.2.atom) = true then .exc C fs else .bad
  | .bad => .bad
/-- a method, by the object's class: the object first -/
def eMeth (m : Str) (f : Str → Option (List D → Res D)) (o : EV) (a : AV) : EV := fun ρ => (o ρ).bind fun x => match x with
  | .obj C fs => (match f C with
    | some g => if fs.lookup m = none then (a ρ).bind fun xs => g (.obj C fs :: xs) else .bad
    | none => .bad)
  | _ => .bad
/-- a field of an object of one of these classes -/
def eFld (Cs : List Str) (f : Str) (o : EV) : EV := fun ρ => (o ρ).bind fun x => match x with
  | .obj C fs => if C ∈ Cs then optR (fs.lookup f) else .bad
  | _ => .bad
/-- a field of an own instance that is being made -/
def eFldO (Cs : List Str) (i : Nat) (f : Str) : EV := fun ρ => match ρ[i]? with
  | some (some (.oobj C fs)) => if C ∈ Cs then optR (fs.lookup f) else .bad
  | _ => .bad
/-- an instance of C -/
def objOf (C : Str) (r : Res D) : Res D := match r with
  | .ok (.obj C' fs) => if C' = C then .ok (.obj C' fs) else .bad
  | .exc C' fs => .exc C' fs
  | _ => .bad
def eMake (C : Str) (f : List D → Res D) (a : AV) : EV := fun ρ => (a ρ).bind fun xs => objOf C (f xs)
def eIf (t : Env → Res Bool) (a b : EV) : EV := fun ρ => (t ρ).bind fun k => match k with
  | true => a ρ
  | false => b ρ
def eExnIs (i : Nat) (sub : Str → Option Bool) : EV := fun ρ => match ρ[i]? with
  | some (some (.exn C _)) => (match sub C with
    | some b => .ok (.bl b)
    | none => .bad)
  | _ => .bad
def eExnFld (Cs : List Str) (i : Nat) (f : Str) : EV := fun ρ => match ρ[i]? with
  | some (some (.exn C fs)) => if C ∈ Cs then optR (fs.lookup f) else .bad
  | _ => .bad
/-- an int in a set of ints of this frame's own -/
def eInSet (i : Nat) (a : EV) : EV := fun ρ => match ρ[i]? with
  | some (some (.oset xs)) => (a ρ).bind fun x => match x with
    | .int n => .ok (.bl (xs.contains n))
    | _ => .bad
  | _ => .bad

/-! ### tests -/
abbrev TV := Env → Res Bool
def tVal (a : EV) : TV := fun ρ => (a ρ).bind oBool
def tTruth (a : EV) : TV := fun ρ => (a ρ).bind oTruth
def tNot (a : TV) : TV := fun ρ => (a ρ).bind fun k => .ok (!k)
def tAnd (a b : TV) : TV := fun ρ => (a ρ).bind fun k => match k with
  | true => b ρ
  | false => .ok false
def tOr (a b : TV) : TV := fun ρ => (a ρ).bind fun k => match k with
  | true => .ok true
  | false => b ρ

/-! ### what is walked -/
def iSeq (a : EV) : AV := fun ρ => (a ρ).bind fun x => match x with
  | .lst xs => .ok xs
  | .tup xs => .ok xs
  | .ext xs => .ok xs
  | _ => .bad
def iRng1 (a : EV) : AV := fun ρ => (a ρ).bind fun x => match x with
  | .int n => if -4611686018427387904 ≤ n ∧ n ≤ line then .ok (rng 0 n) else .bad
  | _ => .bad
def iRng2 (a b : EV) : AV := fun ρ => (a ρ).bind fun x => (b ρ).bind fun y => match x, y with
  | .int m, .int n => if -1073741824 ≤ m ∧ m ≤ 1073741824 ∧ -1073741824 ≤ n ∧ n ≤ 1073741824 ∧ (n - m).toNat ≤ line then .ok (rng m n) else .bad
  | _, _ => .bad
/-- range(a, b, -1) -/
def rngD (hi lo : Int) : List D := (List.range (hi - lo).toNat).map fun (i : Nat) => .int (hi - i)
def iRngD (a b : EV) : AV := fun ρ => (a ρ).bind fun x => (b ρ).bind fun y => match x, y with
  | .int m, .int n => if -1073741824 ≤ m ∧ m ≤ 1073741824 ∧ -1073741824 ≤ n ∧ n ≤ 1073741824 ∧ (m - n).toNat ≤ line then .ok (rngD m n) else .bad
  | _, _ => .bad
def seqD : D → Res (List D)
  | .lst xs => .ok xs
  | .tup xs => .ok xs
  | _ => .bad
def enumD (n : Nat) : List D → List D
  | [] => []
  | x :: xs => .tup [.int n, x] :: enumD (n + 1) xs
def zipD : List D → List D → List D
  | x :: xs, y :: ys => .tup [x, y] :: zipD xs ys
  | _, _ => []
def zip3D : List D → List D → List D → List D
  | x :: xs, y :: ys, z :: zs => .tup [x, y, z] :: zip3D xs ys zs
  | _, _, _ => []
def iEnum (a : EV) : AV := fun ρ => (a ρ).bind fun x => (seqD x).bind fun xs => .ok (enumD 0 xs)
def iZip (a b : EV) : AV := fun ρ => (a ρ).bind fun x => (b ρ).bind fun y => (seqD x).bind fun xs => (seqD y).bind fun ys => .ok (zipD xs ys)
def iRev (a : EV) : AV := fun ρ => (a ρ).bind fun x => (seqD x).bind fun xs => .ok xs.reverse

/-! ### targets -/
abbrev GV := D → Env → Res Env
def gNm (i : Nat) : GV := fun d ρ => .ok (ρ.set i (some (.val d)))
abbrev GVs := List D → Env → Res Env
def gNl : GVs := fun ds ρ => match ds with
  | [] => .ok ρ
  | _ => .bad
def gCn (g : GV) (r : GVs) : GVs := fun ds ρ => match ds with
  | d :: t => (g d ρ).bind fun ρ' => r t ρ'
  | _ => .bad
def gTu (g : GVs) : GV := fun d ρ => match d with
  | .tup ds => g ds ρ
  | .lst ds => g ds ρ
  | _ => .bad
/-! ### comprehensions -/
def wipeE (ρ : Env) : List Nat → Env
  | [] => ρ
  | v :: vs => (wipeE ρ vs).set v none
/-- an error within a comprehension: nothing is said -/
def quiet {α : Type} : Res α → Res α
  | .ok a => .ok a
  | _ => .bad
def compL (g : GV) (t : TV) (e : EV) (ρ : Env) : List D → Res (List D)
  | [] => .ok []
  | d :: ds => (quiet (g d ρ)).bind fun ρ1 => (quiet (t ρ1)).bind fun k => match k with
    | true => (quiet (e ρ1)).bind fun y => (compL g t e ρ ds).bind fun ys => .ok (y :: ys)
    | false => compL g t e ρ ds
def tYes : TV := fun _ => .ok true
/-- [e for g in src if t]; vs: the block's own slots -/
def lComp (src : AV) (g : GV) (t : TV) (e : EV) (vs : List Nat) : AV := fun ρ => (src ρ).bind fun ds => compL g t e (wipeE ρ vs) ds
def compL2 (g : GV) (t : TV) (src1 : AV) (g1 : GV) (t1 : TV) (e : EV) (vs1 : List Nat) (ρ : Env) : List D → Res (List D)
  | [] => .ok []
  | d :: ds => (quiet (g d ρ)).bind fun ρ1 => (quiet (t ρ1)).bind fun k => match k with
    | true => (quiet (src1 ρ1)).bind fun es => (compL g1 t1 e (wipeE ρ1 vs1) es).bind fun ys => (compL2 g t src1 g1 t1 e vs1 ρ ds).bind fun zs => .ok (ys ++ zs)
    | false => compL2 g t src1 g1 t1 e vs1 ρ ds
def lComp2 (src : AV) (g : GV) (t : TV) (src1 : AV) (g1 : GV) (t1 : TV) (e : EV) (vs vs1 : List Nat) : AV := fun ρ => (src ρ).bind fun ds => (compL2 g t src1 g1 t1 e vs1 (wipeE ρ vs) ds).bind fun ys => if ys.length ≤ line then .ok ys else .bad

/-! ### statements -/
inductive SR where
  | nx (ρ : Env) | rt (d : D) | bk (ρ : Env) | ct (ρ : Env) | ex (ρ : Env) (C : Str) (fs : List (Str × D)) | bad
abbrev SV := Env → SR
/-- an expression ahead of what goes on -/
def Res.sr {α : Type} (ρ : Env) : Res α → (α → SR) → SR
  | .ok a, k => k a
  | .exc C fs, _ => .ex ρ C fs
  | .bad, _ => .bad
def sNil : SV := fun ρ => .nx ρ
def sSeq (g h : SV) : SV := fun ρ => match g ρ with
  | .nx ρ' => h ρ'
  | r => r
def sRet (a : EV) : SV := fun ρ => (a ρ).sr ρ .rt
def sRetN : SV := fun _ => .rt .non
def sBrk : SV := fun ρ => .bk ρ
def sCont : SV := fun ρ => .ct ρ
def sIf (t : TV) (g h : SV) : SV := fun ρ => (t ρ).sr ρ fun k => match k with
  | true => g ρ
  | false => h ρ
def sSet (i : Nat) (a : EV) : SV := fun ρ => (a ρ).sr ρ fun d => .nx (ρ.set i (some (.val d)))
/-- a new list that this frame will change -/
def sOwn (i : Nat) (a : AV) : SV := fun ρ => (a ρ).sr ρ fun ds => .nx (ρ.set i (some (.own ds)))
/-- from here on nobody changes what stands in slot i -/
def frzE (i : Nat) (ρ : Env) : Env := match ρ[i]? with
  | some (some (.own ds)) => ρ.set i (some (.val (.lst ds)))
  | some (some (.oobj C fs)) => ρ.set i (some (.val (.obj C fs)))
  | _ => ρ
def sFrz (i : Nat) (g : SV) : SV := fun ρ => g (frzE i ρ)
def sAsg (a : EV) (g : GV) : SV := fun ρ => (a ρ).sr ρ fun d => match g d ρ with
  | .ok ρ' => .nx ρ'
  | _ => .bad
/-- a, b = x, y -/
def sPar (i j : Nat) (a b : EV) : SV := fun ρ => (a ρ).sr ρ fun x => (b ρ).sr ρ fun y => .nx ((ρ.set i (some (.val x))).set j (some (.val y)))
def sAug (i : Nat) (g : D → D → Res D) (a : EV) : SV := fun ρ => (eVar i ρ).sr ρ fun x => (a ρ).sr ρ fun y => (g x y).sr ρ fun z => .nx (ρ.set i (some (.val z)))
def sExpr (a : EV) : SV := fun ρ => (a ρ).sr ρ fun _ => .nx ρ
def sRaise (C : Str) (ns : List Str) (a : AV) : SV := fun ρ => (a ρ).sr ρ fun ds => if ds.length = ns.length then .ex ρ C (ns.zip ds).reverse else .bad
def sApp (i : Nat) (a : EV) : SV := fun ρ => match ρ[i]? with
  | some (some (.own ds)) => (a ρ).sr ρ fun d => if ds.length < line then .nx (ρ.set i (some (.own (ds ++ [d])))) else .bad
  | _ => .bad
def sExt (i : Nat) (a : EV) : SV := fun ρ => match ρ[i]? with
  | some (some (.own ds)) => (a ρ).sr ρ fun d => match d with
    | .lst es => if ds.length + es.length ≤ line then .nx (ρ.set i (some (.own (ds ++ es)))) else .bad
    | _ => .bad
  | _ => .bad
def sPop (i : Nat) : SV := fun ρ => match ρ[i]? with
  | some (some (.own (d :: ds))) => .nx (ρ.set i (some (.own (d :: ds).dropLast)))
  | _ => .bad
/-- xs[j] = e -/
def sSto (i : Nat) (j a : EV) : SV := fun ρ => match ρ[i]? with
  | some (some (.own ds)) => (a ρ).sr ρ fun d => (j ρ).sr ρ fun k => match k with
    | .int z => (match ixN ds.length z with
      | some n => .nx (ρ.set i (some (.own (ds.set n d))))
      | none => .bad)
    | _ => .bad
  | _ => .bad
def putF (f : Str) (d : D) : List (Str × D) → List (Str × D)
  | [] => [(f, d)]
  | (g, v) :: r => if g = f then (g, d) :: r else (g, v) :: putF f d r
/-- self.f = e -/
def sFld (Cs : List Str) (i : Nat) (f : Str) (a : EV) : SV := fun ρ => match ρ[i]? with
  | some (some (.oobj C fs)) => if C ∈ Cs then (a ρ).sr ρ fun d => if fs.length < 900 then .nx (ρ.set i (some (.oobj C (putF f d fs)))) else .bad else .bad
  | _ => .bad
def sNewSet (i : Nat) : SV := fun ρ => .nx (ρ.set i (some (.oset [])))
def sAddSet (i : Nat) (a : EV) : SV := fun ρ => match ρ[i]? with
  | some (some (.oset xs)) => (a ρ).sr ρ fun d => match d with
    | .int n => if xs.length < 4000 then .nx (ρ.set i (some (.oset (if xs.contains n then xs else xs ++ [n])))) else .bad
    | _ => .bad
  | _ => .bad
def forL (g : GV) (b : SV) : List D → SV
  | [], ρ => .nx ρ
  | d :: ds, ρ => match g d ρ with
    | .ok ρ1 => (match b ρ1 with
      | .nx ρ2 => forL g b ds ρ2
      | .ct ρ2 => forL g b ds ρ2
      | .bk ρ2 => .nx ρ2
      | r => r)
    | _ => .bad
def sFor (src : AV) (g : GV) (b : SV) : SV := fun ρ => (src ρ).sr ρ fun ds => forL g b ds ρ
def whileL (t : TV) (b : SV) : Nat → SV
  | 0, _ => .bad
  | n + 1, ρ => (t ρ).sr ρ fun k => match k with
    | true => (match b ρ with
      | .nx ρ2 => whileL t b n ρ2
      | .ct ρ2 => whileL t b n ρ2
      | .bk ρ2 => .nx ρ2
      | r => r)
    | false => .nx ρ
def sWhile (n : Nat) (t : TV) (b : SV) : SV := whileL t b n
def noExn : Env → Bool
  | [] => true
  | some (.exn _ _) :: _ => false
  | _ :: r => noExn r
/-- try: body / except base as name in slot i: h; sub: which classes the clause takes -/
def sTry (i : Nat) (sub : Str → Option Bool) (b h : SV) : SV := fun ρ => match b ρ with
  | .ex ρ1 C fs => (match sub C with
    | some true => (match h (ρ1.set i (some (.exn C fs))) with
      | .nx ρ2 => if noExn (ρ2.set i none) = true then .nx (ρ2.set i none) else .bad
      | .rt d => .rt d
      | _ => .bad)
    | some false => .ex ρ1 C fs
    | none => .bad)
  | r => r

/-! ### defs -/
def startE (N : Nat) (ds : List D) : Env := ds.map (fun d => some (.val d)) ++ List.replicate (N - ds.length) none
/-- a def of n parameters and N slots with the body g -/
def defD (n N : Nat) (g : SV) (ds : List D) : Res D := if ds.length = n then (match g (startE N ds) with
  | .nx _ => .ok .non
  | .rt d => .ok d
  | .ex _ C fs => .exc C fs
  | _ => .bad) else .bad
def doneE (C : Str) (ρ : Env) : Res D := match ρ[(0 : Nat)]? with
  | some (some (.oobj C' fs)) => if C' = C then .ok (.obj C' fs) else .bad
  | _ => .bad
/-- an __init__ of n parameters besides self: what stands in self at its end -/
def initD (C : Str) (n N : Nat) (g : SV) (ds : List D) : Res D := if ds.length = n then (match g (some (.oobj C []) :: startE (N - 1) ds) with
  | .nx ρ => doneE C ρ
  | .ex _ E fs => .exc E fs
  | _ => .bad) else .bad
/-! ### further ones -/
def lSl (a : EV) (lo hi : Env → Res (Option Int)) : AV := fun ρ => (a ρ).bind fun x => (lo ρ).bind fun l => (hi ρ).bind fun h => match x with
  | .lst ds => .ok (cut ds l h)
  | _ => .bad
/-- a new list of atoms -/
def eN (l : AV) : EV := fun ρ => (l ρ).bind fun ds => if ds.all D.atom = true then .ok (.lst ds) else .bad
mutual
def D.noLst : D → Bool
  | .non => true
  | .bl _ => true
  | .int _ => true
  | .str _ => true
  | .tup ds => D.noLsts ds
  | .lst _ => false
  | .ext _ => false
  | .obj _ fs => D.noLstF fs
def D.noLsts : List D → Bool
  | [] => true
  | d :: ds => D.noLst d && D.noLsts ds
def D.noLstF : List (Str × D) → Bool
  | [] => true
  | p :: fs => D.noLstP p && D.noLstF fs
def D.noLstP : Str × D → Bool
  | (_, d) => D.noLst d
end
/-- rows of rows whose first row begins with a number -/
def scratchOk : List D → Bool
  | [] => true
  | .lst (.lst (.int _ :: _) :: _) :: r => scratchOk r
  | _ => false
def sScratch (i j p : Nat) (l1 : AV) (e2 : EV) (rest : SV) : SV := fun ρ => (l1 ρ).sr ρ fun ds => (e2 (ρ.set i (some (.val (.lst ds))))).sr (ρ.set i (some (.val (.lst ds)))) fun d =>
  if (d.noLst = true ∧ scratchOk ds = true ∧ ds.length < line) ∧ i < ρ.length ∧ p < ρ.length then rest (((ρ.set j (some (.val d))).set i none).set p none) else .bad
/-- list(e) as a list of one's own -/
def lSeq (a : EV) : AV := fun ρ => (a ρ).bind seqD
/-- [..] + [..] as a list of one's own -/
def lCat (a b : EV) : AV := fun ρ => (a ρ).bind fun x => (b ρ).bind fun y => match x, y with
  | .lst xs, .lst ys => if xs.length + ys.length ≤ line then .ok (xs ++ ys) else .bad
  | _, _ => .bad
/-- [..] * n as a list of one's own -/
def lRep (a b : EV) : AV := fun ρ => (a ρ).bind fun x => (b ρ).bind fun y => match x, y with
  | .lst xs, .int k => if k < 4611686018427387904 ∧ -4611686018427387904 < k ∧ xs.length * k.toNat ≤ line then .ok (List.replicate k.toNat xs).flatten else .bad
  | _, _ => .bad
end Pu

/-! Pu, part B: how plain data lies in the abstract heap; states; the canonical readings. -/
namespace Pu
open PySem PySem.Spec PyProof.Rows L2

/-! ### data in a heap -/
mutual
def Rep (K : PySem.W.Frag) (H : Hp) : D → V → Prop
  | .non, v => v = .non
  | .bl b, v => v = .bl b
  | .int i, v => v = .int i
  | .str x, v => v = .str x
  | .tup ds, v => ∃ a xs, v = .ref a ∧ SqT K H a xs ∧ Reps K H ds xs
  | .lst ds, v => ∃ a xs, v = .ref a ∧ H a = some (.lst xs) ∧ Reps K H ds xs
  | .ext ds, v => ∃ a xs, v = .ref a ∧ SqL K H a xs ∧ Reps K H ds xs
  | .obj C fs, v => ∃ a dx xs, v = .ref a ∧ H a = some (.ins (He.ga K C) dx xs) ∧ RepF K H fs xs
def Reps (K : PySem.W.Frag) (H : Hp) : List D → List V → Prop
  | [], xs => xs = []
  | d :: ds, xs => ∃ y ys, xs = y :: ys ∧ Rep K H d y ∧ Reps K H ds ys
def RepF (K : PySem.W.Frag) (H : Hp) : List (Str × D) → List (Str × V) → Prop
  | [], xs => xs = []
  | p :: ds, xs => ∃ y ys, xs = y :: ys ∧ RepP K H p y ∧ RepF K H ds ys
def RepP (K : PySem.W.Frag) (H : Hp) : Str × D → Str × V → Prop
  | (n, d), y => y.1 = n ∧ Rep K H d y.2
end
theorem sqT_mono {K : PySem.W.Frag} {H H' : Hp} {a : Addr} {xs : List V} (e : Same H H') (h : SqT K H a xs) : SqT K H' a xs := by
  rcases h with (h | ⟨o, h⟩) | h
  · exact .inl (.inl (e _ _ h))
  · exact .inl (.inr ⟨o, e _ _ h⟩)
  · exact .inr h
mutual
theorem Rep.mono {K : PySem.W.Frag} {H H' : Hp} (s : Same H H') : ∀ (d : D) (v : V), Rep K H d v → Rep K H' d v
  | .non, _, h => h
  | .bl _, _, h => h
  | .int _, _, h => h
  | .str _, _, h => h
  | .tup ds, _, h => by
    obtain ⟨a, xs, e, q, r⟩ := h
    exact ⟨a, xs, e, sqT_mono s q, Reps.mono s ds xs r⟩
  | .lst ds, _, h => by
    obtain ⟨a, xs, e, q, r⟩ := h
    exact ⟨a, xs, e, s _ _ q, Reps.mono s ds xs r⟩
  | .ext ds, _, h => by
    obtain ⟨a, xs, e, q, r⟩ := h
    exact ⟨a, xs, e, s.seq q, Reps.mono s ds xs r⟩
  | .obj C fs, _, h => by
    obtain ⟨a, dx, xs, e, q, r⟩ := h
    exact ⟨a, dx, xs, e, s _ _ q, RepF.mono s fs xs r⟩
theorem Reps.mono {K : PySem.W.Frag} {H H' : Hp} (s : Same H H') : ∀ (ds : List D) (xs : List V), Reps K H ds xs → Reps K H' ds xs
  | [], _, h => h
  | d :: ds, _, h => by
    obtain ⟨y, ys, e, q, r⟩ := h
    exact ⟨y, ys, e, Rep.mono s d y q, Reps.mono s ds ys r⟩
theorem RepF.mono {K : PySem.W.Frag} {H H' : Hp} (s : Same H H') : ∀ (fs : List (Str × D)) (xs : List (Str × V)), RepF K H fs xs → RepF K H' fs xs
  | [], _, h => h
  | p :: ds, _, h => by
    obtain ⟨y, ys, e, q, r⟩ := h
    exact ⟨y, ys, e, RepP.mono s p y q, RepF.mono s ds ys r⟩
theorem RepP.mono {K : PySem.W.Frag} {H H' : Hp} (s : Same H H') : ∀ (p : Str × D) (x : Str × V), RepP K H p x → RepP K H' p x
  | (n, d), y, h => ⟨h.1, Rep.mono s d y.2 h.2⟩
end
section
variable {K : PySem.W.Frag} {H : Hp}
theorem Reps.nil : Reps K H [] [] := rfl
theorem Reps.cons {d : D} {ds : List D} {v : V} {vs : List V} (h : Rep K H d v) (t : Reps K H ds vs) : Reps K H (d :: ds) (v :: vs) := ⟨v, vs, rfl, h, t⟩
theorem Reps.length : ∀ {ds : List D} {vs : List V}, Reps K H ds vs → vs.length = ds.length
  | [], _, h => by
    have e : _ = [] := h
    rw [e]
    rfl
  | d :: ds, _, h => by
    obtain ⟨y, ys, e, _, r⟩ := h
    rw [e, List.length_cons, List.length_cons, Reps.length r]
theorem Reps.append : ∀ {ds es : List D} {vs us : List V}, Reps K H ds vs → Reps K H es us → Reps K H (ds ++ es) (vs ++ us)
  | [], _, _, _, h, q => by
    have e : _ = [] := h
    rw [e]
    exact q
  | d :: ds, _, _, _, h, q => by
    obtain ⟨y, ys, e, r, t⟩ := h
    rw [e]
    exact ⟨y, _, rfl, r, Reps.append t q⟩
theorem Reps.get : ∀ {ds : List D} {vs : List V} {i : Nat} {d : D}, Reps K H ds vs → ds[i]? = some d → ∃ v, vs[i]? = some v ∧ Rep K H d v
  | [], _, _, _, _, e => by simp at e
  | d :: ds, _, 0, d', h, e => by
    obtain ⟨y, ys, e', r, t⟩ := h
    obtain rfl : d = d' := by simpa using e
    rw [e']
    exact ⟨y, rfl, r⟩
  | d :: ds, _, i + 1, d', h, e => by
    obtain ⟨y, ys, e', r, t⟩ := h
    obtain ⟨v, e2, r2⟩ := Reps.get (i := i) (d := d') t (by simpa using e)
    rw [e']
    exact ⟨v, by simpa using e2, r2⟩
theorem Reps.getV {ds : List D} {vs : List V} {i : Nat} {v : V} (h : Reps K H ds vs) (e : vs[i]? = some v) : ∃ d, ds[i]? = some d ∧ Rep K H d v := by
  have hl := h.length
  have hi : i < vs.length := (List.getElem?_eq_some_iff.mp e).1
  have hd : ds[i]? = some (ds[i]'(by omega)) := List.getElem?_eq_getElem (by omega)
  obtain ⟨v', e', r⟩ := h.get hd
  rw [e] at e'
  obtain rfl := Option.some.inj e'
  exact ⟨_, hd, r⟩
theorem Reps.take : ∀ {ds : List D} {vs : List V} (n : Nat), Reps K H ds vs → Reps K H (ds.take n) (vs.take n)
  | _, _, 0, _ => by simp [Reps]
  | [], _, n + 1, h => by
    have e : _ = [] := h
    rw [e]
    simp [Reps]
  | d :: ds, _, n + 1, h => by
    obtain ⟨y, ys, e', r, t⟩ := h
    rw [e']
    exact ⟨y, _, rfl, r, Reps.take n t⟩
theorem Reps.drop : ∀ {ds : List D} {vs : List V} (n : Nat), Reps K H ds vs → Reps K H (ds.drop n) (vs.drop n)
  | _, _, 0, h => h
  | [], _, n + 1, h => by
    have e : _ = [] := h
    rw [e]
    simp [Reps]
  | d :: ds, _, n + 1, h => by
    obtain ⟨y, ys, e', r, t⟩ := h
    rw [e']
    exact Reps.drop n t
theorem Reps.set {d : D} {v : V} (q : Rep K H d v) : ∀ {ds : List D} {vs : List V} (i : Nat), Reps K H ds vs → Reps K H (ds.set i d) (vs.set i v)
  | [], _, i, h => by
    have e : _ = [] := h
    rw [e]
    simp [Reps]
  | d' :: ds, _, 0, h => by
    obtain ⟨y, ys, e', r, t⟩ := h
    rw [e']
    exact ⟨v, ys, rfl, q, t⟩
  | d' :: ds, _, i + 1, h => by
    obtain ⟨y, ys, e', r, t⟩ := h
    rw [e']
    exact ⟨y, _, rfl, r, Reps.set q i t⟩
theorem Reps.reverse {ds : List D} {vs : List V} (h : Reps K H ds vs) : Reps K H ds.reverse vs.reverse := by
  induction ds generalizing vs with
  | nil =>
    have e : vs = [] := h
    rw [e]
    exact Reps.nil
  | cons d ds ih =>
    obtain ⟨y, ys, e', r, t⟩ := h
    rw [e', List.reverse_cons, List.reverse_cons]
    exact (ih t).append (Reps.cons r Reps.nil)
theorem Reps.dropLast {ds : List D} {vs : List V} (h : Reps K H ds vs) : Reps K H ds.dropLast vs.dropLast := by
  have := h.take (ds.length - 1)
  rw [List.dropLast_eq_take, List.dropLast_eq_take, h.length]
  exact this
theorem Reps.rep {ds : List D} {vs : List V} (h : Reps K H ds vs) : ∀ k : Nat, Reps K H (List.replicate k ds).flatten (List.replicate k vs).flatten
  | 0 => by simp [Reps]
  | k + 1 => by
    rw [List.replicate_succ, List.replicate_succ, List.flatten_cons, List.flatten_cons]
    exact h.append (Reps.rep h k)
theorem RepF.lookup {f : Str} : ∀ {fs : List (Str × D)} {xs : List (Str × V)} {d : D}, RepF K H fs xs → fs.lookup f = some d → ∃ v, xs.lookup f = some v ∧ Rep K H d v
  | [], _, _, _, e => by simp at e
  | (n, d) :: fs, _, d', h, e => by
    obtain ⟨⟨m, y⟩, ys, e', ⟨e1, r⟩, t⟩ := h
    have e1' : m = n := e1
    subst e1'
    rw [e']
    rw [List.lookup_cons] at e ⊢
    cases q : f == m with
    | true =>
      rw [q] at e
      simp only [Option.some.injEq] at e
      subst e
      exact ⟨y, rfl, r⟩
    | false =>
      rw [q] at e
      exact RepF.lookup t e
theorem RepF.lookup_none {f : Str} : ∀ {fs : List (Str × D)} {xs : List (Str × V)}, RepF K H fs xs → fs.lookup f = none → xs.lookup f = none
  | [], _, h, _ => by
    have e : _ = [] := h
    rw [e]
    rfl
  | (n, d) :: fs, _, h, e => by
    obtain ⟨⟨m, y⟩, ys, e', ⟨e1, r⟩, t⟩ := h
    have e1' : m = n := e1
    subst e1'
    rw [e']
    rw [List.lookup_cons] at e ⊢
    cases q : f == m with
    | true =>
      rw [q] at e
      cases e
    | false =>
      rw [q] at e
      exact RepF.lookup_none t e
theorem RepF.length : ∀ {fs : List (Str × D)} {xs : List (Str × V)}, RepF K H fs xs → xs.length = fs.length
  | [], _, h => by
    have e : _ = [] := h
    rw [e]
    rfl
  | p :: fs, _, h => by
    obtain ⟨y, ys, e, _, r⟩ := h
    rw [e, List.length_cons, List.length_cons, RepF.length r]
theorem RepF.put {f : Str} {d : D} {v : V} (q : Rep K H d v) : ∀ {fs : List (Str × D)} {xs : List (Str × V)}, RepF K H fs xs → RepF K H (Pu.putF f d fs) (L2.putF f v xs)
  | [], _, h => by
    have e : _ = [] := h
    rw [e]
    exact ⟨(f, v), [], rfl, ⟨rfl, q⟩, rfl⟩
  | (n, d') :: fs, _, h => by
    obtain ⟨⟨m, y⟩, ys, e', ⟨e1, r⟩, t⟩ := h
    have e1' : m = n := e1
    subst e1'
    rw [e']
    unfold Pu.putF L2.putF
    by_cases hf : m = f
    · rw [if_pos hf, if_pos hf]
      exact ⟨(m, v), ys, rfl, ⟨rfl, q⟩, t⟩
    · rw [if_neg hf, if_neg hf]
      exact ⟨(m, y), _, rfl, ⟨rfl, r⟩, RepF.put q t⟩
end

/-! ### steps -/
/-- from heap H, of which F is frozen, to H', of which F' is frozen -/
structure Step (H F H' F' : Hp) : Prop where
  le : Same F F'
  ok : Same F' H'
  same : Same H H'
  new : ∀ a, H a ≠ none → F a = none → F' a = none
section
variable {H F H1 F1 H2 F2 : Hp}
theorem Step.refl (h : Same F H) : Step H F H F := ⟨Same.refl _, h, Same.refl _, fun _ _ e => e⟩
theorem Step.trans (a : Step H F H1 F1) (b : Step H1 F1 H2 F2) : Step H F H2 F2 :=
  ⟨a.le.trans b.le, b.ok, a.same.trans b.same, fun c h e => b.new c (fun z => by
    cases q : H c with
    | none => exact h q
    | some o => rw [a.same c o q] at z; cases z) (a.new c h e)⟩
/-- a new frozen object -/
theorem Step.laid {p : Addr} {o : HO} (h : Same F H) (hp : H p = none) : Step H F (upd H p o) (upd F p o) := by
  have hF : F p = none := h.free hp
  refine ⟨fun b u e => ?_, fun b u e => ?_, fun b u e => ?_, fun b hb e => ?_⟩
  · rw [upd_ne (ne_of_none e hF)]; exact e
  · by_cases z : b = p
    · subst z; rw [upd_same] at e ⊢; exact e
    · rw [upd_ne z] at e ⊢; exact h b u e
  · rw [upd_ne (ne_of_none e hp)]; exact e
  · have z : b ≠ p := fun z => hb (z ▸ hp)
    rw [upd_ne z]; exact e
/-- a new object that is not frozen -/
theorem Step.beside {p : Addr} {o : HO} (h : Same F H) (hp : H p = none) : Step H F (upd H p o) F := by
  have hF : F p = none := h.free hp
  refine ⟨Same.refl _, fun b u e => ?_, fun b u e => ?_, fun b hb e => e⟩
  · rw [upd_ne (ne_of_none e hF)]; exact h b u e
  · rw [upd_ne (ne_of_none e hp)]; exact e
end

/-! ### states -/
/-- the error that is handled here: its address, class, own dict; the instance that is made here: its address, dict -/
abbrev Hd := Option (Addr × Value × Option Addr) × Option (Addr × Addr)
def ExcR (K : PySem.W.Frag) (H F : Hp) (fs : List (Str × D)) (dd : Option Addr) : Prop :=
  (fs = [] ∧ dd = none) ∨ (fs ≠ [] ∧ ∃ d xs, dd = some d ∧ H d = some (.xd xs) ∧ RepF K F fs xs)
def CellR (K : PySem.W.Frag) (S : Hd) (H0 H F : Hp) : Cell → V → Prop
  | .val d, v => Rep K F d v
  | .own ds, v => ∃ a xs, v = .ref a ∧ H a = some (.lst xs) ∧ F a = none ∧ H0 a = none ∧ Reps K F ds xs
  | .oobj C fs, v => ∃ a dx xs, v = .ref a ∧ H a = some (.ins (He.ga K C) dx xs) ∧ F a = none ∧ H0 a = none ∧ RepF K F fs xs ∧ S.2 = some (a, dx)
  | .oset xs, v => ∃ a S n, v = .ref a ∧ H a = some (.set S n) ∧ F a = none ∧ H0 a = none ∧ (∀ i, S i = xs.contains i) ∧ n = xs.length
  | .exn C fs, v => ∃ a dd, S.1 = some (a, .ref (He.ga K C), dd) ∧ v = .ref a ∧ ExcR K H F fs dd
def Cell.owned : Cell → Bool
  | .own _ => true
  | .oobj _ _ => true
  | .oset _ => true
  | _ => false
structure Sim (K : PySem.W.Frag) (S : Hd) (H0 F0 : Hp) (ρ : Env) (σ : L2.St) (H F : Hp) : Prop where
  step : Step H0 F0 H F
  len : ρ.length = σ.length
  cell : ∀ (i : Nat) (c : Cell), ρ[i]? = some (some c) → ∃ v, σ[i]? = some (some v) ∧ CellR K S H0 H F c v
  apart : ∀ (i j : Nat) (ci cj : Cell), i ≠ j → ρ[i]? = some (some ci) → ρ[j]? = some (some cj) → ci.owned = true → cj.owned = true → σ[i]? ≠ σ[j]?
section
variable {K : PySem.W.Frag} {S : Hd} {H0 F0 H F H' F' : Hp} {ρ : Env} {σ : L2.St}
theorem Sim.same (s : Sim K S H0 F0 ρ σ H F) : Same F H := s.step.ok
theorem ExcR.mono {fs : List (Str × D)} {dd : Option Addr} (t : Step H F H' F') (h : ExcR K H F fs dd) : ExcR K H' F' fs dd := by
  rcases h with h | ⟨h1, d, xs, e, hd, r⟩
  · exact .inl h
  · exact .inr ⟨h1, d, xs, e, t.same _ _ hd, r.mono t.le⟩
theorem some_ne {α : Type} {x : Option α} {a : α} (h : x = some a) : x ≠ none := by rw [h]; simp
theorem CellR.mono {c : Cell} {v : V} (t : Step H F H' F') (h : CellR K S H0 H F c v) : CellR K S H0 H' F' c v := by
  cases c with
  | val d => exact Rep.mono t.le d v h
  | own ds =>
    obtain ⟨a, xs, e, h1, h2, h3, r⟩ := h
    exact ⟨a, xs, e, t.same _ _ h1, t.new a (some_ne h1) h2, h3, Reps.mono t.le _ _ r⟩
  | oobj C fs =>
    obtain ⟨a, dx, xs, e, h1, h2, h3, r⟩ := h
    exact ⟨a, dx, xs, e, t.same _ _ h1, t.new a (some_ne h1) h2, h3, RepF.mono t.le _ _ r.1, r.2⟩
  | oset xs =>
    obtain ⟨a, S', n, e, h1, h2, h3, r⟩ := h
    exact ⟨a, S', n, e, t.same _ _ h1, t.new a (some_ne h1) h2, h3, r⟩
  | exn C fs =>
    obtain ⟨a, dd, e, e2, r⟩ := h
    exact ⟨a, dd, e, e2, r.mono t⟩
theorem Sim.go (s : Sim K S H0 F0 ρ σ H F) (t : Step H F H' F') : Sim K S H0 F0 ρ σ H' F' :=
  ⟨s.step.trans t, s.len, fun i c e => let ⟨v, e', r⟩ := s.cell i c e; ⟨v, e', r.mono t⟩, s.apart⟩
/-- data into a slot -/
theorem Sim.set (s : Sim K S H0 F0 ρ σ H F) (i : Nat) {d : D} {v : V} (r : Rep K F d v) : Sim K S H0 F0 (ρ.set i (some (.val d))) (σ.set i (some v)) H F := by
  refine ⟨s.step, by rw [List.length_set, List.length_set, s.len], fun j c e => ?_, fun j k cj ck n e1 e2 o1 o2 => ?_⟩
  · by_cases hj : i = j
    · subst hj
      have hlt : i < ρ.length := by
        have := (List.getElem?_eq_some_iff.mp e).1
        simpa using this
      rw [List.getElem?_set_self hlt] at e
      obtain rfl : Cell.val d = c := by simpa using e
      exact ⟨v, List.getElem?_set_self (by rw [← s.len]; exact hlt), r⟩
    · rw [List.getElem?_set_ne hj] at e
      obtain ⟨u, e', q⟩ := s.cell j c e
      exact ⟨u, by rw [List.getElem?_set_ne hj]; exact e', q⟩
  · have nj : ∀ {j : Nat} {c : Cell}, (ρ.set i (some (.val d)))[j]? = some (some c) → c.owned = true → i ≠ j := fun {j c} e o hj => by
      subst hj
      have hlt : i < ρ.length := by
        have := (List.getElem?_eq_some_iff.mp e).1
        simpa using this
      rw [List.getElem?_set_self hlt] at e
      obtain rfl : Cell.val d = c := by simpa using e
      cases o
    have n1 := nj e1 o1
    have n2 := nj e2 o2
    rw [List.getElem?_set_ne n1] at e1 ⊢
    rw [List.getElem?_set_ne n2] at e2 ⊢
    exact s.apart j k cj ck n e1 e2 o1 o2
/-- a slot is emptied -/
theorem Sim.unset (s : Sim K S H0 F0 ρ σ H F) (i : Nat) : Sim K S H0 F0 (ρ.set i none) (σ.set i none) H F := by
  refine ⟨s.step, by rw [List.length_set, List.length_set, s.len], fun j c e => ?_, fun j k cj ck n e1 e2 o1 o2 => ?_⟩
  · by_cases hj : i = j
    · subst hj
      have hlt : i < ρ.length := by
        have := (List.getElem?_eq_some_iff.mp e).1
        simpa using this
      rw [List.getElem?_set_self hlt] at e
      cases e
    · rw [List.getElem?_set_ne hj] at e
      obtain ⟨u, e', q⟩ := s.cell j c e
      exact ⟨u, by rw [List.getElem?_set_ne hj]; exact e', q⟩
  · have nj : ∀ {j : Nat} {c : Cell}, (ρ.set i none)[j]? = some (some c) → i ≠ j := fun {j c} e hj => by
      subst hj
      have hlt : i < ρ.length := by
        have := (List.getElem?_eq_some_iff.mp e).1
        simpa using this
      rw [List.getElem?_set_self hlt] at e
      cases e
    have n1 := nj e1
    have n2 := nj e2
    rw [List.getElem?_set_ne n1] at e1 ⊢
    rw [List.getElem?_set_ne n2] at e2 ⊢
    exact s.apart j k cj ck n e1 e2 o1 o2
/-- an own thing into a slot: new, or the one that stood there -/
theorem Sim.setOwn (s : Sim K S H0 F0 ρ σ H F) (i : Nat) {c : Cell} {a : Addr} (r : CellR K S H0 H F c (.ref a)) (hne : ∀ (j : Nat) (cj : Cell), i ≠ j → ρ[j]? = some (some cj) → cj.owned = true → σ[j]? ≠ some (some (.ref a))) :
    Sim K S H0 F0 (ρ.set i (some c)) (σ.set i (some (.ref a))) H F := by
  refine ⟨s.step, by rw [List.length_set, List.length_set, s.len], fun j c' e => ?_, fun j k cj ck n e1 e2 o1 o2 => ?_⟩
  · by_cases hj : i = j
    · subst hj
      have hlt : i < ρ.length := by
        have := (List.getElem?_eq_some_iff.mp e).1
        simpa using this
      rw [List.getElem?_set_self hlt] at e
      obtain rfl : c = c' := by simpa using e
      exact ⟨.ref a, List.getElem?_set_self (by rw [← s.len]; exact hlt), r⟩
    · rw [List.getElem?_set_ne hj] at e
      obtain ⟨u, e', q⟩ := s.cell j c' e
      exact ⟨u, by rw [List.getElem?_set_ne hj]; exact e', q⟩
  · have at_ : ∀ {j : Nat} {c' : Cell}, (ρ.set i (some c))[j]? = some (some c') → i = j → (σ.set i (some (.ref a)))[j]? = some (some (.ref a)) := fun {j c'} e hj => by
      subst hj
      have hlt : i < ρ.length := by
        have := (List.getElem?_eq_some_iff.mp e).1
        simpa using this
      exact List.getElem?_set_self (by rw [← s.len]; exact hlt)
    by_cases h1 : i = j
    · rw [at_ e1 h1]
      have h2 : i ≠ k := fun z => n (h1 ▸ z ▸ rfl)
      rw [List.getElem?_set_ne h2] at e2 ⊢
      exact fun z => hne k ck h2 e2 o2 z.symm
    · rw [List.getElem?_set_ne h1] at e1
      rw [List.getElem?_set_ne h1]
      by_cases h2 : i = k
      · rw [at_ e2 h2]
        exact hne j cj h1 e1 o1
      · rw [List.getElem?_set_ne h2] at e2 ⊢
        exact s.apart j k cj ck n e1 e2 o1 o2
theorem CellR.addr {c : Cell} {v : V} (o : c.owned = true) (h : CellR K S H0 H F c v) : ∃ a, v = .ref a ∧ H a ≠ none ∧ F a = none ∧ H0 a = none := by
  cases c with
  | own ds =>
    obtain ⟨a, xs, e, h1, h2, h3, r⟩ := h
    exact ⟨a, e, some_ne h1, h2, h3⟩
  | oobj C fs =>
    obtain ⟨a, dx, xs, e, h1, h2, h3, r⟩ := h
    exact ⟨a, e, some_ne h1, h2, h3⟩
  | oset xs =>
    obtain ⟨a, S', n, e, h1, h2, h3, r⟩ := h
    exact ⟨a, e, some_ne h1, h2, h3⟩
  | val d => cases o
  | exn C fs => cases o
/-- a new own thing -/
theorem Sim.setNew (s : Sim K S H0 F0 ρ σ H F) (i : Nat) (t : Step H F H' F') {c : Cell} {a : Addr} (ha : H a = none) (r : CellR K S H0 H' F' c (.ref a)) : Sim K S H0 F0 (ρ.set i (some c)) (σ.set i (some (.ref a))) H' F' :=
  (s.go t).setOwn i r fun j cj _ e o z => by
    obtain ⟨v, e', q⟩ := s.cell j cj e
    rw [e'] at z
    obtain rfl : v = .ref a := by simpa using z
    obtain ⟨b, e2, h2, _⟩ := q.addr o
    obtain rfl : a = b := by simpa using e2
    exact h2 ha
/-- the own thing in slot i is changed: its address keeps -/
theorem Sim.change (s : Sim K S H0 F0 ρ σ H F) (i : Nat) {c c' : Cell} {a : Addr} {o : HO} (e : ρ[i]? = some (some c)) (ow : c.owned = true) (es : σ[i]? = some (some (.ref a)))
    (r : CellR K S H0 (upd H a o) F c' (.ref a)) : Sim K S H0 F0 (ρ.set i (some c')) σ (upd H a o) F := by
  obtain ⟨v, e', q⟩ := s.cell i c e
  rw [es] at e'
  obtain rfl : V.ref a = v := by simpa using e'
  obtain ⟨b, e2, hH, hF, h0⟩ := q.addr ow
  obtain rfl : a = b := by simpa using e2
  have st : Step H0 F0 (upd H a o) F := ⟨s.step.le, fun b u e => by rw [upd_ne (ne_of_none e hF)]; exact s.step.ok b u e, fun b u e => by rw [upd_ne (ne_of_none e h0)]; exact s.step.same b u e, s.step.new⟩
  have hlt : i < ρ.length := (List.getElem?_eq_some_iff.mp e).1
  have other : ∀ (j : Nat) (cj : Cell), i ≠ j → ρ[j]? = some (some cj) → ∃ v, σ[j]? = some (some v) ∧ CellR K S H0 (upd H a o) F cj v := fun j cj n ej => by
    obtain ⟨v, ev, q'⟩ := s.cell j cj ej
    refine ⟨v, ev, ?_⟩
    have far : ∀ b, v = .ref b → cj.owned = true → b ≠ a := fun b eb oj z => by
      subst z
      exact s.apart i j c cj n e ej ow oj (by rw [es, ev, eb])
    cases cj with
    | val d => exact q'
    | own ds =>
      obtain ⟨b, xs, e, h1, h2, h3, r⟩ := q'
      exact ⟨b, xs, e, by rw [upd_ne (far b e rfl)]; exact h1, h2, h3, r⟩
    | oobj C fs =>
      obtain ⟨b, dx, xs, e, h1, h2, h3, r⟩ := q'
      exact ⟨b, dx, xs, e, by rw [upd_ne (far b e rfl)]; exact h1, h2, h3, r⟩
    | oset xs =>
      obtain ⟨b, S', n, e, h1, h2, h3, r⟩ := q'
      exact ⟨b, S', n, e, by rw [upd_ne (far b e rfl)]; exact h1, h2, h3, r⟩
    | exn C fs =>
      obtain ⟨b, dd, e1, e2, r⟩ := q'
      refine ⟨b, dd, e1, e2, ?_⟩
      rcases r with r | ⟨r1, d, xs, ed, hd, rf⟩
      · exact .inl r
      · refine .inr ⟨r1, d, xs, ed, ?_, rf⟩
        by_cases z : d = a
        · -- the error's dict is no own thing
          exfalso
          subst z
          cases c with
          | own ds =>
            obtain ⟨b, xs, e, h1, _⟩ := q
            obtain rfl : d = b := by simpa using e
            rw [hd] at h1
            cases h1
          | oobj C fs =>
            obtain ⟨b, dx, xs, e, h1, _⟩ := q
            obtain rfl : d = b := by simpa using e
            rw [hd] at h1
            cases h1
          | oset xs =>
            obtain ⟨b, S', n, e, h1, _⟩ := q
            obtain rfl : d = b := by simpa using e
            rw [hd] at h1
            cases h1
          | val d => cases ow
          | exn C fs => cases ow
        · rw [upd_ne z]; exact hd
  refine ⟨st, by rw [List.length_set, s.len], fun j cj ej => ?_, fun j k cj ck n e1 e2 o1 o2 => ?_⟩
  · by_cases hj : i = j
    · subst hj
      rw [List.getElem?_set_self hlt] at ej
      obtain rfl : c' = cj := by simpa using ej
      exact ⟨.ref a, es, r⟩
    · rw [List.getElem?_set_ne hj] at ej
      exact other j cj hj ej
  · by_cases h1 : i = j
    · subst h1
      rw [List.getElem?_set_ne n] at e2
      exact s.apart i k c ck n e e2 ow o2
    · rw [List.getElem?_set_ne h1] at e1
      by_cases h2 : i = k
      · subst h2
        exact s.apart j i cj c n e1 e o1 ow
      · rw [List.getElem?_set_ne h2] at e2
        exact s.apart j k cj ck n e1 e2 o1 o2
/-- an own thing is frozen -/
theorem Sim.frz (s : Sim K S H0 F0 ρ σ H F) (i : Nat) : ∃ F', Same F F' ∧ Sim K S H0 F0 (frzE i ρ) σ H F' := by
  have main : ∀ (c : Cell) (d : D) (a : Addr) (o : HO), ρ[i]? = some (some c) → c.owned = true → σ[i]? = some (some (.ref a)) → H a = some o → F a = none → H0 a = none →
      (Rep K (upd F a o) d (.ref a)) → ∃ F', Same F F' ∧ Sim K S H0 F0 (ρ.set i (some (.val d))) σ H F' := fun c d a o e ow es hH hF h0 r => by
    have leF : Same F (upd F a o) := fun b u e => by rw [upd_ne (ne_of_none e hF)]; exact e
    have okF : Same (upd F a o) H := fun b u e => by
      by_cases z : b = a
      · subst z; rw [upd_same] at e; rw [hH]; exact e
      · rw [upd_ne z] at e; exact s.step.ok b u e
    have hlt : i < ρ.length := (List.getElem?_eq_some_iff.mp e).1
    refine ⟨upd F a o, leF, ⟨s.step.le.trans leF, okF, s.step.same, fun b hb eb => ?_⟩, by rw [List.length_set, s.len], fun j cj ej => ?_, fun j k cj ck n e1 e2 o1 o2 => ?_⟩
    · have z : b ≠ a := fun z => hb (z ▸ h0)
      rw [upd_ne z]; exact s.step.new b hb eb
    · by_cases hj : i = j
      · subst hj
        rw [List.getElem?_set_self hlt] at ej
        obtain rfl : Cell.val d = cj := by simpa using ej
        exact ⟨.ref a, es, r⟩
      · rw [List.getElem?_set_ne hj] at ej
        obtain ⟨v, ev, q⟩ := s.cell j cj ej
        refine ⟨v, ev, ?_⟩
        have far : ∀ b, v = .ref b → cj.owned = true → b ≠ a := fun b eb oj z => by
          subst z
          exact s.apart i j c cj hj e ej ow oj (by rw [es, ev, eb])
        cases cj with
        | val d => exact Rep.mono leF _ _ q
        | own ds =>
          obtain ⟨b, xs, e, h1, h2, h3, r⟩ := q
          exact ⟨b, xs, e, h1, by rw [upd_ne (far b e rfl)]; exact h2, h3, Reps.mono leF _ _ r⟩
        | oobj C fs =>
          obtain ⟨b, dx, xs, e, h1, h2, h3, r⟩ := q
          exact ⟨b, dx, xs, e, h1, by rw [upd_ne (far b e rfl)]; exact h2, h3, RepF.mono leF _ _ r.1, r.2⟩
        | oset xs =>
          obtain ⟨b, S', n, e, h1, h2, h3, r⟩ := q
          exact ⟨b, S', n, e, h1, by rw [upd_ne (far b e rfl)]; exact h2, h3, r⟩
        | exn C fs =>
          obtain ⟨b, dd, e1, e2, r⟩ := q
          refine ⟨b, dd, e1, e2, ?_⟩
          rcases r with r | ⟨r1, d, xs, ed, hd, rf⟩
          · exact .inl r
          · exact .inr ⟨r1, d, xs, ed, hd, RepF.mono leF _ _ rf⟩
    · have nj : ∀ {j : Nat} {c : Cell}, (ρ.set i (some (.val d)))[j]? = some (some c) → c.owned = true → i ≠ j := fun {j c} e o hj => by
        subst hj
        rw [List.getElem?_set_self hlt] at e
        obtain rfl : Cell.val d = c := by simpa using e
        cases o
      have n1 := nj e1 o1
      have n2 := nj e2 o2
      rw [List.getElem?_set_ne n1] at e1
      rw [List.getElem?_set_ne n2] at e2
      exact s.apart j k cj ck n e1 e2 o1 o2
  unfold frzE
  split
  · rename_i ds e
    obtain ⟨v, ev, q⟩ := s.cell i _ e
    obtain ⟨a, xs, rfl, h1, h2, h3, r⟩ := q
    exact main _ _ a _ e rfl ev h1 h2 h3 ⟨a, xs, rfl, upd_same, Reps.mono (fun b u e => by rw [upd_ne (ne_of_none e h2)]; exact e) _ _ r⟩
  · rename_i C fs e
    obtain ⟨v, ev, q⟩ := s.cell i _ e
    obtain ⟨a, dx, xs, rfl, h1, h2, h3, r⟩ := q
    exact main _ _ a _ e rfl ev h1 h2 h3 ⟨a, dx, xs, rfl, upd_same, RepF.mono (fun b u e => by rw [upd_ne (ne_of_none e h2)]; exact e) _ _ r.1⟩
  · exact ⟨F, Same.refl _, s⟩
theorem wipeE_length (ρ : Env) : ∀ vs : List Nat, (wipeE ρ vs).length = ρ.length
  | [] => rfl
  | v :: vs => by unfold wipeE; rw [List.length_set, wipeE_length ρ vs]
theorem Sim.wipe (s : Sim K S H0 F0 ρ σ H F) : ∀ vs : List Nat, Sim K S H0 F0 (wipeE ρ vs) (L2.wipe σ vs) H F
  | [] => s
  | v :: vs => by
    unfold wipeE L2.wipe
    exact (Sim.wipe s vs).unset v
end
end Pu

/-! Pu, part C: canonical readings; expressions. -/
namespace Pu
open PySem PySem.Spec PyProof.Rows L2

/-! ### sizes that every state bears -/
structure HSz (K : PySem.W.Frag) (H : Hp) : Prop where
  l : ∀ a xs, SqL K H a xs → xs.length ≤ sizeLine
  t : ∀ a xs, SqT K H a xs → xs.length ≤ sizeLine
theorem hsz {X : Cx} {pins : List (Addr × Obj)} {σ : L2.St} {H : Hp} {s : Shared} (I : Inv X pins σ H s) : HSz X.K H :=
  ⟨fun a xs h => let ⟨_, _, _, z⟩ := I.list h; z, fun a xs h => let ⟨_, _, _, z⟩ := I.tuple h; z⟩

/-! ### weaker readings -/
section
variable {X : Cx}
theorem peW {e : Expr} {t t' : TE} (h : PE X e t) (k : ∀ σ H Q, t' σ H Q → t σ H fun v H' => HSz X.K H' → Q v H') : PE X e t' :=
  ⟨fun pins s σ H Q I q => thn (h.run pins s σ H _ I (k σ H Q q)) fun u s' ⟨v, H', I', r, q'⟩ => ⟨v, H', I', r, q' (hsz I')⟩⟩
theorem ptW {e : Expr} {t t' : TT} (h : PT X e t) (k : ∀ σ H Q, t' σ H Q → t σ H fun v H' => HSz X.K H' → Q v H') : PT X e t' :=
  ⟨fun pins s σ H Q I q => thn (h.run pins s σ H _ I (k σ H Q q)) fun u s' ⟨H', I', q'⟩ => ⟨H', I', q' (hsz I')⟩⟩
theorem pwW {e : Expr} {t t' : TT} (h : PW X e t) (k : ∀ σ H Q, t' σ H Q → t σ H fun v H' => HSz X.K H' → Q v H') : PW X e t' :=
  ⟨fun wh pins s σ H Q I q => thn (h.run wh pins s σ H _ I (k σ H Q q)) fun u s' ⟨H', I', q'⟩ => ⟨H', I', q' (hsz I')⟩⟩
theorem paW {es : List Expr} {t t' : TA} (h : PA X es t) (k : ∀ σ H Q, t' σ H Q → t σ H fun v H' => HSz X.K H' → Q v H') : PA X es t' :=
  ⟨fun pos pins s σ H Q I q => thn (h.run pos pins s σ H _ I (k σ H Q q)) fun u s' ⟨v, H', I', r, q'⟩ => ⟨v, H', I', r, q' (hsz I')⟩⟩
theorem psW {st : Stmt} {t t' : TS} (h : PS X st t) (k : ∀ D σ H, t' D σ H → t D σ H) : PS X st t' :=
  ⟨fun pins s σ H D I q => h.run pins s σ H D I (k D σ H q)⟩
theorem pssW {st : List Stmt} {t t' : TS} (h : PSs X st t) (k : ∀ D σ H, t' D σ H → t D σ H) : PSs X st t' :=
  ⟨fun pins s σ H D I q => h.run pins s σ H D I (k D σ H q)⟩
theorem pgW {e : Expr} {t t' : TG} (h : PG X e t) (k : ∀ v σ H Q, t' v σ H Q → t v σ H Q) : PG X e t' :=
  ⟨fun pins s σ H v u Q I r q => h.run pins s σ H v u Q I r (k v σ H Q q)⟩
theorem piW {tg e : Expr} {t t' : TI} (h : PI X tg e t) (k : ∀ σ H R, t' σ H R → t σ H fun J H' => HSz X.K H' → R J H') : PI X tg e t' :=
  ⟨fun pins s σ H R I q => thn (h.run pins s σ H _ I (k σ H R q)) fun v s1 h1 => thn h1 fun itv s2 ⟨it, fp, tn, J, H', e, I', T, z, f, r⟩ => ⟨it, fp, tn, J, H', e, I', T, z, f, r (hsz I')⟩⟩
end

/-! ### canonical readings -/
abbrev RR (α β : Type) := Hp → Hp → Hp → Hp → α → β → Prop
/-- what is wanted behind r, from heap H, frozen F -/
def Po {α β : Type} (K : PySem.W.Frag) (W : WX) (σ : L2.St) (H F : Hp) (R : RR α β) (r : Res α) (Q : β → Hp → Prop) : Prop :=
  match r with
  | .ok a => ∀ b H' F', Step H F H' F' → HSz K H' → R H F H' F' a b → Q b H'
  | .exc C fs => ∀ H' F' dd, Step H F H' F' → ExcR K H' F' fs dd → W (.ref (He.ga K C)) dd σ H'
  | .bad => False
def tG {α β : Type} (K : PySem.W.Frag) (S : Hd) (W : WX) (R : RR α β) (f : Env → Res α) : L2.St → Hp → (β → Hp → Prop) → Prop :=
  fun σ H Q => ∃ H0 F0 ρ F, Sim K S H0 F0 ρ σ H F ∧ Po K W σ H F R (f ρ) Q
def RB (K : PySem.W.Frag) (H F : Hp) (d : D) (v : V) : Prop := Rep K F d v ∨ ∃ ds a xs, d = .lst ds ∧ v = .ref a ∧ H a = some (.lst xs) ∧ Reps K F ds xs
def RBs (K : PySem.W.Frag) (H F : Hp) : List D → List V → Prop
  | [], xs => xs = []
  | d :: ds, xs => ∃ y ys, xs = y :: ys ∧ RB K H F d y ∧ RBs K H F ds ys
abbrev rE (K : PySem.W.Frag) : RR D V := fun _ _ _ F' d v => Rep K F' d v
abbrev rB (K : PySem.W.Frag) : RR D V := fun _ _ H' F' d v => RB K H' F' d v
/-- a new list -/
abbrev rL (K : PySem.W.Frag) : RR (List D) V := fun H _ H' F' ds v => ∃ a xs, v = .ref a ∧ H a = none ∧ F' a = none ∧ H' a = some (.lst xs) ∧ Reps K F' ds xs
abbrev rT : RR Bool Bool := fun _ _ _ _ a b => b = a
abbrev rA (K : PySem.W.Frag) (n : Nat) : RR (List D) (List V) := fun _ _ _ F' ds vs => Reps K F' ds vs ∧ vs.length = n
abbrev rAB (K : PySem.W.Frag) (n : Nat) : RR (List D) (List V) := fun _ _ H' F' ds vs => RBs K H' F' ds vs ∧ vs.length = n
abbrev rO : RR (Option Int) (Option Int) := fun _ _ _ _ a b => b = a
/-- an iterator J over data ds, while all of L stands -/
structure IterOk (K : PySem.W.Frag) (J : It) (L F : Hp) (ds : List D) : Prop where
  len : ds.length ≤ sizeLine
  goes : ∀ i H', i < ds.length → Same L H' → J.go i H'
  stops : ∀ H', Same L H' → J.stop ds.length H'
  yields : ∀ i H1 F1 x H2, i < ds.length → Same L H1 → Same F F1 → Same F1 H1 → J.yld i H1 x H2 → ∃ F2 d, ds[i]? = some d ∧ Step H1 F1 H2 F2 ∧ Rep K F2 d x
abbrev rIt (K : PySem.W.Frag) : RR (List D) It := fun _ _ _ F' ds J => IterOk K J F' F' ds
abbrev rItB (K : PySem.W.Frag) : RR (List D) It := fun _ _ H' F' ds J => IterOk K J H' F' ds

/-- what a step ahead does to a wish -/
def Cl {α β : Type} (R : RR α β) : Prop := ∀ H F H1 F1 H' F' a b, Step H F H1 F1 → R H1 F1 H' F' a b → R H F H' F' a b
theorem cl_rL {K : PySem.W.Frag} : Cl (rL K) := fun H F H1 F1 H' F' ds v t ⟨a, xs, e, n, r⟩ => ⟨a, xs, e, t.same.free n, r⟩
section
variable {α β γ δ : Type} {K : PySem.W.Frag} {S : Hd} {W : WX} {σ : L2.St} {H F H1 F1 : Hp} {R : RR α β} {R1 : RR γ δ} {Q : β → Hp → Prop}
theorem Po.go (rc : Cl R) {r : Res α} (t : Step H F H1 F1) (h : Po K W σ H F R r Q) : Po K W σ H1 F1 R r Q := by
  cases r with
  | ok a => exact fun b H' F' t' z q => h b H' F' (t.trans t') z (rc _ _ _ _ _ _ _ _ t q)
  | exc C fs => exact fun H' F' dd t' q => h H' F' dd (t.trans t') q
  | bad => exact h
/-- r, then g -/
theorem Po.of_bind (rc : Cl R) {r : Res γ} {g : γ → Res α} {Q1 : δ → Hp → Prop} (h : Po K W σ H F R (r.bind g) Q)
    (k : ∀ a b H1 F1, Step H F H1 F1 → HSz K H1 → R1 H F H1 F1 a b → Po K W σ H1 F1 R (g a) Q → Q1 b H1) : Po K W σ H F R1 r Q1 := by
  cases r with
  | ok a => exact fun b H' F' t z q => k a b H' F' t z q (Po.go rc t h)
  | exc C fs => exact h
  | bad => exact h
/-- .. where g looks back to the state ahead of r -/
theorem Po.of_bind0 {r : Res γ} {g : γ → Res α} {Q1 : δ → Hp → Prop} (h : Po K W σ H F R (r.bind g) Q)
    (k : ∀ a b H1 F1, Step H F H1 F1 → HSz K H1 → R1 H F H1 F1 a b → Po K W σ H F R (g a) Q → Q1 b H1) : Po K W σ H F R1 r Q1 := by
  cases r with
  | ok a => exact fun b H' F' t z q => k a b H' F' t z q h
  | exc C fs => exact h
  | bad => exact h
/-- a weaker wish of the value -/
theorem Po.imp {r : Res γ} {R2 : RR γ β} {Q1 : δ → Hp → Prop} (h : Po K W σ H F R2 r Q) (k : ∀ a b H1 F1, Step H F H1 F1 → HSz K H1 → R1 H F H1 F1 a b → (∀ c H2 F2, Step H1 F1 H2 F2 → HSz K H2 → R2 H F H2 F2 a c → Q c H2) → Q1 b H1) : Po K W σ H F R1 r Q1 := by
  cases r with
  | ok a => exact fun b H' F' t z q => k a b H' F' t z q fun c H2 F2 t2 z2 q2 => h c H2 F2 (t.trans t2) z2 q2
  | exc C fs => exact h
  | bad => exact h
theorem Po.now {r : Res α} {a : α} {b : β} (e : r = .ok a) (s : Same F H) (z : HSz K H) (q : R H F H F a b) (h : Po K W σ H F R r Q) : Q b H := by
  subst e
  exact h b H F (Step.refl s) z q
end

/-! ### the judgements -/
abbrev DE (X : Cx) (S : Hd) (W : WX) (e : Expr) (f : EV) : Prop := PE X e (tG X.K S W (rE X.K) f)
abbrev DB (X : Cx) (S : Hd) (W : WX) (e : Expr) (f : EV) : Prop := PE X e (tG X.K S W (rB X.K) f)
abbrev DL (X : Cx) (S : Hd) (W : WX) (e : Expr) (f : AV) : Prop := PE X e (tG X.K S W (rL X.K) f)
abbrev DT (X : Cx) (S : Hd) (W : WX) (e : Expr) (f : TV) : Prop := PT X e (tG X.K S W rT f)
abbrev DA (X : Cx) (S : Hd) (W : WX) (es : List Expr) (n : Nat) (f : AV) : Prop := PA X es (tG X.K S W (rA X.K n) f)
abbrev DAB (X : Cx) (S : Hd) (W : WX) (es : List Expr) (n : Nat) (f : AV) : Prop := PA X es (tG X.K S W (rAB X.K n) f)
abbrev DI (X : Cx) (S : Hd) (W : WX) (tg e : Expr) (f : AV) : Prop := PI X tg e (tG X.K S W (rIt X.K) f)
abbrev DIB (X : Cx) (S : Hd) (W : WX) (tg e : Expr) (f : AV) : Prop := PI X tg e (tG X.K S W (rItB X.K) f)
abbrev DO (X : Cx) (S : Hd) (W : WX) (e : Option Expr) (f : Env → Res (Option Int)) : Prop := PO X e (tG X.K S W rO f)

/-- what a body's context gives -/
structure Ctx (X : Cx) (W : WX) (k : Nat) : Prop where
  tk : Takes X W
  po : PassesOwn (model X.prog X.w) X.A X.env X.xe
  hr : Room k X.A

/-- room for comparisons -/
def Un (X : Cx) : Prop := X.A.units + 200 < cLine
theorem Ctx.un {X : Cx} {W : WX} {k : Nat} (c : Ctx X W k) : Un X := by
  have h := c.hr.un
  unfold Un
  omega

/-! ### borrowed data -/
section
variable {K : PySem.W.Frag} {H F H' F' : Hp} {d : D} {v : V}
theorem RB.of (h : Rep K F d v) : RB K H F d v := .inl h
theorem RB.mono (t : Step H F H' F') (h : RB K H F d v) : RB K H' F' d v := by
  rcases h with h | ⟨ds, a, xs, e, e2, h, r⟩
  · exact .inl (Rep.mono t.le _ _ h)
  · exact .inr ⟨ds, a, xs, e, e2, t.same _ _ h, Reps.mono t.le _ _ r⟩
theorem RBs.mono (t : Step H F H' F') : ∀ {ds : List D} {vs : List V}, RBs K H F ds vs → RBs K H' F' ds vs
  | [], _, h => h
  | d :: ds, _, h => by
    obtain ⟨y, ys, e, r, q⟩ := h
    exact ⟨y, ys, e, r.mono t, RBs.mono t q⟩
theorem RB.non (h : RB K H F .non v) : v = .non := by
  rcases h with h | ⟨ds, a, xs, e, _⟩
  · exact h
  · cases e
theorem RB.bl {b : Bool} (h : RB K H F (.bl b) v) : v = .bl b := by
  rcases h with h | ⟨ds, a, xs, e, _⟩
  · exact h
  · cases e
theorem RB.int {i : Int} (h : RB K H F (.int i) v) : v = .int i := by
  rcases h with h | ⟨ds, a, xs, e, _⟩
  · exact h
  · cases e
theorem RB.str {i : Str} (h : RB K H F (.str i) v) : v = .str i := by
  rcases h with h | ⟨ds, a, xs, e, _⟩
  · exact h
  · cases e
theorem RB.lst {ds : List D} (s : Same F H) (h : RB K H F (.lst ds) v) : ∃ a xs, v = .ref a ∧ H a = some (.lst xs) ∧ Reps K F ds xs := by
  rcases h with ⟨a, xs, e, h, r⟩ | ⟨ds', a, xs, e, e2, h, r⟩
  · exact ⟨a, xs, e, s _ _ h, r⟩
  · cases e
    exact ⟨a, xs, e2, h, r⟩
theorem RB.tup {ds : List D} (s : Same F H) (h : RB K H F (.tup ds) v) : ∃ a xs, v = .ref a ∧ SqT K H a xs ∧ Reps K F ds xs := by
  rcases h with ⟨a, xs, e, h, r⟩ | ⟨ds', a, xs, e, e2, h, r⟩
  · exact ⟨a, xs, e, sqT_mono s h, r⟩
  · cases e
theorem RB.ext {ds : List D} (s : Same F H) (h : RB K H F (.ext ds) v) : ∃ a xs, v = .ref a ∧ SqL K H a xs ∧ Reps K F ds xs := by
  rcases h with ⟨a, xs, e, h, r⟩ | ⟨ds', a, xs, e, e2, h, r⟩
  · exact ⟨a, xs, e, s.seq h, r⟩
  · cases e
theorem RB.obj {C : Str} {fs : List (Str × D)} (s : Same F H) (h : RB K H F (.obj C fs) v) : ∃ a dx xs, v = .ref a ∧ H a = some (.ins (He.ga K C) dx xs) ∧ RepF K F fs xs := by
  rcases h with ⟨a, dx, xs, e, h, r⟩ | ⟨ds', a, xs, e, e2, h, r⟩
  · exact ⟨a, dx, xs, e, s _ _ h, r⟩
  · cases e
theorem RB.objRep {C : Str} {fs : List (Str × D)} (h : RB K H F (.obj C fs) v) : Rep K F (.obj C fs) v := by
  rcases h with h | ⟨ds', a, xs, e, e2, h, r⟩
  · exact h
  · cases e
end

section
variable {X : Cx} {S : Hd} {W : WX} {e a b c : Expr} {fa fb fc f : EV} {pos : Pos}
/-! ### between the judgements -/
theorem d_peek (h : DE X S W e f) : DB X S W e f := peW h fun σ H Q ⟨H0, F0, ρ, F, s, p⟩ => ⟨H0, F0, ρ, F, s, p.imp fun _ v H1 F1 t z r k _ => k v H1 F1 (Step.refl t.ok) z (RB.of r)⟩
/-- a new list, frozen at once -/
theorem d_lstE {l : AV} (h : DL X S W e l) : DE X S W e (eL l) := by
  refine peW h fun σ H Q hq => ?_
  obtain ⟨H0, F0, ρ, F, s, p⟩ := hq
  refine ⟨H0, F0, ρ, F, s, Po.of_bind0 (R := rE X.K) (g := fun xs => Res.ok (D.lst xs)) p fun ds v H1 F1 t z r0 k => ?_⟩
  obtain ⟨a, xs, e, hn, hF, hH, r⟩ := r0
  subst e
  intro z
  have leF : Same F1 (upd F1 a (.lst xs)) := fun b u e => by rw [upd_ne (ne_of_none e hF)]; exact e
  have st : Step H F H1 (upd F1 a (.lst xs)) := by
    refine ⟨t.le.trans leF, fun b u e => ?_, t.same, fun b hb eb => ?_⟩
    · by_cases z : b = a
      · subst z; rw [upd_same] at e; rw [hH]; exact e
      · rw [upd_ne z] at e; exact t.ok b u e
    · have z : b ≠ a := fun z => hb (z ▸ hn)
      rw [upd_ne z]; exact t.new b hb eb
  exact k _ H1 _ st z ⟨a, xs, rfl, upd_same, Reps.mono leF _ _ r⟩
theorem d_lstB {l : AV} (h : DL X S W e l) : DB X S W e (eL l) := d_peek (d_lstE h)

/-! ### names, constants -/
theorem d_var (i : Nat) {x : Str} (hN : X.N[i]? = some x := by rfl) (hv : Vis X.env.scope x := by first | exact Or.inl rfl | exact Or.inr (Or.inl rfl) | exact Or.inr (Or.inr rfl)) (hd : (x == ("__debug__" : Str)) = false := by decide)
    (hcd : (x == ("__classdict__" : Str)) = false := by decide) : DE X S W (.Name x pos) (eVar i) := by
  refine peW (pe_var hN hv hd hcd) fun σ H Q hq => ?_
  obtain ⟨H0, F0, ρ, F, s, p⟩ := hq
  unfold eVar at p
  split at p
  · rename_i d e
    obtain ⟨v, ev, r⟩ := s.cell i _ e
    exact ⟨v, ev, fun z => p v H F (Step.refl s.same) z r⟩
  · exact p.elim
theorem d_peekv (i : Nat) {x : Str} (hN : X.N[i]? = some x := by rfl) (hv : Vis X.env.scope x := by first | exact Or.inl rfl | exact Or.inr (Or.inl rfl) | exact Or.inr (Or.inr rfl)) (hd : (x == ("__debug__" : Str)) = false := by decide)
    (hcd : (x == ("__classdict__" : Str)) = false := by decide) : DB X S W (.Name x pos) (ePeek i) := by
  refine peW (pe_var hN hv hd hcd) fun σ H Q hq => ?_
  obtain ⟨H0, F0, ρ, F, s, p⟩ := hq
  unfold ePeek at p
  split at p
  · rename_i d e
    obtain ⟨v, ev, r⟩ := s.cell i _ e
    exact ⟨v, ev, fun z => p v H F (Step.refl s.same) z (RB.of r)⟩
  · rename_i ds e
    obtain ⟨v, ev, a, xs, rfl, h1, h2, h3, r⟩ := s.cell i _ e
    exact ⟨_, ev, fun z => p _ H F (Step.refl s.same) z (.inr ⟨ds, a, xs, rfl, rfl, h1, r⟩)⟩
  · exact p.elim
theorem d_cst {d : D} {v : V} (h : PE X e (tC v)) (r : ∀ F, Rep X.K F d v) : DE X S W e (eC d) := by
  refine peW h fun σ H Q hq => ?_
  obtain ⟨H0, F0, ρ, F, s, p⟩ := hq
  exact fun z => p v H F (Step.refl s.same) z (r F)
theorem d_int {i j} : DE X S W (.Constant (.int i) j pos) (eC (.int i)) := d_cst pe_int fun _ => rfl
theorem d_bl {i j} : DE X S W (.Constant (.bool i) j pos) (eC (.bl i)) := d_cst pe_bl fun _ => rfl
theorem d_non {j} : DE X S W (.Constant .none j pos) (eC .non) := d_cst pe_non fun _ => rfl
theorem d_str {i j} : DE X S W (.Constant (.str i) j pos) (eC (.str i)) := d_cst pe_str fun _ => rfl

/-! ### operations on values -/
/-- a rule r does what g says -/
def Op1 (K : PySem.W.Frag) (r : V → Hp → VK → Prop) (g : D → Res D) : Prop :=
  ∀ (W : WX) (σ : L2.St) (x : D) (v : V) (H F : Hp) (Q : VK), Same F H → HSz K H → RB K H F x v → Po K W σ H F (rE K) (g x) Q → r v H (fun w H' => HSz K H' → Q w H')
def Op2 (K : PySem.W.Frag) (r : R2) (g : D → D → Res D) : Prop :=
  ∀ (W : WX) (σ : L2.St) (x y : D) (v u : V) (H F : Hp) (Q : VK), Same F H → HSz K H → RB K H F x v → RB K H F y u → Po K W σ H F (rE K) (g x y) Q → r v u H (fun w H' => HSz K H' → Q w H')
def rZ (K : PySem.W.Frag) (r : R2) : R2 := fun x y H Q => r x y H fun v H' => HSz K H' → Q v H'
theorem opZ {f : Value → Value → Sem Value} {r : R2} (h : OpR X f r) : OpR X f (rZ X.K r) := fun pins s σ H x y v u Q I rx ry q =>
  thn (h pins s σ H x y v u _ I rx ry q) fun w s' ⟨z, H', I', r', q'⟩ => ⟨z, H', I', r', q' (hsz I')⟩
theorem tOp_of {K : PySem.W.Frag} {r : R2} {g : D → D → Res D} (hg : Op2 K r g) {σ : L2.St} {H : Hp} {Q : VK} (hq : tG K S W (rE K) (e2 g fa fb) σ H Q) :
    tOp (rZ K r) (tG K S W (rB K) fa) (tG K S W (rB K) fb) σ H Q := by
  obtain ⟨H0, F0, ρ, F, s, p⟩ := hq
  refine ⟨H0, F0, ρ, F, s, Po.of_bind (R := rE K) (fun _ _ _ _ _ _ _ _ _ q => q) p fun x v H1 F1 t1 z1 r1 p1 => ⟨H0, F0, ρ, F1, s.go t1, Po.of_bind (R := rE K) (fun _ _ _ _ _ _ _ _ _ q => q) p1 fun y u H2 F2 t2 z2 r2 p2 => ?_⟩⟩
  exact hg W σ x y v u H2 F2 Q t2.ok z2 (RB.mono t2 r1) r2 p2
theorem peZ {t : TE} (h : PE X e t) : PE X e (fun σ H Q => t σ H fun v H' => HSz X.K H' → Q v H') := peW h fun _ _ _ q => q
/-- monotone rules -/
theorem d_op2 {op : Operator} {r : R2} {g : D → D → Res D} (ho : OpR X (binaryOp op) r) (hg : Op2 X.K r g) (ha : DB X S W a fa) (hb : DB X S W b fb) : DE X S W (.BinOp a op b pos) (e2 g fa fb) := by
  have h := pe_op (pos := pos) (opZ ho) ha hb
  exact ⟨fun pins s σ H Q I q => h.run pins s σ H Q I (tOp_of hg q)⟩
theorem d_cmp {op : CmpOp} {r : R2} {g : D → D → Res D} (ho : OpR X (compareOp op) r) (hg : Op2 X.K r g) (ha : DB X S W a fa) (hb : DB X S W b fb) (hm : behindInMarks op b = false) : DE X S W (.Compare a [op] [b] pos) (e2 g fa fb) := by
  have h := pe_cmpR (pos := pos) (opZ ho) ha hb hm
  exact ⟨fun pins s σ H Q I q => h.run pins s σ H Q I (tOp_of hg q)⟩
/-- a reading of a value, asked as a test -/
theorem testOf {K : PySem.W.Frag} {σ : L2.St} {H : Hp} {Q : Bool → Hp → Prop} (hq : tG K S W rT (tVal f) σ H Q) : tG K S W (rE K) f σ H fun x H' => ∃ k, x = .bl k ∧ Q k H' := by
  obtain ⟨H0, F0, ρ, F, s, p⟩ := hq
  refine ⟨H0, F0, ρ, F, s, Po.of_bind (R := rT) (fun _ _ _ _ _ _ _ _ _ q => q) p fun d v H1 F1 t1 z1 r1 p1 => ?_⟩
  cases d with
  | bl b =>
    have e : v = .bl b := r1
    exact ⟨b, e, p1 b H1 F1 (Step.refl t1.ok) z1 rfl⟩
  | _ => exact p1.elim
theorem d_cmpT {op : CmpOp} {r : R2} {g : D → D → Res D} (ho : OpR X (compareOp op) r) (hg : Op2 X.K r g) (ha : DB X S W a fa) (hb : DB X S W b fb) (hm : behindInMarks op b = false) : DT X S W (.Compare a [op] [b] pos) (tVal (e2 g fa fb)) := by
  have h := pt_cmpR (pos := pos) (opZ ho) ha hb hm
  exact ⟨fun pins s σ H Q I q => h.run pins s σ H Q I (tOp_of hg (testOf q))⟩
theorem d_val (h : DE X S W e f) (he : ∀ whole, isTrue e X.env whole = (do let v ← whole; standAt e.pos; holding [v] (truthy v)) := by intro _; rfl) : DT X S W e (tVal f) := by
  have h := pt_val h he
  exact ⟨fun pins s σ H Q I q => h.run pins s σ H Q I (testOf q)⟩

section
variable {K : PySem.W.Frag}
/-- two ints in -/
theorem op2_int {C : Int → Int → Prop} {gv : Int → Int → V} {g : D → D → Res D} (h1 : ∀ (x y : D) (d : D), g x y = .ok d → ∃ i j, x = .int i ∧ y = .int j ∧ C i j ∧ ∀ F, Rep K F d (gv i j)) (h2 : ∀ (x y : D) C fs, g x y ≠ .exc C fs) : Op2 K (rI C gv) g := by
  intro W σ x y v u H F Q s z r1 r2 p
  cases e : g x y with
  | ok d =>
    rw [e] at p
    obtain ⟨i, j, rfl, rfl, c, r⟩ := h1 x y d e
    exact ⟨i, j, r1.int, r2.int, c, fun z => p _ H F (Step.refl s) z (r F)⟩
  | exc C fs => exact absurd e (h2 x y C fs)
  | bad => rw [e] at p; exact p.elim
theorem op2_int0 {gv : Int → Int → V} {g : D → D → Res D} (h1 : ∀ (x y : D) (d : D), g x y = .ok d → ∃ i j, x = .int i ∧ y = .int j ∧ ∀ F, Rep K F d (gv i j)) (h2 : ∀ (x y : D) C fs, g x y ≠ .exc C fs) : Op2 K (rI0 gv) g := by
  intro W σ x y v u H F Q s z r1 r2 p
  cases e : g x y with
  | ok d =>
    rw [e] at p
    obtain ⟨i, j, rfl, rfl, r⟩ := h1 x y d e
    exact ⟨i, j, r1.int, r2.int, fun z => p _ H F (Step.refl s) z (r F)⟩
  | exc C fs => exact absurd e (h2 x y C fs)
  | bad => rw [e] at p; exact p.elim
theorem p_sub : Op2 K (rI0 fun i j => .int (i - j)) oSub := op2_int0 (fun x y d e => by
    unfold oSub at e
    split at e
    · cases e; exact ⟨_, _, rfl, rfl, fun _ => rfl⟩
    · cases e) fun x y C fs e => by
    unfold oSub at e
    split at e <;> cases e
theorem p_mod : Op2 K (rI (fun _ j => 0 < j) fun i j => .int (i % j)) oMod := op2_int (fun x y d e => by
    unfold oMod at e
    split at e
    · split at e
      · cases e; exact ⟨_, _, rfl, rfl, by assumption, fun _ => rfl⟩
      · cases e
    · cases e) fun x y C fs e => by
    unfold oMod at e
    split at e
    · split at e <;> cases e
    · cases e
theorem p_div : Op2 K (rI CDiv fun i j => .int (i / j)) oDiv := op2_int (fun x y d e => by
    unfold oDiv at e
    split at e
    · split at e
      · cases e; exact ⟨_, _, rfl, rfl, by assumption, fun _ => rfl⟩
      · cases e
    · cases e) fun x y C fs e => by
    unfold oDiv at e
    split at e
    · split at e <;> cases e
    · cases e
theorem p_pow : Op2 K (rI CPow fun i j => .int (i ^ j.toNat)) oPow := op2_int (fun x y d e => by
    unfold oPow at e
    split at e
    · split at e
      · cases e; exact ⟨_, _, rfl, rfl, by assumption, fun _ => rfl⟩
      · cases e
    · cases e) fun x y C fs e => by
    unfold oPow at e
    split at e
    · split at e <;> cases e
    · cases e
theorem p_lt : Op2 K (rI0 fun i j => .bl (decide (i < j))) oLt := op2_int0 (fun x y d e => by
    unfold oLt at e
    split at e
    · cases e; exact ⟨_, _, rfl, rfl, fun _ => rfl⟩
    · cases e) fun x y C fs e => by
    unfold oLt at e
    split at e <;> cases e
theorem p_le : Op2 K (rI0 fun i j => .bl (decide (i ≤ j))) oLe := op2_int0 (fun x y d e => by
    unfold oLe at e
    split at e
    · cases e; exact ⟨_, _, rfl, rfl, fun _ => rfl⟩
    · cases e) fun x y C fs e => by
    unfold oLe at e
    split at e <;> cases e
theorem p_gt : Op2 K (rI0 fun i j => .bl (decide (j < i))) oGt := op2_int0 (fun x y d e => by
    unfold oGt at e
    split at e
    · cases e; exact ⟨_, _, rfl, rfl, fun _ => rfl⟩
    · cases e) fun x y C fs e => by
    unfold oGt at e
    split at e <;> cases e
theorem p_ge : Op2 K (rI0 fun i j => .bl (decide (j ≤ i))) oGe := op2_int0 (fun x y d e => by
    unfold oGe at e
    split at e
    · cases e; exact ⟨_, _, rfl, rfl, fun _ => rfl⟩
    · cases e) fun x y C fs e => by
    unfold oGe at e
    split at e <;> cases e
/-- + of ints, lists, tuples -/
def rAdd3 (K : PySem.W.Frag) : R2 := fun x y H Q => rI0 (fun i j => .int (i + j)) x y H Q ∨ (rCat x y H Q ∨ rCatA K x y H Q)
theorem lineS : line = sizeLine := by rw [sizeLine_eq]
theorem p_add : Op2 K (rAdd3 K) oAdd := by
  intro W σ x y v u H F Q s z r1 r2 p
  unfold oAdd at p
  split at p
  · exact .inl ⟨_, _, r1.int, r2.int, fun z => p _ H F (Step.refl s) z rfl⟩
  · split at p
    · rename_i a b hl
      obtain ⟨l, xs, e1, h1, q1⟩ := r1.lst s
      obtain ⟨l2, ys, e2, h2, q2⟩ := r2.lst s
      refine .inr (.inl ⟨l, l2, xs, ys, e1, e2, h1, h2, by rw [q1.length, q2.length, ← lineS]; exact hl, fun c hc => ?_⟩)
      have t := Step.laid (o := .lst (xs ++ ys)) s hc
      exact fun z' => p _ _ _ t z' ⟨c, _, rfl, upd_same, Reps.mono t.le _ _ (q1.append q2)⟩
    · exact p.elim
  · split at p
    · rename_i a b hl
      obtain ⟨l, xs, e1, h1, q1⟩ := r1.tup s
      obtain ⟨l2, ys, e2, h2, q2⟩ := r2.tup s
      have ha : Rep K F (.tup a) v := by
        rcases r1 with r | ⟨_, _, _, e, _⟩
        · exact r
        · cases e
      have hb : Rep K F (.tup b) u := by
        rcases r2 with r | ⟨_, _, _, e, _⟩
        · exact r
        · cases e
      refine .inr (.inr ⟨l, l2, xs, ys, e1, e2, h1, h2, by rw [q1.length, q2.length, ← lineS]; exact hl, fun hx => ?_, fun _ hy => ?_, fun _ _ c hc => ?_⟩)
      · have ea : a = [] := by
          have := q1.length
          rw [hx] at this
          exact List.eq_nil_of_length_eq_zero this.symm
        subst ea
        exact fun z' => p _ H F (Step.refl s) z' (e2 ▸ hb)
      · have eb : b = [] := by
          have := q2.length
          rw [hy] at this
          exact List.eq_nil_of_length_eq_zero this.symm
        subst eb
        rw [List.append_nil] at p
        exact fun z' => p _ H F (Step.refl s) z' (e1 ▸ ha)
      · have t := Step.laid (o := .tup (xs ++ ys)) s hc
        exact fun z' => p _ _ _ t z' ⟨c, _, rfl, .of upd_same, Reps.mono t.le _ _ (q1.append q2)⟩
    · exact p.elim
  · exact p.elim
end
end
end Pu

/-! Pu, part D: more operations, tests, subscripts, displays, calls of built-ins. -/
namespace Pu
open PySem PySem.Spec PyProof.Rows L2
section
variable {K : PySem.W.Frag} {X : Cx} {S : Hd} {W : WX} {a b c e : Expr} {fa fb fc f : EV} {pos : Pos}

theorem clR {α β : Type} {R : Hp → Hp → α → β → Prop} : Cl (fun _ _ H' F' a b => R H' F' a b) := fun _ _ _ _ _ _ _ _ _ q => q

/-! ### products -/
def rMul3 (K : PySem.W.Frag) : R2 := fun x y H Q => rI CMul (fun i j => .int (i * j)) x y H Q ∨ (rRep x y H Q ∨ rRepT K x y H Q)
theorem mulOk_c {i j : Int} (h : mulOk i j = true) : CMul i j := by
  unfold mulOk at h
  simp only [Bool.or_eq_true, Bool.and_eq_true, decide_eq_true_eq] at h
  rcases h with ⟨h1, h2⟩ | ⟨h1, h2⟩
  · exact .inl ⟨by omega, by omega⟩
  · exact .inr ⟨by omega, by omega⟩
theorem p_mul : Op2 K (rMul3 K) oMul := by
  intro W σ x y v u H F Q s z r1 r2 p
  unfold oMul at p
  split at p
  · split at p
    · rename_i h
      exact .inl ⟨_, _, r1.int, r2.int, mulOk_c h, fun z => p _ H F (Step.refl s) z rfl⟩
    · exact p.elim
  · split at p
    · rename_i a k hl
      obtain ⟨l, xs, e1, h1, q1⟩ := r1.lst s
      refine .inr (.inl ⟨l, k, xs, e1, r2.int, h1, by omega, by omega, by rw [q1.length, ← lineS]; exact hl.2.2, fun c hc => ?_⟩)
      have t := Step.laid (o := .lst (List.replicate k.toNat xs).flatten) s hc
      exact fun z' => p _ _ _ t z' ⟨c, _, rfl, upd_same, Reps.mono t.le _ _ (q1.rep _)⟩
    · exact p.elim
  · split at p
    · rename_i a k hl
      obtain ⟨l, xs, e1, h1, q1⟩ := r1.tup s
      obtain ⟨h5, h6, h7, h8⟩ := hl
      refine .inr (.inr ⟨l, k, xs, e1, r2.int, h1, fun hx => ?_, h6, h7, by rw [q1.length]; exact h8, fun c hc => ?_⟩)
      · have := q1.length
        rw [hx] at this
        have ea : a = [] := List.eq_nil_of_length_eq_zero this.symm
        rw [ea] at h5
        cases h5
      · have t := Step.laid (o := .tup (List.replicate k.toNat xs).flatten) s hc
        exact fun z' => p _ _ _ t z' ⟨c, _, rfl, .of upd_same, Reps.mono t.le _ _ (q1.rep _)⟩
    · exact p.elim
  · exact p.elim
theorem d_add (ha : DB X S W a fa) (hb : DB X S W b fb) : DE X S W (.BinOp a .Add b pos) (e2 oAdd fa fb) := d_op2 (op_add.or (op_cat.or op_catA)) p_add ha hb
theorem d_sub (ha : DB X S W a fa) (hb : DB X S W b fb) : DE X S W (.BinOp a .Sub b pos) (e2 oSub fa fb) := d_op2 op_sub p_sub ha hb
theorem d_mul (ha : DB X S W a fa) (hb : DB X S W b fb) : DE X S W (.BinOp a .Mult b pos) (e2 oMul fa fb) := d_op2 (op_mul.or (op_rep.or op_repT)) p_mul ha hb
theorem d_mod (ha : DB X S W a fa) (hb : DB X S W b fb) : DE X S W (.BinOp a .Mod b pos) (e2 oMod fa fb) := d_op2 op_mod p_mod ha hb
theorem d_div (ha : DB X S W a fa) (hb : DB X S W b fb) : DE X S W (.BinOp a .FloorDiv b pos) (e2 oDiv fa fb) := d_op2 op_fdiv p_div ha hb
theorem d_pow (ha : DB X S W a fa) (hb : DB X S W b fb) : DE X S W (.BinOp a .Pow b pos) (e2 oPow fa fb) := d_op2 op_pow p_pow ha hb

/-! ### one operand -/
theorem d_neg (ha : DB X S W a fa) : DE X S W (.UnaryOp .USub a pos) (e1 oNeg fa) := by
  refine peW (pe_un un_neg ha) fun σ H Q hq => ?_
  obtain ⟨H0, F0, ρ, F, s, p⟩ := hq
  refine ⟨H0, F0, ρ, F, s, Po.of_bind (R := rE X.K) clR p fun x v H1 F1 t1 z1 r1 p1 => ?_⟩
  unfold oNeg at p1
  split at p1
  · exact ⟨_, RB.int r1, fun z => p1 _ H1 F1 (Step.refl t1.ok) z rfl⟩
  · exact p1.elim

/-! ### data compared -/
mutual
def toPy : D → PyData
  | .non => .none
  | .bl b => .bool b
  | .int i => .int i
  | .str x => .str x
  | .tup ds => .tuple (toPys ds)
  | .lst ds => .list (toPys ds)
  | .ext _ => .none
  | .obj _ _ => .none
def toPys : List D → List PyData
  | [] => []
  | d :: ds => toPy d :: toPys ds
end
theorem toPy_lay : ∀ (n : Nat) (d : D), D.dep n d = true → (toPy d).canLay0 = true ∧ (toPy d).depth ≤ n
  | n, .non, _ => ⟨rfl, by simp [toPy, PyData.depth]⟩
  | n, .bl _, _ => ⟨rfl, by simp [toPy, PyData.depth]⟩
  | n, .int _, _ => ⟨rfl, by simp [toPy, PyData.depth]⟩
  | n, .str _, h => ⟨by simpa [D.dep, toPy] using h, by simp [toPy, PyData.depth]⟩
  | 0, .tup ds, h => by simp [D.dep] at h
  | 0, .lst ds, h => by simp [D.dep] at h
  | n, .ext ds, h => by cases n <;> simp [D.dep] at h
  | n, .obj _ _, h => by cases n <;> simp [D.dep] at h
  | n + 1, .tup ds, h => by
    have all : ∀ ds : List D, ds.all (D.dep n) = true → PyData.canLayAll0 (toPys ds) = true ∧ PyData.depthAll (toPys ds) ≤ n := by
      intro ds
      induction ds with
      | nil => exact fun _ => ⟨rfl, by simp [toPys, PyData.depthAll]⟩
      | cons d ds ih =>
        intro h
        rw [List.all_cons, Bool.and_eq_true] at h
        obtain ⟨h1, h2⟩ := toPy_lay n d h.1
        obtain ⟨h3, h4⟩ := ih h.2
        exact ⟨by simp [toPys, PyData.canLayAll0, h1, h3], by simp [toPys, PyData.depthAll]; omega⟩
    obtain ⟨h1, h2⟩ := all ds (by simpa [D.dep] using h)
    exact ⟨by simpa [toPy, PyData.canLay0] using h1, by simp [toPy, PyData.depth]; omega⟩
  | n + 1, .lst ds, h => by
    have all : ∀ ds : List D, ds.all (D.dep n) = true → PyData.canLayAll0 (toPys ds) = true ∧ PyData.depthAll (toPys ds) ≤ n := by
      intro ds
      induction ds with
      | nil => exact fun _ => ⟨rfl, by simp [toPys, PyData.depthAll]⟩
      | cons d ds ih =>
        intro h
        rw [List.all_cons, Bool.and_eq_true] at h
        obtain ⟨h1, h2⟩ := toPy_lay n d h.1
        obtain ⟨h3, h4⟩ := ih h.2
        exact ⟨by simp [toPys, PyData.canLayAll0, h1, h3], by simp [toPys, PyData.depthAll]; omega⟩
    obtain ⟨h1, h2⟩ := all ds (by simpa [D.dep] using h)
    exact ⟨by simpa [toPy, PyData.canLay0] using h1, by simp [toPy, PyData.depth]; omega⟩
theorem toPys_lay (n : Nat) (ds : List D) (h : ds.all (D.dep n) = true) : PyData.canLayAll0 (toPys ds) = true ∧ PyData.depthAll (toPys ds) ≤ n := by
  induction ds with
  | nil => exact ⟨rfl, by simp [toPys, PyData.depthAll]⟩
  | cons d ds ih =>
    rw [List.all_cons, Bool.and_eq_true] at h
    obtain ⟨h1, h2⟩ := toPy_lay n d h.1
    obtain ⟨h3, h4⟩ := ih h.2
    exact ⟨by simp [toPys, PyData.canLayAll0, h1, h3], by simp [toPys, PyData.depthAll]; omega⟩
theorem toPy_shaped {d : D} (h : D.dep 8 d = true) : SeqAt.shaped (toPy d) = true := by
  obtain ⟨h1, h2⟩ := toPy_lay 8 d h
  unfold SeqAt.shaped
  rw [h1, Bool.true_and]
  exact decide_eq_true (by omega)
theorem toPys_shaped {ds : List D} (h : ds.all (D.dep 7) = true) : SeqAt.shaped (.list (toPys ds)) = true := by
  obtain ⟨h1, h2⟩ := toPys_lay 7 ds h
  unfold SeqAt.shaped
  have h3 : PyData.canLay0 (.list (toPys ds)) = true := by simpa [PyData.canLay0] using h1
  rw [h3, Bool.true_and]
  exact decide_eq_true (by simp [PyData.depth]; omega)
mutual
theorem toPy_eqv : ∀ (n m : Nat) (d e : D), D.dep n d = true → D.dep m e = true → PyData.eqv (toPy d) (toPy e) = D.eqv d e
  | n, m, .ext _, _, h, _ => by cases n <;> simp [D.dep] at h
  | n, m, .obj _ _, _, h, _ => by cases n <;> simp [D.dep] at h
  | n, m, .non, .ext _, _, h => by cases m <;> simp [D.dep] at h
  | n, m, .non, .obj _ _, _, h => by cases m <;> simp [D.dep] at h
  | n, m, .bl _, .ext _, _, h => by cases m <;> simp [D.dep] at h
  | n, m, .bl _, .obj _ _, _, h => by cases m <;> simp [D.dep] at h
  | n, m, .int _, .ext _, _, h => by cases m <;> simp [D.dep] at h
  | n, m, .int _, .obj _ _, _, h => by cases m <;> simp [D.dep] at h
  | n, m, .str _, .ext _, _, h => by cases m <;> simp [D.dep] at h
  | n, m, .str _, .obj _ _, _, h => by cases m <;> simp [D.dep] at h
  | n, m, .tup _, .ext _, _, h => by cases m <;> simp [D.dep] at h
  | n, m, .tup _, .obj _ _, _, h => by cases m <;> simp [D.dep] at h
  | n, m, .lst _, .ext _, _, h => by cases m <;> simp [D.dep] at h
  | n, m, .lst _, .obj _ _, _, h => by cases m <;> simp [D.dep] at h
  | _, _, .non, .non, _, _ => rfl
  | _, _, .non, .bl _, _, _ => rfl
  | _, _, .non, .int _, _, _ => rfl
  | _, _, .non, .str _, _, _ => rfl
  | _, _, .non, .tup _, _, _ => rfl
  | _, _, .non, .lst _, _, _ => rfl
  | _, _, .bl _, .non, _, _ => rfl
  | _, _, .bl _, .bl _, _, _ => rfl
  | _, _, .bl _, .int _, _, _ => rfl
  | _, _, .bl _, .str _, _, _ => rfl
  | _, _, .bl _, .tup _, _, _ => rfl
  | _, _, .bl _, .lst _, _, _ => rfl
  | _, _, .int _, .non, _, _ => rfl
  | _, _, .int _, .bl _, _, _ => rfl
  | _, _, .int _, .int _, _, _ => rfl
  | _, _, .int _, .str _, _, _ => rfl
  | _, _, .int _, .tup _, _, _ => rfl
  | _, _, .int _, .lst _, _, _ => rfl
  | _, _, .str _, .non, _, _ => rfl
  | _, _, .str _, .bl _, _, _ => rfl
  | _, _, .str _, .int _, _, _ => rfl
  | _, _, .str _, .str _, _, _ => rfl
  | _, _, .str _, .tup _, _, _ => rfl
  | _, _, .str _, .lst _, _, _ => rfl
  | _, _, .tup _, .non, _, _ => rfl
  | _, _, .tup _, .bl _, _, _ => rfl
  | _, _, .tup _, .int _, _, _ => rfl
  | _, _, .tup _, .str _, _, _ => rfl
  | _, _, .tup _, .lst _, _, _ => rfl
  | _, _, .lst _, .non, _, _ => rfl
  | _, _, .lst _, .bl _, _, _ => rfl
  | _, _, .lst _, .int _, _, _ => rfl
  | _, _, .lst _, .str _, _, _ => rfl
  | _, _, .lst _, .tup _, _, _ => rfl
  | 0, m, .tup _, .tup _, h, _ => by simp [D.dep] at h
  | 0, m, .lst _, .lst _, h, _ => by simp [D.dep] at h
  | n + 1, 0, .tup _, .tup _, _, h => by simp [D.dep] at h
  | n + 1, 0, .lst _, .lst _, _, h => by simp [D.dep] at h
  | n + 1, m + 1, .tup ds, .tup es, h, h' => by
    have := toPys_eqv n m ds es (by simpa [D.dep] using h) (by simpa [D.dep] using h')
    simpa [toPy, PyData.eqv, D.eqv] using this
  | n + 1, m + 1, .lst ds, .lst es, h, h' => by
    have := toPys_eqv n m ds es (by simpa [D.dep] using h) (by simpa [D.dep] using h')
    simpa [toPy, PyData.eqv, D.eqv] using this
theorem toPys_eqv : ∀ (n m : Nat) (ds es : List D), (∀ x ∈ ds, D.dep n x = true) → (∀ x ∈ es, D.dep m x = true) → PyData.eqvAll (toPys ds) (toPys es) = D.eqvAll ds es
  | _, _, [], [], _, _ => rfl
  | _, _, [], _ :: _, _, _ => rfl
  | _, _, _ :: _, [], _, _ => rfl
  | n, m, d :: ds, e :: es, h, h' => by
    have h1 := toPy_eqv n m d e (h d (by simp)) (h' e (by simp))
    have h2 := toPys_eqv n m ds es (fun x hx => h x (by simp [hx])) (fun x hx => h' x (by simp [hx]))
    simp [toPys, PyData.eqvAll, D.eqvAll, h1, h2]
end
mutual
theorem dp_of {H : Hp} : ∀ (n : Nat) (d : D) (v : V), D.dep n d = true → Rep K H d v → Dp K H v (toPy d)
  | _, .non, _, _, h => by have e : _ = V.non := h; rw [e]; exact .non
  | _, .bl b, _, _, h => by have e : _ = V.bl b := h; rw [e]; exact .bl b
  | _, .int b, _, _, h => by have e : _ = V.int b := h; rw [e]; exact .int b
  | _, .str b, _, _, h => by have e : _ = V.str b := h; rw [e]; exact .str b
  | 0, .tup ds, _, h, _ => by simp [D.dep] at h
  | 0, .lst ds, _, h, _ => by simp [D.dep] at h
  | n, .ext ds, _, h, _ => by cases n <;> simp [D.dep] at h
  | n, .obj _ _, _, h, _ => by cases n <;> simp [D.dep] at h
  | n + 1, .tup ds, _, hd, h => by
    obtain ⟨a, xs, rfl, q, r⟩ := h
    exact .tup q (dps_of n ds xs (by simpa [D.dep] using hd) r)
  | n + 1, .lst ds, _, hd, h => by
    obtain ⟨a, xs, rfl, q, r⟩ := h
    exact .lst (SqL.of q) (dps_of n ds xs (by simpa [D.dep] using hd) r)
theorem dps_of {H : Hp} : ∀ (n : Nat) (ds : List D) (vs : List V), (∀ x ∈ ds, D.dep n x = true) → Reps K H ds vs → DpAll K H vs (toPys ds)
  | _, [], _, _, h => by have e : _ = [] := h; rw [e]; exact .nil
  | n, d :: ds, _, hd, h => by
    obtain ⟨y, ys, rfl, r, t⟩ := h
    exact .cons (dp_of n d y (hd d (by simp)) r) (dps_of n ds ys (fun x hx => hd x (by simp [hx])) t)
end
theorem dpB {H F : Hp} {n : Nat} {d : D} {v : V} (s : Same F H) (hd : D.dep n d = true) (h : RB K H F d v) : Dp K H v (toPy d) := by
  rcases h with h | ⟨ds, a, xs, rfl, rfl, h, r⟩
  · exact dp_of n d v hd (Rep.mono s _ _ h)
  · cases n with
    | zero => simp [D.dep] at hd
    | succ n => exact .lst (SqL.of h) (dps_of n ds xs (by simpa [D.dep] using hd) (Reps.mono s _ _ r))
theorem p_eq : Op2 K (rEqD K) oEq := by
  intro W σ x y v u H F Q s z r1 r2 p
  unfold oEq at p
  split at p
  · rename_i h
    exact ⟨toPy x, toPy y, dpB s h.1 r1, dpB s h.2 r2, toPy_shaped h.1, toPy_shaped h.2, fun z => p _ H F (Step.refl s) z (by rw [toPy_eqv 8 8 x y h.1 h.2]; rfl)⟩
  · exact p.elim
theorem p_ne : Op2 K (rNeD K) oNe := by
  intro W σ x y v u H F Q s z r1 r2 p
  unfold oNe at p
  split at p
  · rename_i h
    exact ⟨toPy x, toPy y, dpB s h.1 r1, dpB s h.2 r2, toPy_shaped h.1, toPy_shaped h.2, fun z => p _ H F (Step.refl s) z (by rw [toPy_eqv 8 8 x y h.1 h.2]; rfl)⟩
  · exact p.elim
def rIsN : R2 := fun x y H Q => y = .non ∧ Q (.bl (decide (x = .non))) H
def rNotNn : R2 := fun x y H Q => y = .non ∧ Q (.bl (!decide (x = .non))) H
theorem rep_non {H F : Hp} {d : D} {v : V} (h : RB K H F d v) : decide (v = V.non) = d.isN := by
  cases d with
  | non => rw [RB.non h]; rfl
  | bl b => rw [RB.bl h]; rfl
  | int b => rw [RB.int h]; rfl
  | str b => rw [RB.str h]; rfl
  | _ =>
    rcases h with h | ⟨ds, a, xs, e, rfl, _⟩
    · first
        | (obtain ⟨a, xs, rfl, _⟩ := h; rfl)
        | (obtain ⟨a, dx, xs, rfl, _⟩ := h; rfl)
    · rfl
theorem p_isN : Op2 K rIsN oIs := by
  intro W σ x y v u H F Q s z r1 r2 p
  cases y with
  | non =>
    refine ⟨r2.non, fun z => ?_⟩
    rw [rep_non r1]
    exact p _ H F (Step.refl s) z rfl
  | _ => exact p.elim
theorem p_notN : Op2 K rNotNn oIsNot := by
  intro W σ x y v u H F Q s z r1 r2 p
  cases y with
  | non =>
    refine ⟨r2.non, fun z => ?_⟩
    rw [rep_non r1]
    exact p _ H F (Step.refl s) z rfl
  | _ => exact p.elim
/-- x in ys -/
def rIn3 (K : PySem.W.Frag) : R2 := fun x y H Q => rInD K x y H Q ∨ rIn K false x y H Q
def rNotIn3 (K : PySem.W.Frag) : R2 := fun x y H Q => rNotInD K x y H Q ∨ rIn K true x y H Q
theorem any_py {n m : Nat} {x : D} (hx : D.dep m x = true) : ∀ {ys : List D}, ys.all (D.dep n) = true → (toPys ys).any (fun z => PyData.eqv z (toPy x)) = ys.any fun y => D.eqv y x
  | [], _ => rfl
  | y :: ys, h => by
    rw [List.all_cons, Bool.and_eq_true] at h
    have ih := any_py hx h.2
    simp [toPys, toPy_eqv n m y x h.1 hx, ih]
theorem flat_dep {d : D} (h : D.flat d = true) : ∃ v, (∀ H F, RB K H F d v ↔ True ∧ RB K H F d v) := ⟨.non, fun _ _ => by simp⟩
theorem flat_v {H F : Hp} {d : D} {v : V} (hf : D.flat d = true) (h : RB K H F d v) : flatV v = true := by
  cases d with
  | non => rw [RB.non h]; rfl
  | bl b => rw [RB.bl h]; rfl
  | int b => rw [RB.int h]; rfl
  | str b => rw [RB.str h]; rfl
  | _ => cases hf
theorem flat_eqv {H F : Hp} {d e : D} {v u : V} (hf : D.flat d = true) (hg : D.flat e = true) (h : RB K H F d v) (h' : RB K H F e u) : eqV v u = D.eqv d e := by
  cases d with
  | non => rw [RB.non h]; cases e with
    | non => rw [RB.non h']; rfl
    | bl b => rw [RB.bl h']; rfl
    | int b => rw [RB.int h']; rfl
    | str b => rw [RB.str h']; rfl
    | _ => cases hg
  | bl b => rw [RB.bl h]; cases e with
    | non => rw [RB.non h']; rfl
    | bl b => rw [RB.bl h']; simp [eqV, D.eqv]
    | int b => rw [RB.int h']; simp [eqV, D.eqv]
    | str b => rw [RB.str h']; rfl
    | _ => cases hg
  | int b => rw [RB.int h]; cases e with
    | non => rw [RB.non h']; rfl
    | bl b => rw [RB.bl h']; simp [eqV, D.eqv]
    | int b => rw [RB.int h']; simp [eqV, D.eqv]
    | str b => rw [RB.str h']; rfl
    | _ => cases hg
  | str b => rw [RB.str h]; cases e with
    | non => rw [RB.non h']; rfl
    | bl b => rw [RB.bl h']; rfl
    | int b => rw [RB.int h']; rfl
    | str b => rw [RB.str h']; simp [eqV, D.eqv]
    | _ => cases hg
  | _ => cases hf
theorem flat_all {H F : Hp} : ∀ {ds : List D} {vs : List V}, ds.all D.flat = true → Reps K F ds vs → vs.all flatV = true
  | [], _, _, h => by have e : _ = [] := h; rw [e]; rfl
  | d :: ds, _, hf, h => by
    obtain ⟨y, ys, rfl, r, t⟩ := h
    rw [List.all_cons, Bool.and_eq_true] at hf
    rw [List.all_cons, flat_v (H := H) hf.1 (.inl r), flat_all (H := H) hf.2 t]
    rfl
theorem flat_in {H F : Hp} {d : D} {v : V} (hf : D.flat d = true) (h : RB K H F d v) : ∀ {ds : List D} {vs : List V}, ds.all D.flat = true → Reps K F ds vs → inV v vs = ds.any fun y => D.eqv y d
  | [], _, _, h => by have e : _ = [] := h; rw [e]; rfl
  | d' :: ds, _, hg, h2 => by
    obtain ⟨y, ys, rfl, r, t⟩ := h2
    rw [List.all_cons, Bool.and_eq_true] at hg
    have ih := flat_in hf h hg.2 t
    unfold inV at ih ⊢
    rw [List.any_cons, List.any_cons, ih, flat_eqv (H := H) hg.1 hf (.inl r) h]
theorem p_in : Op2 K (rIn3 K) oIn := by
  intro W σ x y v u H F Q s z r1 r2 p
  unfold oIn at p
  split at p
  · split at p
    · rename_i ys h
      obtain ⟨l, xs, e1, h1, q1⟩ := r2.lst s
      refine .inl ⟨toPy x, toPys ys, dpB s h.1 r1, ?_, toPy_shaped h.1, toPys_shaped h.2, fun z => ?_⟩
      · rw [e1]
        exact .lst (SqL.of h1) (dps_of 7 ys xs (by simpa using h.2) (Reps.mono s _ _ q1))
      · rw [any_py h.1 h.2]
        exact p _ H F (Step.refl s) z rfl
    · exact p.elim
  · split at p
    · rename_i ys h
      obtain ⟨l, xs, e1, h1, q1⟩ := r2.tup s
      refine .inr ⟨l, xs, e1, .inr h1, flat_v h.1 r1, flat_all (H := H) h.2 q1, fun z => ?_⟩
      rw [if_neg Bool.false_ne_true, flat_in h.1 r1 h.2 q1]
      exact p _ H F (Step.refl s) z rfl
    · exact p.elim
  · exact p.elim
theorem p_notIn : Op2 K (rNotIn3 K) oNotIn := by
  intro W σ x y v u H F Q s z r1 r2 p
  unfold oNotIn at p
  split at p
  · split at p
    · rename_i ys h
      obtain ⟨l, xs, e1, h1, q1⟩ := r2.lst s
      refine .inl ⟨toPy x, toPys ys, dpB s h.1 r1, ?_, toPy_shaped h.1, toPys_shaped h.2, fun z => ?_⟩
      · rw [e1]
        exact .lst (SqL.of h1) (dps_of 7 ys xs (by simpa using h.2) (Reps.mono s _ _ q1))
      · rw [any_py h.1 h.2]
        exact p _ H F (Step.refl s) z rfl
    · exact p.elim
  · split at p
    · rename_i ys h
      obtain ⟨l, xs, e1, h1, q1⟩ := r2.tup s
      refine .inr ⟨l, xs, e1, .inr h1, flat_v h.1 r1, flat_all (H := H) h.2 q1, fun z => ?_⟩
      rw [if_pos rfl, flat_in h.1 r1 h.2 q1]
      exact p _ H F (Step.refl s) z rfl
    · exact p.elim
  · exact p.elim
/-- the comparisons: rule, reading, by name -/
structure Cm (X : Cx) (op : CmpOp) (g : D → D → Res D) : Prop where
  ex : ∃ r, OpR X (compareOp op) r ∧ Op2 X.K r g
theorem c_lt : Cm X .Lt oLt := ⟨_, op_lt, p_lt⟩
theorem c_le : Cm X .LtE oLe := ⟨_, op_le, p_le⟩
theorem c_gt : Cm X .Gt oGt := ⟨_, op_gt, p_gt⟩
theorem c_ge : Cm X .GtE oGe := ⟨_, op_ge, p_ge⟩
theorem c_eq (u : Un X) : Cm X .Eq oEq := ⟨_, op_eqD (by unfold Un at u; omega), p_eq⟩
theorem c_ne (u : Un X) : Cm X .NotEq oNe := ⟨_, op_neD (by unfold Un at u; omega), p_ne⟩
theorem c_is : Cm X .Is oIs := ⟨_, op_isN, p_isN⟩
theorem c_isnot : Cm X .IsNot oIsNot := ⟨_, op_notN, p_notN⟩
theorem c_in (u : Un X) : Cm X .In oIn := ⟨_, OpR.or (op_inD (by unfold Un at u; omega)) op_in_seq, p_in⟩
theorem c_notin (u : Un X) : Cm X .NotIn oNotIn := ⟨_, OpR.or (op_notInD (by unfold Un at u; omega)) op_notIn_seq, p_notIn⟩
theorem d_c {op : CmpOp} {g : D → D → Res D} (h : Cm X op g) (ha : DB X S W a fa) (hb : DB X S W b fb) (hm : behindInMarks op b = false := by first | exact nomark _ | rfl) : DE X S W (.Compare a [op] [b] pos) (e2 g fa fb) :=
  let ⟨_, ho, hg⟩ := h.ex
  d_cmp ho hg ha hb hm
theorem d_cT {op : CmpOp} {g : D → D → Res D} (h : Cm X op g) (ha : DB X S W a fa) (hb : DB X S W b fb) (hm : behindInMarks op b = false := by first | exact nomark _ | rfl) : DT X S W (.Compare a [op] [b] pos) (tVal (e2 g fa fb)) :=
  let ⟨_, ho, hg⟩ := h.ex
  d_cmpT ho hg ha hb hm
end
end Pu

/-! Pu, part E: chains, and/or/not, subscripts, slices, displays, arguments, built-ins by name. -/
namespace Pu
open PySem PySem.Spec PyProof.Rows L2
abbrev DW (X : Cx) (S : Hd) (W : WX) (e : Expr) (f : TV) : Prop := PW X e (tG X.K S W rT f)
section
variable {K : PySem.W.Frag} {X : Cx} {S : Hd} {W : WX} {a b c e : Expr} {fa fb fc f : EV} {ga gb : TV} {pos : Pos} {rest es : List Expr}

theorem d_chain {op op' : CmpOp} {g g' : D → D → Res D} (h : Cm X op g) (h' : Cm X op' g') (ha : DB X S W a fa) (hb : DB X S W b fb) (hc : DB X S W c fc)
    (hm : lastMarks [op, op'] [b, c] = false := by with_unfolding_all rfl) : DE X S W (.Compare a [op, op'] [b, c] pos) (eChain g g' fa fb fc) := by
  obtain ⟨r, ho, hg⟩ := h.ex
  obtain ⟨r', ho', hg'⟩ := h'.ex
  refine peW (pe_chain (opZ ho) (opZ ho') ha hb hc hm) fun σ H Q hq => ?_
  obtain ⟨H0, F0, ρ, F, s, p⟩ := hq
  refine ⟨H0, F0, ρ, F, s, Po.of_bind (R := rE X.K) clR p fun x v H1 F1 t1 z1 r1 p1 => ⟨H0, F0, ρ, F1, s.go t1, Po.of_bind (R := rE X.K) clR p1 fun y u H2 F2 t2 z2 r2 p2 => ?_⟩⟩
  refine hg W σ x y v u H2 F2 _ t2.ok z2 (RB.mono t2 r1) r2 (Po.of_bind (R := rE X.K) clR p2 fun z w H3 F3 t3 z3 r3 p3 => ?_)
  cases z with
  | bl k =>
    refine ⟨k, r3, ?_⟩
    cases k with
    | true =>
      rw [if_pos rfl]
      refine ⟨H0, F0, ρ, F3, ((s.go t1).go t2).go t3, Po.of_bind (R := rE X.K) clR p3 fun x' w' H4 F4 t4 z4 r4 p4 => ?_⟩
      exact hg' W σ y x' u w' H4 F4 _ t4.ok z4 (RB.mono t4 (RB.mono t3 r2)) r4 (p4.imp fun d v' H5 F5 t5 z5 r5 k5 z => k5 v' H5 F5 (Step.refl t5.ok) z r5)
    | false =>
      rw [if_neg Bool.false_ne_true]
      exact fun z => p3 _ H3 F3 (Step.refl t3.ok) z rfl
  | _ => exact p3.elim
theorem d_chainT {op op' : CmpOp} {g g' : D → D → Res D} (h : Cm X op g) (h' : Cm X op' g') (ha : DB X S W a fa) (hb : DB X S W b fb) (hc : DB X S W c fc)
    (hm : lastMarks [op, op'] [b, c] = false := by with_unfolding_all rfl) : DT X S W (.Compare a [op, op'] [b, c] pos) (tVal (eChain g g' fa fb fc)) := by
  obtain ⟨r, ho, hg⟩ := h.ex
  obtain ⟨r', ho', hg'⟩ := h'.ex
  refine ptW (pt_chain (opZ ho) (opZ ho') ha hb hc hm) fun σ H Q hq => ?_
  obtain ⟨H0, F0, ρ, F, s, p⟩ := testOf hq
  refine ⟨H0, F0, ρ, F, s, Po.of_bind (R := rE X.K) clR p fun x v H1 F1 t1 z1 r1 p1 => ⟨H0, F0, ρ, F1, s.go t1, Po.of_bind (R := rE X.K) clR p1 fun y u H2 F2 t2 z2 r2 p2 => ?_⟩⟩
  refine hg W σ x y v u H2 F2 _ t2.ok z2 (RB.mono t2 r1) r2 (Po.of_bind (R := rE X.K) clR p2 fun z w H3 F3 t3 z3 r3 p3 => ?_)
  cases z with
  | bl k =>
    refine ⟨k, r3, ?_⟩
    cases k with
    | true =>
      rw [if_pos rfl]
      refine ⟨H0, F0, ρ, F3, ((s.go t1).go t2).go t3, Po.of_bind (R := rE X.K) clR p3 fun x' w' H4 F4 t4 z4 r4 p4 => ?_⟩
      exact hg' W σ y x' u w' H4 F4 _ t4.ok z4 (RB.mono t4 (RB.mono t3 r2)) r4 (p4.imp fun d v' H5 F5 t5 z5 r5 k5 => let ⟨k', e', q'⟩ := k5 v' H5 F5 (Step.refl t5.ok) z5 r5; ⟨k', e', fun _ => q'⟩)
    | false =>
      rw [if_neg Bool.false_ne_true]
      obtain ⟨k', e', q'⟩ := p3 _ H3 F3 (Step.refl t3.ok) z3 rfl
      exact ⟨k', e', fun _ => q'⟩
  | _ => exact p3.elim

/-! ### and, or, not -/
theorem d_one {op} (h : DE X S W a f) : DE X S W (.BoolOp op [a] pos) f := pe_one h
theorem d_and (ha : DE X S W a fa) (hb : DE X S W (.BoolOp .And (b :: rest) pos) fb) : DE X S W (.BoolOp .And (a :: b :: rest) pos) (eAnd fa fb) := by
  refine peW (pe_and ha hb) fun σ H Q hq => ?_
  obtain ⟨H0, F0, ρ, F, s, p⟩ := hq
  refine ⟨H0, F0, ρ, F, s, Po.of_bind (R := rE X.K) clR p fun x v H1 F1 t1 z1 r1 p1 => ?_⟩
  cases x with
  | bl k =>
    refine ⟨k, r1, ?_⟩
    cases k with
    | true =>
      rw [if_pos rfl]
      exact ⟨H0, F0, ρ, F1, s.go t1, Po.imp (r := fb ρ) (R2 := rE X.K) p1 fun d v' H5 F5 t5 z5 r5 k5 _ => k5 v' H5 F5 (Step.refl t5.ok) z5 r5⟩
    | false =>
      rw [if_neg Bool.false_ne_true]
      exact fun z => p1 _ H1 F1 (Step.refl t1.ok) z rfl
  | _ => exact p1.elim
theorem d_or (ha : DE X S W a fa) (hb : DE X S W (.BoolOp .Or (b :: rest) pos) fb) : DE X S W (.BoolOp .Or (a :: b :: rest) pos) (eOr fa fb) := by
  refine peW (pe_or ha hb) fun σ H Q hq => ?_
  obtain ⟨H0, F0, ρ, F, s, p⟩ := hq
  refine ⟨H0, F0, ρ, F, s, Po.of_bind (R := rE X.K) clR p fun x v H1 F1 t1 z1 r1 p1 => ?_⟩
  cases x with
  | bl k =>
    refine ⟨k, r1, ?_⟩
    cases k with
    | false =>
      rw [if_neg Bool.false_ne_true]
      exact ⟨H0, F0, ρ, F1, s.go t1, Po.imp (r := fb ρ) (R2 := rE X.K) p1 fun d v' H5 F5 t5 z5 r5 k5 _ => k5 v' H5 F5 (Step.refl t5.ok) z5 r5⟩
    | true =>
      rw [if_pos rfl]
      exact fun z => p1 _ H1 F1 (Step.refl t1.ok) z rfl
  | _ => exact p1.elim
theorem d_not (ha : DE X S W a fa) : DE X S W (.UnaryOp .Not a pos) (eNot fa) := by
  refine peW (pe_not ha) fun σ H Q hq => ?_
  obtain ⟨H0, F0, ρ, F, s, p⟩ := hq
  refine ⟨H0, F0, ρ, F, s, Po.of_bind (R := rE X.K) clR p fun x v H1 F1 t1 z1 r1 p1 => ?_⟩
  cases x with
  | bl k => exact ⟨k, r1, fun z => p1 _ H1 F1 (Step.refl t1.ok) z rfl⟩
  | _ => exact p1.elim
theorem t_and1 (h : DT X S W a ga) : DW X S W (.BoolOp .And [a] pos) ga := pw_and1 h
theorem t_or1 (h : DT X S W a ga) : DW X S W (.BoolOp .Or [a] pos) ga := pw_or1 h
theorem t_and (ha : DT X S W a ga) (hb : DW X S W (.BoolOp .And (b :: rest) pos) gb) : DW X S W (.BoolOp .And (a :: b :: rest) pos) (Pu.tAnd ga gb) := by
  refine pwW (pw_and ha hb) fun σ H Q hq => ?_
  obtain ⟨H0, F0, ρ, F, s, p⟩ := hq
  refine ⟨H0, F0, ρ, F, s, Po.of_bind (R := rT) clR p fun x v H1 F1 t1 z1 r1 p1 => ?_⟩
  obtain rfl : v = x := r1
  cases v with
  | true =>
    rw [if_pos rfl]
    exact ⟨H0, F0, ρ, F1, s.go t1, Po.imp (r := gb ρ) (R2 := rT) p1 fun d v' H5 F5 t5 z5 r5 k5 _ => k5 v' H5 F5 (Step.refl t5.ok) z5 r5⟩
  | false =>
    rw [if_neg Bool.false_ne_true]
    exact fun z => p1 _ H1 F1 (Step.refl t1.ok) z rfl
theorem t_or (ha : DT X S W a ga) (hb : DW X S W (.BoolOp .Or (b :: rest) pos) gb) : DW X S W (.BoolOp .Or (a :: b :: rest) pos) (Pu.tOr ga gb) := by
  refine pwW (pw_or ha hb) fun σ H Q hq => ?_
  obtain ⟨H0, F0, ρ, F, s, p⟩ := hq
  refine ⟨H0, F0, ρ, F, s, Po.of_bind (R := rT) clR p fun x v H1 F1 t1 z1 r1 p1 => ?_⟩
  obtain rfl : v = x := r1
  cases v with
  | false =>
    rw [if_neg Bool.false_ne_true]
    exact ⟨H0, F0, ρ, F1, s.go t1, Po.imp (r := gb ρ) (R2 := rT) p1 fun d v' H5 F5 t5 z5 r5 k5 _ => k5 v' H5 F5 (Step.refl t5.ok) z5 r5⟩
  | true =>
    rw [if_pos rfl]
    exact fun z => p1 _ H1 F1 (Step.refl t1.ok) z rfl
theorem t_w (h : DW X S W e ga) : DT X S W e ga := h.pt
theorem t_not (ha : DT X S W a ga) : DT X S W (.UnaryOp .Not a pos) (Pu.tNot ga) := by
  refine ptW (pt_not ha) fun σ H Q hq => ?_
  obtain ⟨H0, F0, ρ, F, s, p⟩ := hq
  refine ⟨H0, F0, ρ, F, s, Po.of_bind (R := rT) clR p fun x v H1 F1 t1 z1 r1 p1 => ?_⟩
  obtain rfl : v = x := r1
  exact fun z => p1 _ H1 F1 (Step.refl t1.ok) z rfl
theorem d_if (hc : DT X S W c ga) (ha : DE X S W a fa) (hb : DE X S W b fb) : DE X S W (.IfExp c a b pos) (eIf ga fa fb) := by
  refine peW (pe_ifExp hc ha hb) fun σ H Q hq => ?_
  obtain ⟨H0, F0, ρ, F, s, p⟩ := hq
  refine ⟨H0, F0, ρ, F, s, Po.of_bind (R := rE X.K) clR p fun x v H1 F1 t1 z1 r1 p1 => ?_⟩
  obtain rfl : v = x := r1
  cases v with
  | false =>
    rw [if_neg Bool.false_ne_true]
    exact ⟨H0, F0, ρ, F1, s.go t1, Po.imp (r := fb ρ) (R2 := rE X.K) p1 fun d v' H5 F5 t5 z5 r5 k5 _ => k5 v' H5 F5 (Step.refl t5.ok) z5 r5⟩
  | true =>
    rw [if_pos rfl]
    exact ⟨H0, F0, ρ, F1, s.go t1, Po.imp (r := fa ρ) (R2 := rE X.K) p1 fun d v' H5 F5 t5 z5 r5 k5 _ => k5 v' H5 F5 (Step.refl t5.ok) z5 r5⟩
/-- by truth -/
theorem d_truth (ha : DB X S W a fa) (he : ∀ whole, isTrue a X.env whole = (do let v ← whole; standAt a.pos; holding [v] (truthy v)) := by intro _; rfl) : DT X S W a (tTruth fa) := by
  refine ptW (pt_truth ha he) fun σ H Q hq => ?_
  obtain ⟨H0, F0, ρ, F, s, p⟩ := hq
  refine ⟨H0, F0, ρ, F, s, Po.of_bind (R := rT) clR p fun x v H1 F1 t1 z1 r1 p1 => ?_⟩
  have emp : ∀ {ds : List D} {xs : List V}, Reps X.K F1 ds xs → (!ds.isEmpty) = !xs.isEmpty := fun {ds xs} r => by
    have := r.length
    cases ds <;> cases xs <;> simp_all
  cases x with
  | non => exact ⟨false, by rw [RB.non r1]; rfl, fun z => p1 _ H1 F1 (Step.refl t1.ok) z rfl⟩
  | bl k => exact ⟨k, by rw [RB.bl r1]; rfl, fun z => p1 _ H1 F1 (Step.refl t1.ok) z rfl⟩
  | int k => exact ⟨k != 0, by rw [RB.int r1]; rfl, fun z => p1 _ H1 F1 (Step.refl t1.ok) z rfl⟩
  | lst ds =>
    obtain ⟨l, xs, rfl, h1, q1⟩ := RB.lst t1.ok r1
    exact ⟨!ds.isEmpty, .inl ⟨xs, SqL.of h1, emp q1⟩, fun z => p1 _ H1 F1 (Step.refl t1.ok) z rfl⟩
  | tup ds =>
    obtain ⟨l, xs, rfl, h1, q1⟩ := RB.tup t1.ok r1
    exact ⟨!ds.isEmpty, .inr (.inl ⟨xs, h1, emp q1⟩), fun z => p1 _ H1 F1 (Step.refl t1.ok) z rfl⟩
  | _ => exact p1.elim

/-! ### subscripts -/
theorem ixZ {r : R2} (h : IxR X r) : IxR X (rZ X.K r) := fun value slice pins s σ H x y v u Q I rx ry q hs =>
  thn (h value slice pins s σ H x y v u _ I rx ry q hs) fun w s' ⟨z, H', I', r', q'⟩ => ⟨z, H', I', r', q' (hsz I')⟩
theorem atI_eq {α : Type} (xs : List α) (i : Int) : Pu.atI xs i = L2.atI xs i := rfl
theorem Reps.atI {H : Hp} {ds : List D} {vs : List V} (h : Reps K H ds vs) {i : Int} {d : D} (e : Pu.atI ds i = some d) : ∃ v, L2.atI vs i = some v ∧ Rep K H d v := by
  unfold Pu.atI at e
  cases q : Pu.ixN ds.length i with
  | none => rw [q] at e; cases e
  | some j =>
    rw [q] at e
    obtain ⟨v, hv, r⟩ := h.get (i := j) (d := d) e
    refine ⟨v, ?_, r⟩
    show (L2.ixN vs.length i).bind _ = _
    rw [h.length]
    have q' : L2.ixN ds.length i = some j := q
    rw [q']
    exact hv
theorem d_ix (ha : DB X S W a fa) (hb : DB X S W b fb) (hs : PlainIx b := by exact fun _ _ => rfl) : DE X S W (.Subscript a b pos) (e2 oIx fa fb) := by
  have h := pe_ix (pos := pos) (ixZ (IxR.or ix_list ix_tup)) ha hb hs
  refine ⟨fun pins s σ H Q I q => h.run pins s σ H Q I (tOp_of (fun W σ x y v u H F Q s z r1 r2 p => ?_) q)⟩
  unfold oIx at p
  have fin : ∀ {xs : List D} {vs : List V} {i : Int}, Reps X.K F xs vs → Po X.K W σ H F (rE X.K) (optR (Pu.atI xs i)) Q → ∃ w, L2.atI vs i = some w ∧ (HSz X.K H → Q w H) := fun {xs vs i} q p => by
    cases e : Pu.atI xs i with
    | none => rw [e] at p; exact p.elim
    | some d =>
      rw [e] at p
      obtain ⟨w, hw, r⟩ := q.atI e
      exact ⟨w, hw, fun z => p w H F (Step.refl s) z r⟩
  split at p
  · obtain ⟨l, xs, e1, h1, q1⟩ := r1.lst s
    obtain ⟨w, hw, k⟩ := fin q1 p
    exact .inl ⟨l, xs, _, w, e1, r2.int, SqL.of h1, hw, k⟩
  · obtain ⟨l, xs, e1, h1, q1⟩ := r1.tup s
    obtain ⟨w, hw, k⟩ := fin q1 p
    exact .inr ⟨l, xs, _, w, e1, r2.int, h1, hw, k⟩
  · obtain ⟨l, xs, e1, h1, q1⟩ := r1.ext s
    obtain ⟨w, hw, k⟩ := fin q1 p
    exact .inl ⟨l, xs, _, w, e1, r2.int, h1, hw, k⟩
  · exact p.elim

/-! ### slices -/
theorem poW {e : Option Expr} {t t' : TO} (h : PO X e t) (k : ∀ σ H Q, t' σ H Q → t σ H fun v H' => HSz X.K H' → Q v H') : PO X e t' :=
  ⟨fun pins s σ H Q I q => thn (h.run pins s σ H _ I (k σ H Q q)) fun u s' ⟨v, H', I', r, q'⟩ => ⟨v, H', I', r, q' (hsz I')⟩⟩
theorem o_none : DO X S W none pNone := by
  refine poW po_none fun σ H Q hq => ?_
  obtain ⟨H0, F0, ρ, F, s, p⟩ := hq
  exact fun z => p _ H F (Step.refl s.same) z rfl
theorem o_some (ha : DE X S W a fa) : DO X S W (some a) (pSome fa) := by
  refine poW (po_some ha) fun σ H Q hq => ?_
  obtain ⟨H0, F0, ρ, F, s, p⟩ := hq
  refine ⟨H0, F0, ρ, F, s, Po.of_bind (R := rO) clR p fun x v H1 F1 t1 z1 r1 p1 => ?_⟩
  cases x with
  | int i => exact ⟨i, r1, fun z => p1 _ H1 F1 (Step.refl t1.ok) z rfl⟩
  | _ => exact p1.elim
theorem slZ {r : V → Option Int → Option Int → Hp → VK → Prop} (h : SlR X r) : SlR X (fun x lo hi H Q => r x lo hi H fun v H' => HSz X.K H' → Q v H') := fun pins s σ H x v vl vu lo hi sl Q I rx hs pl pu q => by
  obtain ⟨T, id, h1, h2, h3⟩ := h pins s σ H x v vl vu lo hi sl _ I rx hs pl pu q
  exact ⟨T, id, h1, h2, thn h3 fun w s' ⟨z, H', I', r', q'⟩ => ⟨z, H', I', r', q' (hsz I')⟩⟩
theorem sIx_eq (n d : Nat) (hd : d ≤ n) (o : Option Int) : Pu.sIx n d o = HT.sIx n d o := by
  cases o with
  | none => rfl
  | some v =>
    have h := HT.clip_eq v n d
    have e : HT.sIx n d (some v) = (if v < 0 then max (v + (n : Int)) 0 else min v (n : Int)).toNat := by rw [h]; rfl
    rw [e]
    show (if v < 0 then (v + n).toNat else min v.toNat n) = _
    split <;> omega
theorem Reps.cut {H : Hp} {ds : List D} {vs : List V} (h : Reps K H ds vs) (lo hi : Option Int) : Reps K H (Pu.cut ds lo hi) (cutV vs lo hi) := by
  unfold Pu.cut cutV
  rw [h.length, sIx_eq _ _ (Nat.zero_le _), sIx_eq _ _ (Nat.le_refl _)]
  exact (h.drop _).take _
theorem d_sl {lo hi : Option Expr} {fl fh : Env → Res (Option Int)} {p2 : Pos} (ha : DB X S W a fa) (hl : DO X S W lo fl) (hh : DO X S W hi fh) : DE X S W (.Subscript a (.Slice lo hi none p2) pos) (eSlice fa fl fh) := by
  refine peW (pe_slice (slZ (SlR.or sl_list sl_tupA)) ha hl hh) fun σ H Q hq => ?_
  obtain ⟨H0, F0, ρ, F, s, p⟩ := hq
  refine ⟨H0, F0, ρ, F, s, Po.of_bind (R := rE X.K) clR p fun x v H1 F1 t1 z1 r1 p1 => ⟨H0, F0, ρ, F1, s.go t1, Po.of_bind (R := rE X.K) clR p1 fun l l' H2 F2 t2 z2 r2 p2 =>
    ⟨H0, F0, ρ, F2, (s.go t1).go t2, Po.of_bind (R := rE X.K) clR p2 fun h h' H3 F3 t3 z3 r3 p3 => ?_⟩⟩⟩
  obtain rfl : l' = l := r2
  obtain rfl : h' = h := r3
  have r1' := RB.mono t3 (RB.mono t2 r1)
  cases x with
  | lst ds =>
    obtain ⟨a', xs, rfl, h1, q1⟩ := RB.lst t3.ok r1'
    refine .inl ⟨a', xs, rfl, SqL.of h1, fun c hc => ?_⟩
    have t := Step.laid (o := .lst (cutV xs l' h')) t3.ok hc
    exact fun _ z' => p3 _ _ _ t z' ⟨c, _, rfl, upd_same, Reps.mono t.le _ _ (q1.cut _ _)⟩
  | tup ds =>
    have r1'' : Rep X.K F3 (.tup ds) v := by
      rcases r1' with r | ⟨_, _, _, e, _⟩
      · exact r
      · cases e
    obtain ⟨a', xs, rfl, h1, q1⟩ := RB.tup t3.ok r1'
    refine .inr ⟨a', xs, rfl, h1, fun hw => ?_, fun _ c hc => ?_⟩
    · have e : Pu.cut ds l' h' = ds := by
        unfold Pu.cut
        rw [sIx_eq _ _ (Nat.zero_le _), sIx_eq _ _ (Nat.le_refl _), ← q1.length, hw.1, hw.2]
        simp [q1.length]
      exact fun _ z' => p3 _ H3 F3 (Step.refl t3.ok) z' (by rw [e]; exact r1'')
    · have t := Step.laid (o := .tup (cutV xs l' h')) t3.ok hc
      exact fun _ z' => p3 _ _ _ t z' ⟨c, _, rfl, .of upd_same, Reps.mono t.le _ _ (q1.cut _ _)⟩
  | _ => exact p3.elim

/-! ### arguments, displays -/
theorem a_nil : DA X S W [] 0 aNil := by
  refine paW pa_nil fun σ H Q hq => ?_
  obtain ⟨H0, F0, ρ, F, s, p⟩ := hq
  exact fun z => p _ H F (Step.refl s.same) z ⟨Reps.nil, rfl⟩
theorem a_cons {n : Nat} {fr : AV} (ha : DE X S W e f) (hr : DA X S W es n fr) (hs : starEach (e :: es) X.env = (false, eval e X.env) :: starEach es X.env := by rfl) : DA X S W (e :: es) (n + 1) (aCons f fr) := by
  refine paW (pa_cons ha hr hs) fun σ H Q hq => ?_
  obtain ⟨H0, F0, ρ, F, s, p⟩ := hq
  refine ⟨H0, F0, ρ, F, s, Po.of_bind (R := rA X.K (n + 1)) clR p fun x v H1 F1 t1 z1 r1 p1 => ⟨H0, F0, ρ, F1, s.go t1, Po.of_bind (R := rA X.K (n + 1)) clR p1 fun xs vs H2 F2 t2 z2 r2 p2 => ?_⟩⟩
  exact fun z => p2 _ H2 F2 (Step.refl t2.ok) z ⟨Reps.cons (Rep.mono t2.le _ _ r1) r2.1, by rw [List.length_cons, r2.2]⟩
theorem ab_nil : DAB X S W [] 0 aNil := by
  refine paW pa_nil fun σ H Q hq => ?_
  obtain ⟨H0, F0, ρ, F, s, p⟩ := hq
  exact fun z => p _ H F (Step.refl s.same) z ⟨rfl, rfl⟩
theorem ab_cons {n : Nat} {fr : AV} (ha : DB X S W e f) (hr : DAB X S W es n fr) (hs : starEach (e :: es) X.env = (false, eval e X.env) :: starEach es X.env := by rfl) : DAB X S W (e :: es) (n + 1) (aCons f fr) := by
  refine paW (pa_cons ha hr hs) fun σ H Q hq => ?_
  obtain ⟨H0, F0, ρ, F, s, p⟩ := hq
  refine ⟨H0, F0, ρ, F, s, Po.of_bind (R := rAB X.K (n + 1)) clR p fun x v H1 F1 t1 z1 r1 p1 => ⟨H0, F0, ρ, F1, s.go t1, Po.of_bind (R := rAB X.K (n + 1)) clR p1 fun xs vs H2 F2 t2 z2 r2 p2 => ?_⟩⟩
  exact fun z => p2 _ H2 F2 (Step.refl t2.ok) z ⟨⟨v, vs, rfl, RB.mono t2 r1, r2.1⟩, by rw [List.length_cons, r2.2]⟩
theorem d_tup {n : Nat} {fr : AV} {x1} (h : DA X S W es n fr) (hn : n ≤ sizeLine := by decide) : DE X S W (.Tuple es x1 pos) (eTup fr) := by
  refine peW (pe_tup h) fun σ H Q hq => ?_
  obtain ⟨H0, F0, ρ, F, s, p⟩ := hq
  refine ⟨H0, F0, ρ, F, s, Po.of_bind (R := rE X.K) clR p fun xs vs H1 F1 t1 z1 r1 p1 => ⟨by rw [r1.2]; exact hn, fun c hc => ?_⟩⟩
  have t := Step.laid (o := .tup vs) t1.ok hc
  exact fun z' => p1 _ _ _ t z' ⟨c, _, rfl, .of upd_same, Reps.mono t.le _ _ r1.1⟩
theorem l_lst {n : Nat} {fr : AV} (h : DA X S W es n fr) (hn : n ≤ sizeLine := by decide) : DL X S W (.List es pos) fr := by
  refine peW (pe_lst h) fun σ H Q hq => ?_
  obtain ⟨H0, F0, ρ, F, s, p⟩ := hq
  refine ⟨H0, F0, ρ, F, s, Po.imp p fun xs vs H1 F1 t1 z1 r1 k1 => ⟨by rw [r1.2]; exact hn, fun c hc => ?_⟩⟩
  have t := Step.beside (o := .lst vs) t1.ok hc
  exact fun z' => k1 _ _ _ t z' ⟨c, _, rfl, t1.same.free hc, t1.ok.free hc, upd_same, r1.1⟩
theorem d_lst {n : Nat} {fr : AV} (h : DA X S W es n fr) (hn : n ≤ sizeLine := by decide) : DE X S W (.List es pos) (eL fr) := d_lstE (l_lst h hn)

/-! ### built-ins on one or two values -/
/-- a built-in, by name and rule, does what g says of one value -/
structure B1 (X : Cx) (x : Str) (g : D → Res D) : Prop where
  ex : ∃ u r, bootBuiltins x = some u ∧ (((∃ id, u = .builtin id) ∨ ∃ T, u = .type T) ∧ CallR X u r) ∧ Op1 X.K (fun v H Q => r [v] H Q) g
theorem crZ {u : Value} {r : List V → Hp → VK → Prop} (h : CallR X u r) : CallR X u (fun xs H Q => r xs H fun v H' => HSz X.K H' → Q v H') := fun pins s σ H xs us Q I rs q =>
  thn (h pins s σ H xs us _ I rs q) fun w s' ⟨z, H', I', r', q'⟩ => ⟨z, H', I', r', q' (hsz I')⟩
theorem d_b1 {x : Str} {g : D → Res D} {q : Pos} (h : B1 X x g) (hg : Gl X x) (hm : X.mg x = none) (ha : DB X S W a fa) (hn : x ≠ "__name__" := by decide) (hdb : (x == ("__debug__" : Str)) = false := by decide)
    (he : starEach [a] X.env = (false, eval a X.env) :: starEach [] X.env := by rfl) : DE X S W (.Call (.Name x q) [a] [] pos) (e1 g fa) := by
  obtain ⟨u, r, hv, ⟨hk, hr⟩, ho⟩ := h.ex
  have go : ∀ σ H Q, tG X.K S W (rE X.K) (e1 g fa) σ H Q → tCB (fun xs H Q => r xs H fun v H' => HSz X.K H' → Q v H') (tCons (tG X.K S W (rB X.K) fa) tNil) σ H Q := fun σ H Q hq => by
    obtain ⟨H0, F0, ρ, F, s, p⟩ := hq
    exact ⟨H0, F0, ρ, F, s, Po.of_bind (R := rE X.K) clR p fun x v H1 F1 t1 z1 r1 p1 => ho W σ x v H1 F1 Q t1.ok z1 r1 p1⟩
  rcases hk with ⟨id, rfl⟩ | ⟨T, rfl⟩
  · have h := pe_callB (p := q) (pos := pos) (crZ hr) hg hm hv (pa_cons ha pa_nil he) hn hdb he rfl
    exact ⟨fun pins s σ H Q I q => h.run pins s σ H Q I (go σ H Q q)⟩
  · have h := pe_callTy (p := q) (pos := pos) (crZ hr) hg hm hv (pa_cons ha pa_nil he) hn hdb he rfl
    exact ⟨fun pins s σ H Q I q => h.run pins s σ H Q I (go σ H Q q)⟩
structure B2 (X : Cx) (x : Str) (g : D → D → Res D) : Prop where
  ex : ∃ u r, bootBuiltins x = some u ∧ (((∃ id, u = .builtin id) ∨ ∃ T, u = .type T) ∧ CallR X u r) ∧ Op2 X.K (fun v w H Q => r [v, w] H Q) g
theorem d_b2 {x : Str} {g : D → D → Res D} {q : Pos} (h : B2 X x g) (hg : Gl X x) (hm : X.mg x = none) (ha : DB X S W a fa) (hb : DB X S W b fb) (hn : x ≠ "__name__" := by decide) (hdb : (x == ("__debug__" : Str)) = false := by decide)
    (he : starEach [a, b] X.env = (false, eval a X.env) :: starEach [b] X.env := by rfl) (he2 : starEach [b] X.env = (false, eval b X.env) :: starEach [] X.env := by rfl) : DE X S W (.Call (.Name x q) [a, b] [] pos) (e2 g fa fb) := by
  obtain ⟨u, r, hv, ⟨hk, hr⟩, ho⟩ := h.ex
  have go : ∀ σ H Q, tG X.K S W (rE X.K) (e2 g fa fb) σ H Q → tCB (fun xs H Q => r xs H fun v H' => HSz X.K H' → Q v H') (tCons (tG X.K S W (rB X.K) fa) (tCons (tG X.K S W (rB X.K) fb) tNil)) σ H Q := fun σ H Q hq =>
    tOp_of (r := fun v w H Q => r [v, w] H Q) ho hq
  have hp : (backTo pos (starEach [b] X.env)).any (·.1) = false := by rw [he2]; rfl
  rcases hk with ⟨id, rfl⟩ | ⟨T, rfl⟩
  · have h := pe_callB (p := q) (pos := pos) (crZ hr) hg hm hv (pa_cons ha (pa_cons hb pa_nil he2) he) hn hdb he hp
    exact ⟨fun pins s σ H Q I q => h.run pins s σ H Q I (go σ H Q q)⟩
  · have h := pe_callTy (p := q) (pos := pos) (crZ hr) hg hm hv (pa_cons ha (pa_cons hb pa_nil he2) he) hn hdb he hp
    exact ⟨fun pins s σ H Q I q => h.run pins s σ H Q I (go σ H Q q)⟩
end
end Pu

/-! Pu, part F: len, list, tuple, sum, all, int, min, max, sorted, isinstance; new lists. -/
namespace Pu
open PySem PySem.Spec PyProof.Rows L2
section
variable {K : PySem.W.Frag} {X : Cx} {S : Hd} {W : WX} {a b c e : Expr} {fa fb fc f : EV} {ga gb : TV} {pos : Pos} {rest es : List Expr}
theorem b_len : B1 X "len" bLen := by
  refine ⟨_, _, PySem.boot_len, ⟨.inl ⟨_, rfl⟩, call_len_seq⟩, fun W σ x v H F Q s z r p => ?_⟩
  cases x with
  | lst ds =>
    obtain ⟨l, xs, rfl, h1, q1⟩ := r.lst s
    exact ⟨l, xs, rfl, .inl (SqL.of h1), fun z => p _ H F (Step.refl s) z (by rw [q1.length]; rfl)⟩
  | tup ds =>
    obtain ⟨l, xs, rfl, h1, q1⟩ := r.tup s
    exact ⟨l, xs, rfl, .inr h1, fun z => p _ H F (Step.refl s) z (by rw [q1.length]; rfl)⟩
  | ext ds =>
    obtain ⟨l, xs, rfl, h1, q1⟩ := r.ext s
    exact ⟨l, xs, rfl, .inl h1, fun z => p _ H F (Step.refl s) z (by rw [q1.length]; rfl)⟩
  | _ => exact p.elim
theorem b_list : B1 X "list" bList := by
  refine ⟨_, _, by decide +kernel, ⟨.inr ⟨_, rfl⟩, call_list_of⟩, fun W σ x v H F Q s z r p => ?_⟩
  cases x with
  | lst ds =>
    obtain ⟨l, xs, rfl, h1, q1⟩ := r.lst s
    refine ⟨l, xs, rfl, .inl (SqL.of h1), fun c hc => ?_⟩
    have t := Step.laid (o := .lst xs) s hc
    exact fun z => p _ _ _ t z ⟨c, _, rfl, upd_same, Reps.mono t.le _ _ q1⟩
  | tup ds =>
    obtain ⟨l, xs, rfl, h1, q1⟩ := r.tup s
    refine ⟨l, xs, rfl, .inr h1, fun c hc => ?_⟩
    have t := Step.laid (o := .lst xs) s hc
    exact fun z => p _ _ _ t z ⟨c, _, rfl, upd_same, Reps.mono t.le _ _ q1⟩
  | _ => exact p.elim
theorem b_tuple : B1 X "tuple" bTuple := by
  refine ⟨_, _, by decide +kernel, ⟨.inr ⟨_, rfl⟩, call_tuple_of⟩, fun W σ x v H F Q s z r p => ?_⟩
  cases x with
  | lst ds =>
    obtain ⟨l, xs, rfl, h1, q1⟩ := r.lst s
    refine ⟨l, xs, rfl, .inl ⟨SqL.of h1, fun c hc => ?_⟩⟩
    have t := Step.laid (o := .tup xs) s hc
    exact fun z => p _ _ _ t z ⟨c, _, rfl, .of upd_same, Reps.mono t.le _ _ q1⟩
  | tup ds =>
    have r' : Rep X.K F (.tup ds) v := by
      rcases r with r | ⟨_, _, _, e, _⟩
      · exact r
      · cases e
    obtain ⟨l, xs, rfl, h1, q1⟩ := r.tup s
    exact ⟨l, xs, rfl, .inr ⟨h1, fun z => p _ H F (Step.refl s) z r'⟩⟩
  | _ => exact p.elim
theorem ints_reps {F : Hp} : ∀ {ds : List D} {ns : List Int} {vs : List V}, ints? ds = some ns → Reps K F ds vs → vs = ns.map V.int
  | [], ns, vs, e, h => by
    have e1 : vs = [] := h
    have e2 : ns = [] := by simpa [ints?] using e.symm
    rw [e1, e2]
    rfl
  | d :: ds, ns, vs, e, h => by
    obtain ⟨y, ys, rfl, r, t⟩ := h
    cases d with
    | int i =>
      simp only [ints?, Option.map_eq_some_iff] at e
      obtain ⟨ms, e1, rfl⟩ := e
      rw [ints_reps e1 t]
      have e2 : y = .int i := r
      rw [e2]
      rfl
    | _ => cases e
theorem bools_reps {F : Hp} : ∀ {ds : List D} {ns : List Bool} {vs : List V}, bools? ds = some ns → Reps K F ds vs → vs = ns.map V.bl
  | [], ns, vs, e, h => by
    have e1 : vs = [] := h
    have e2 : ns = [] := by simpa [bools?] using e.symm
    rw [e1, e2]
    rfl
  | d :: ds, ns, vs, e, h => by
    obtain ⟨y, ys, rfl, r, t⟩ := h
    cases d with
    | bl i =>
      simp only [bools?, Option.map_eq_some_iff] at e
      obtain ⟨ms, e1, rfl⟩ := e
      rw [bools_reps e1 t]
      have e2 : y = .bl i := r
      rw [e2]
      rfl
    | _ => cases e
theorem reps_ints {F : Hp} : ∀ ns : List Int, Reps K F (ns.map D.int) (ns.map V.int)
  | [] => rfl
  | n :: ns => ⟨_, _, rfl, rfl, reps_ints ns⟩
theorem b_sum (hc : X.calm = true := by rfl) : B1 X "sum" bSum := by
  refine ⟨_, _, by decide +kernel, ⟨.inl ⟨_, rfl⟩, cr_sum hc⟩, fun W σ x v H F Q s z r p => ?_⟩
  cases x with
  | lst ds =>
    obtain ⟨l, xs, rfl, h1, q1⟩ := r.lst s
    unfold bSum at p
    cases e : ints? ds with
    | some ns =>
      simp only [e] at p
      exact ⟨l, ns, rfl, by rw [← ints_reps e q1]; exact SqL.of h1, fun z => p _ H F (Step.refl s) z rfl⟩
    | none =>
      simp only [e] at p
      exact p.elim
  | _ => exact p.elim
theorem b_all (hc : X.calm = true := by rfl) : B1 X "all" bAll := by
  refine ⟨_, _, by decide +kernel, ⟨.inl ⟨_, rfl⟩, cr_all hc⟩, fun W σ x v H F Q s z r p => ?_⟩
  cases x with
  | lst ds =>
    obtain ⟨l, xs, rfl, h1, q1⟩ := r.lst s
    unfold bAll at p
    cases e : bools? ds with
    | some ns =>
      simp only [e] at p
      exact ⟨l, ns, rfl, by rw [← bools_reps e q1]; exact SqL.of h1, fun z => p _ H F (Step.refl s) z rfl⟩
    | none =>
      simp only [e] at p
      exact p.elim
  | _ => exact p.elim
theorem b_int : B1 X "int" bInt := by
  refine ⟨_, _, by decide +kernel, ⟨.inr ⟨_, rfl⟩, call_int1⟩, fun W σ x v H F Q s z r p => ?_⟩
  cases x with
  | int i => exact .inl ⟨i, by rw [r.int], fun z => p _ H F (Step.refl s) z rfl⟩
  | bl i => exact .inr ⟨i, by rw [r.bl], fun z => p _ H F (Step.refl s) z rfl⟩
  | _ => exact p.elim
theorem b_max2 (hc : X.calm = true := by rfl) : B2 X "max" bMax2 := by
  refine ⟨_, _, by decide +kernel, ⟨.inl ⟨_, rfl⟩, call_max2 hc⟩, fun W σ x y v u H F Q s z r r2 p => ?_⟩
  unfold bMax2 at p
  split at p
  · exact ⟨_, _, by rw [r.int, r2.int], fun z => p _ H F (Step.refl s) z rfl⟩
  · exact p.elim
theorem b_min2 (hc : X.calm = true := by rfl) : B2 X "min" bMin2 := by
  refine ⟨_, _, by decide +kernel, ⟨.inl ⟨_, rfl⟩, call_min2 hc⟩, fun W σ x y v u H F Q s z r r2 p => ?_⟩
  unfold bMin2 at p
  split at p
  · exact ⟨_, _, by rw [r.int, r2.int], fun z => p _ H F (Step.refl s) z rfl⟩
  · exact p.elim
/-! ### sorted of ints -/
theorem insI_perm (x : Int) : ∀ l : List Int, (insI x l).Perm (x :: l)
  | [] => List.Perm.refl _
  | y :: l => by
    unfold insI
    split
    · exact List.Perm.refl _
    · exact ((insI_perm x l).cons y).trans (List.Perm.swap x y l)
theorem sortI_perm : ∀ l : List Int, (sortI l).Perm l
  | [] => List.Perm.refl _
  | x :: l => (insI_perm x _).trans ((sortI_perm l).cons x)
theorem insI_sorted (x : Int) : ∀ l : List Int, l.Pairwise (· ≤ ·) → (insI x l).Pairwise (· ≤ ·)
  | [], _ => by simp [insI]
  | y :: l, h => by
    unfold insI
    rw [List.pairwise_cons] at h
    split
    · rename_i hxy
      rw [List.pairwise_cons, List.pairwise_cons]
      refine ⟨fun z hz => ?_, h⟩
      rcases List.mem_cons.mp hz with rfl | hz
      · exact hxy
      · have := h.1 z hz
        omega
    · rename_i hxy
      rw [List.pairwise_cons]
      refine ⟨fun z hz => ?_, insI_sorted x l h.2⟩
      rcases List.mem_cons.mp ((insI_perm x l).mem_iff.mp hz) with rfl | hz
      · omega
      · exact h.1 z hz
theorem sortI_sorted : ∀ l : List Int, (sortI l).Pairwise (· ≤ ·)
  | [] => List.Pairwise.nil
  | x :: l => insI_sorted x _ (sortI_sorted l)
theorem sorted_same {l m : List Int} (p : l.Perm m) (h : l.Pairwise (· ≤ ·)) (h' : m.Pairwise (· ≤ ·)) : l = m :=
  List.Perm.eq_of_pairwise (fun a b _ _ h1 h2 => Int.le_antisymm h1 h2) h h' p
theorem b_sortedI : B1 X "sorted" bSortedI := by
  refine ⟨_, _, by decide +kernel, ⟨.inl ⟨_, rfl⟩, cr_sortedI⟩, fun W σ x v H F Q s z r p => ?_⟩
  cases x with
  | lst ds =>
    obtain ⟨l, xs, rfl, h1, q1⟩ := r.lst s
    simp only [bSortedI] at p
    cases e : ints? ds with
    | some ns =>
      simp only [e] at p
      refine ⟨l, ns, rfl, by rw [← ints_reps e q1]; exact SqL.of h1, fun ns' c hp hs hc => ?_⟩
      have e2 : ns' = sortI ns := sorted_same (hp.trans (sortI_perm ns).symm) hs (sortI_sorted ns)
      subst e2
      have t := Step.laid (o := .lst ((sortI ns).map V.int)) s hc
      exact fun z => p _ _ _ t z ⟨c, _, rfl, upd_same, reps_ints _⟩
    | none =>
      simp only [e] at p
      exact p.elim
  | _ => exact p.elim

/-! ### isinstance(x, int), (x, bool), (x, tuple) -/
def tyN : D → Option String
  | .non => some "NoneType"
  | .bl _ => some "bool"
  | .int _ => some "int"
  | .str _ => some "str"
  | .tup _ => some "tuple"
  | .lst _ => some "list"
  | _ => none
theorem tyX_of {H F : Hp} {d : D} {v : V} {n : String} (s : Same F H) (h : RB K H F d v) (e : tyN d = some n) : TyX K H v (.type n) := by
  cases d with
  | non => cases e; rw [h.non]; exact .base .non
  | bl b => cases e; rw [h.bl]; exact .base (.bl b)
  | int b => cases e; rw [h.int]; exact .base (.int b)
  | str b => cases e; rw [h.str]; exact .base (.str b)
  | tup ds =>
    cases e
    obtain ⟨a, xs, rfl, h1, _⟩ := h.tup s
    rcases h1 with (h | ⟨o, h⟩) | ⟨o, its, n, h, hc, _⟩
    · exact .base (.tup h)
    · exact .fTuple h
    · exact .kTuple h hc
  | lst ds =>
    cases e
    obtain ⟨a, xs, rfl, h1, _⟩ := h.lst s
    exact .base (.lst h1)
  | ext ds => cases e
  | obj C fs => cases e
/-- isinstance(e, T), T a built-in type by name -/
def tyB (T : String) (d : D) : Res D := match tyN d with
  | some n => (match kitB n T with | some b => .ok (.bl b) | none => .bad)
  | none => .bad
theorem kit_int : kitB "NoneType" "int" = some false ∧ kitB "bool" "int" = some true ∧ kitB "int" "int" = some true ∧ kitB "str" "int" = some false ∧ kitB "tuple" "int" = some false ∧ kitB "list" "int" = some false := by decide +kernel
theorem kit_bool : kitB "NoneType" "bool" = some false ∧ kitB "bool" "bool" = some true ∧ kitB "int" "bool" = some false ∧ kitB "str" "bool" = some false ∧ kitB "tuple" "bool" = some false ∧ kitB "list" "bool" = some false := by decide +kernel
theorem kit_tuple : kitB "NoneType" "tuple" = some false ∧ kitB "bool" "tuple" = some false ∧ kitB "int" "tuple" = some false ∧ kitB "str" "tuple" = some false ∧ kitB "tuple" "tuple" = some true ∧ kitB "list" "tuple" = some false := by decide +kernel
theorem d_isT {T : Str} {Tn : String} {g : D → Res D} {q q2 : Pos} (hT : bootBuiltins T = some (.type Tn)) (hgT : Gl X T) (hmT : X.mg T = none) (hg : Gl X "isinstance") (hm : X.mg "isinstance" = none) (ha : DB X S W a fa)
    (hk : ∀ d b, g d = .ok (.bl b) → tyB Tn d = .ok (.bl b)) (hk2 : ∀ d x, g d = .ok x → ∃ b, x = .bl b) (hk3 : ∀ d C fs, g d ≠ .exc C fs)
    (hnT : T ≠ "__name__" := by decide) (hdT : (T == ("__debug__" : Str)) = false := by decide)
    (he : starEach [a, .Name T q2] X.env = (false, eval a X.env) :: starEach [.Name T q2] X.env := by rfl) (he2 : starEach [Expr.Name T q2] X.env = (false, eval (.Name T q2) X.env) :: starEach [] X.env := by rfl) :
    DE X S W (.Call (.Name "isinstance" q) [a, .Name T q2] [] pos) (e1 g fa) := by
  have h := pe_callB (p := q) (pos := pos) (crZ call_isi) hg hm (by decide +kernel) (pa_cons ha (pa_cons (pe_bltn (v := .ty Tn) (pos := q2) hgT hmT hT rfl hnT hdT) pa_nil he2) he) (by decide) (by decide) he (by rw [he2]; rfl)
  refine ⟨fun pins s σ H Q I hq => h.run pins s σ H Q I ?_⟩
  obtain ⟨H0, F0, ρ, F, s, p⟩ := hq
  refine ⟨H0, F0, ρ, F, s, Po.of_bind (R := rE X.K) clR p fun x v H1 F1 t1 z1 r1 p1 => ?_⟩
  cases e : g x with
  | ok d =>
    rw [e] at p1
    obtain ⟨b, rfl⟩ := hk2 x d e
    have e2 := hk x b e
    unfold tyB at e2
    cases en : tyN x with
    | some n =>
      rw [en] at e2
      simp only at e2
      cases q : kitB n Tn with
      | some b' =>
        rw [q] at e2
        simp only [Res.ok.injEq, D.bl.injEq] at e2
        subst e2
        exact ⟨v, .ty Tn, _, .type Tn, b', rfl, .ty Tn, tyX_of t1.ok r1 en, kit_ty q, fun z => p1 _ H1 F1 (Step.refl t1.ok) z rfl⟩
      | none => rw [q] at e2; cases e2
    | none => rw [en] at e2; cases e2
  | exc C fs => exact absurd e (hk3 x C fs)
  | bad => rw [e] at p1; exact p1.elim
theorem d_isInt {q q2 : Pos} (hgT : Gl X "int") (hmT : X.mg "int" = none) (hg : Gl X "isinstance") (hm : X.mg "isinstance" = none) (ha : DB X S W a fa)
    (he : starEach [a, .Name "int" q2] X.env = (false, eval a X.env) :: starEach [.Name "int" q2] X.env := by rfl) (he2 : starEach [Expr.Name "int" q2] X.env = (false, eval (.Name "int" q2) X.env) :: starEach [] X.env := by rfl) :
    DE X S W (.Call (.Name "isinstance" q) [a, .Name "int" q2] [] pos) (e1 bIsInt fa) := by
  obtain ⟨k1, k2, k3, k4, k5, k6⟩ := kit_int
  refine d_isT (Tn := "int") (by decide +kernel) hgT hmT hg hm ha (fun d b e => ?_) (fun d x e => ?_) (fun d C fs e => ?_) (by decide) (by decide) he he2
  · cases d <;> simp only [bIsInt, reduceCtorEq] at e <;> simp only [tyB, tyN, k1, k2, k3, k4, k5, k6] <;> exact e
  · cases d <;> simp only [bIsInt, Res.ok.injEq, reduceCtorEq] at e <;> exact ⟨_, e.symm⟩
  · cases d <;> simp [bIsInt] at e
theorem d_isBool {q q2 : Pos} (hgT : Gl X "bool") (hmT : X.mg "bool" = none) (hg : Gl X "isinstance") (hm : X.mg "isinstance" = none) (ha : DB X S W a fa)
    (he : starEach [a, .Name "bool" q2] X.env = (false, eval a X.env) :: starEach [.Name "bool" q2] X.env := by rfl) (he2 : starEach [Expr.Name "bool" q2] X.env = (false, eval (.Name "bool" q2) X.env) :: starEach [] X.env := by rfl) :
    DE X S W (.Call (.Name "isinstance" q) [a, .Name "bool" q2] [] pos) (e1 bIsBool fa) := by
  obtain ⟨k1, k2, k3, k4, k5, k6⟩ := kit_bool
  refine d_isT (Tn := "bool") (by decide +kernel) hgT hmT hg hm ha (fun d b e => ?_) (fun d x e => ?_) (fun d C fs e => ?_) (by decide) (by decide) he he2
  · cases d <;> simp only [bIsBool, reduceCtorEq] at e <;> simp only [tyB, tyN, k1, k2, k3, k4, k5, k6] <;> exact e
  · cases d <;> simp only [bIsBool, Res.ok.injEq, reduceCtorEq] at e <;> exact ⟨_, e.symm⟩
  · cases d <;> simp [bIsBool] at e
theorem d_isTuple {q q2 : Pos} (hgT : Gl X "tuple") (hmT : X.mg "tuple" = none) (hg : Gl X "isinstance") (hm : X.mg "isinstance" = none) (ha : DB X S W a fa)
    (he : starEach [a, .Name "tuple" q2] X.env = (false, eval a X.env) :: starEach [.Name "tuple" q2] X.env := by rfl) (he2 : starEach [Expr.Name "tuple" q2] X.env = (false, eval (.Name "tuple" q2) X.env) :: starEach [] X.env := by rfl) :
    DE X S W (.Call (.Name "isinstance" q) [a, .Name "tuple" q2] [] pos) (e1 bIsTuple fa) := by
  obtain ⟨k1, k2, k3, k4, k5, k6⟩ := kit_tuple
  refine d_isT (Tn := "tuple") (by decide +kernel) hgT hmT hg hm ha (fun d b e => ?_) (fun d x e => ?_) (fun d C fs e => ?_) (by decide) (by decide) he he2
  · cases d <;> simp only [bIsTuple, reduceCtorEq] at e <;> simp only [tyB, tyN, k1, k2, k3, k4, k5, k6] <;> exact e
  · cases d <;> simp only [bIsTuple, Res.ok.injEq, reduceCtorEq] at e <;> exact ⟨_, e.symm⟩
  · cases d <;> simp [bIsTuple] at e

/-! ### new lists -/
theorem l_list {q : Pos} (hg : Gl X "list") (hm : X.mg "list" = none) (ha : DB X S W a fa) (he : starEach [a] X.env = (false, eval a X.env) :: starEach [] X.env := by rfl) : DL X S W (.Call (.Name "list" q) [a] [] pos) (lSeq fa) := by
  refine peW (pe_callTy (p := q) (pos := pos) call_list_of hg hm (by decide +kernel) (pa_cons ha pa_nil he) (by decide) (by decide) he rfl) fun σ H Q hq => ?_
  obtain ⟨H0, F0, ρ, F, s, p⟩ := hq
  refine ⟨H0, F0, ρ, F, s, Po.of_bind (R := rL X.K) cl_rL p fun x v H1 F1 t1 z1 r1 p1 => ?_⟩
  cases x with
  | lst ds =>
    obtain ⟨l, xs, rfl, h1, q1⟩ := RB.lst t1.ok r1
    refine ⟨l, xs, rfl, .inl (SqL.of h1), fun c hc => ?_⟩
    have t := Step.beside (o := .lst xs) t1.ok hc
    exact fun z => p1 _ _ _ t z ⟨c, _, rfl, hc, t1.ok.free hc, upd_same, q1⟩
  | tup ds =>
    obtain ⟨l, xs, rfl, h1, q1⟩ := RB.tup t1.ok r1
    refine ⟨l, xs, rfl, .inr h1, fun c hc => ?_⟩
    have t := Step.beside (o := .lst xs) t1.ok hc
    exact fun z => p1 _ _ _ t z ⟨c, _, rfl, hc, t1.ok.free hc, upd_same, q1⟩
  | _ => exact p1.elim
theorem l_cat (ha : DB X S W a fa) (hb : DB X S W b fb) : DL X S W (.BinOp a .Add b pos) (lCat fa fb) := by
  refine peW (pe_op op_cat ha hb) fun σ H Q hq => ?_
  obtain ⟨H0, F0, ρ, F, s, p⟩ := hq
  refine ⟨H0, F0, ρ, F, s, Po.of_bind (R := rL X.K) cl_rL p fun x v H1 F1 t1 z1 r1 p1 => ⟨H0, F0, ρ, F1, s.go t1, Po.of_bind (R := rL X.K) cl_rL p1 fun y u H2 F2 t2 z2 r2 p2 => ?_⟩⟩
  split at p2
  · rename_i xs ys
    split at p2
    · rename_i hl
      obtain ⟨l, vs, rfl, h1, q1⟩ := RB.lst t2.ok (RB.mono t2 r1)
      obtain ⟨l2, us, rfl, h2, q2⟩ := RB.lst t2.ok r2
      refine ⟨l, l2, vs, us, rfl, rfl, h1, h2, by rw [q1.length, q2.length, ← lineS]; exact hl, fun c hc => ?_⟩
      have t := Step.beside (o := .lst (vs ++ us)) t2.ok hc
      exact fun z => p2 _ _ _ t z ⟨c, _, rfl, hc, t2.ok.free hc, upd_same, q1.append q2⟩
    · exact p2.elim
  · exact p2.elim
theorem l_rep (ha : DB X S W a fa) (hb : DB X S W b fb) : DL X S W (.BinOp a .Mult b pos) (lRep fa fb) := by
  refine peW (pe_op op_rep ha hb) fun σ H Q hq => ?_
  obtain ⟨H0, F0, ρ, F, s, p⟩ := hq
  refine ⟨H0, F0, ρ, F, s, Po.of_bind (R := rL X.K) cl_rL p fun x v H1 F1 t1 z1 r1 p1 => ⟨H0, F0, ρ, F1, s.go t1, Po.of_bind (R := rL X.K) cl_rL p1 fun y u H2 F2 t2 z2 r2 p2 => ?_⟩⟩
  split at p2
  · rename_i xs k
    split at p2
    · rename_i hl
      obtain ⟨l, vs, rfl, h1, q1⟩ := RB.lst t2.ok (RB.mono t2 r1)
      refine ⟨l, k, vs, rfl, RB.int r2, h1, by omega, by omega, by rw [q1.length, ← lineS]; exact hl.2.2, fun c hc => ?_⟩
      have t := Step.beside (o := .lst (List.replicate k.toNat vs).flatten) t2.ok hc
      exact fun z => p2 _ _ _ t z ⟨c, _, rfl, hc, t2.ok.free hc, upd_same, q1.rep _⟩
    · exact p2.elim
  · exact p2.elim
end
end Pu

/-! Pu, part G: enumerate and zip over lists and tuples in any mix. -/
namespace PySem
open Sem (wp)
set_option maxHeartbeats 1000000 in
theorem meets_enumerate_new1B {v : Value} {o : Obj} {H : Heap → Prop} (B : Begins v o H) :
    Meets (Builtin.«enumerate.__new__» ⟨[.type "enumerate", v], []⟩) (fun _ R s => H s.heap ∧
      R (.ok (.ret (.ref (s.heap.push o).objs.size))) { s with heap := (s.heap.push o).push { cls := .type "enumerate", data := .fields #[.none, .bool false, .ref s.heap.objs.size, rawInt 0, .none, .none] } }) :=
  .of_wp fun prog w A R s h => by
    obtain ⟨hp, g, d, tk, os⟩ := s; obtain ⟨h1, h⟩ := h
    have hsub := sub_enumerate
    have q1 : ∀ {A' : Around} {E : Value → Shared → Prop} {Q : Value → Shared → Prop}, Q (.ref hp.objs.size) ⟨hp.push o, g, d, tk, os⟩ → wpAny (model prog w) A' (pyIter v) Q E ⟨hp, g, d, tk, os⟩ :=
      fun q => B.iter prog w _ _ ⟨hp, g, d, tk, os⟩ _ h1 q
    wp_walk using q1
    refine wpAny_stack_any fun st => wpAny_pure ?_
    split
    · rename_i c _ _ _ _ _
      cases (c == Value.type "enumerate")
      · wp_walk using q1
        exact ⟨_, rfl, h⟩
      · wp_walk using q1
        exact ⟨_, rfl, h⟩
    · wp_walk using q1
      exact ⟨_, rfl, h⟩
theorem enum_begins1 {prog : Program} {w : World} {A : Around} {E : Value → Shared → Prop} {s : Shared} {v : Value} {o : Obj} {H : Heap → Prop} {Q : Value → Shared → Prop} (B : Begins v o H) (h1 : H s.heap)
    (h : ∀ h', IsEnum h' (s.heap.objs.size + 1) s.heap.objs.size 0 .none → h'.get? s.heap.objs.size = some o → h'.objs.size = s.heap.objs.size + 2 →
      (∀ b o, s.heap.get? b = some o → h'.get? b = some o) → Q (.ref (s.heap.objs.size + 1)) { s with heap := h' }) :
    wpAny (model prog w) A (call (.type "enumerate") [v]) Q E s := by
  refine callType_new F.called_enumerate (by decide) (F.typeCall_enumerate_1 _) (F.newCall_enumerate_1 _) (fun obj => F.args_object_init_2 obj _) F.entry_enumerate_new
    (meets_enumerate_new1B B) ⟨h1, ?_⟩
  have hz : (s.heap.push o).objs.size = s.heap.objs.size + 1 := Heap.size_push ..
  show _ ∧ _
  rw [hz]
  have he : IsEnum ((s.heap.push o).push { cls := .type "enumerate", data := .fields #[.none, .bool false, .ref s.heap.objs.size, rawInt 0, .none, .none] }) (s.heap.objs.size + 1) s.heap.objs.size 0 .none := by
    have := Heap.get?_push_size (s.heap.push o) (o := { cls := .type "enumerate", data := .fields #[.none, .bool false, .ref s.heap.objs.size, rawInt 0, .none, .none] }) rfl
    rw [hz] at this; exact this
  refine ⟨⟨_, he, rfl⟩, h _ he (Heap.get?_push_of_some _ (Heap.get?_push_size _ B.free)) (by rw [Heap.size_push, hz]) fun b o x => Heap.get?_push_of_some _ (Heap.get?_push_of_some _ x)⟩
end PySem
namespace Pu
open PySem PySem.Spec PyProof.Rows L2
/-! ### a sequence of either kind: true a tuple, false a list -/
def SqX (K : PySem.W.Frag) (t : Bool) (H : Hp) (a : Addr) (xs : List V) : Prop := match t with
  | true => SqT K H a xs
  | false => SqL K H a xs
def ItX (t : Bool) (h : Heap) (it a : Addr) (i : Nat) : Prop := match t with
  | true => h.IsTupleIter it a i
  | false => h.IsListIter it a i
def SrcX (t : Bool) (h : Heap) (a : Addr) (items : Array Value) : Prop := match t with
  | true => h.IsTuple a items
  | false => h.IsList a items
def objX (t : Bool) (a : Addr) : Obj := match t with
  | true => { cls := .type "tuple_iterator", data := .fields #[.ref a, .int 0 0] }
  | false => { cls := .type "list_iterator", data := .fields #[.ref a, .int 0 0] }
section
variable {prog : Program} {w : World} {A : Around} {t : Bool} {it a : Addr} {items : Array Value}
theorem beginsX (t : Bool) (a : Addr) (items : Array Value) : Begins (.ref a) (objX t a) fun h => SrcX t h a items := by
  cases t
  · exact begins_list a items
  · exact begins_tuple a items
theorem drawsX (t : Bool) (hh : A.handled = none) (it a : Addr) (hne : a ≠ it) (items : Array Value) : Draws prog w A it [it, a] items.size (fun i v => items[i]? = some v) (fun i h => ItX t h it a i ∧ SrcX t h a items) := by
  cases t
  · exact Draws.list hh it a hne items
  · exact Draws.tuple hh it a hne items
theorem ItX.at {h h' : Heap} {i : Nat} (x : ItX t h it a i) (e : ∀ o, h.get? it = some o → h'.get? it = some o) : ItX t h' it a i := by
  cases t
  · exact Heap.IsListIter.at x e
  · exact Heap.IsTupleIter.at x e
theorem ItX.obj {h : Heap} {i : Nat} (x : ItX t h it a i) : ∃ o, h.get? it = some o ∧ ∀ v, o.data ≠ .cell v := by
  cases t
  · obtain ⟨o, ho, hc, hd⟩ := x
    exact ⟨o, ho, fun v q => by rw [hd] at q; cases q⟩
  · obtain ⟨o, ho, hc, hd⟩ := x
    exact ⟨o, ho, fun v q => by rw [hd] at q; cases q⟩
theorem ItX.begin {h : Heap} (e : h.get? it = some (objX t a)) : ItX t h it a 0 := by
  cases t
  · exact ⟨_, e, rfl, rfl⟩
  · exact ⟨_, e, rfl, rfl⟩
theorem ItX.apart {h : Heap} {k : Bool} {c j : Addr} {m : Nat} {l : Array Value} (sp : SrcX k h c l) (ip : ItX k h j c m) : c ≠ j := fun e => by
  subst e
  cases k
  · obtain ⟨o2, hk2, hc2, _⟩ := sp
    obtain ⟨o3, ho3, hc3, _⟩ := ip
    rw [hk2] at ho3
    cases ho3
    rw [hc2] at hc3
    exact absurd (Value.type.inj hc3) (by decide)
  · obtain ⟨o2, hk2, hc2, _⟩ := sp
    obtain ⟨o3, ho3, hc3, _⟩ := ip
    rw [hk2] at ho3
    cases ho3
    rw [hc2] at hc3
    exact absurd (Value.type.inj hc3) (by decide)
theorem SrcX.lt {h : Heap} (x : SrcX t h a items) : a < h.objs.size := by
  cases t
  · obtain ⟨o, e, _⟩ := x; exact Heap.lt_size e
  · obtain ⟨o, e, _⟩ := x; exact Heap.lt_size e
end
section
variable {X : Cx} {pins : List (Addr × Obj)} {σ : L2.St} {H : Hp} {s : Shared} {t : Bool} {a : Addr} {xs ys : List V}
theorem seqX (I : Inv X pins σ H s) (h : SqX X.K t H a xs) : ∃ its : List Value, Vals xs its ∧ SrcX t s.heap a its.toArray ∧ xs.length ≤ sizeLine := by
  cases t
  · obtain ⟨its, r, p, z⟩ := I.list h
    exact ⟨its, r, p.isList, z⟩
  · obtain ⟨its, r, p, z⟩ := I.tuple h
    exact ⟨its, r, (show s.heap.IsTuple a its.toArray from p), z⟩
theorem seqX_inj (I : Inv X pins σ H s) (h : SqX X.K t H a xs) (h' : SqX X.K t H a ys) : xs = ys := by
  cases t
  · exact I.list_inj h h'
  · exact I.tuple_inj h h'
theorem SqX.mono {K : PySem.W.Frag} {H H' : Hp} (e : Same H H') (h : SqX K t H a xs) : SqX K t H' a xs := by
  cases t
  · exact e.seq h
  · exact sqT_mono e h
end

/-! ### enumerate -/
def IteX (K : PySem.W.Frag) (t : Bool) (a : Addr) : It :=
  ⟨fun i H => ∃ (xs : List V) (x : V), SqX K t H a xs ∧ xs[i]? = some x, fun i H v H' => ∃ T x, v = .ref T ∧ H T = none ∧ H' = upd H T (.tup [.int (i : Nat), x]) ∧ ∀ xs, SqX K t H a xs → xs[i]? = some x, fun i H => ∃ xs : List V, SqX K t H a xs ∧ xs.length = i⟩
theorem turn_enumX {P : Program} {w : World} {K : PySem.W.Frag} {elts : List Expr} {kk : Nat} {tpos : Pos} (t : Bool) (a e it : Addr) (hne0 : a ≠ it) (hae : a ≠ e) :
    Turn P w K (.Tuple elts kk tpos) (IteX K t a) [e, it] e (fun i h => (∃ old, IsEnum h e it ((i : Nat) : Int) old) ∧ ItX t h it a i ∧ e ≠ it) where
  mem := by simp
  obj := fun i h st b hb => by
    obtain ⟨⟨old, he⟩, hi, _⟩ := st
    have e' : b = e ∨ b = it := by simpa using hb
    rcases e' with z | z
    · rw [z]; exact ⟨_, he, fun v q => nomatch q⟩
    · rw [z]; exact hi.obj
  keep := fun i h h' st k => let ⟨⟨old, he⟩, hi, hne⟩ := st; ⟨⟨old, k e (by simp) _ he⟩, hi.at fun o q => k it (by simp) o q, hne⟩
  item := by
    intro X hP hw hK hc i pins s σ H E I hf st hg
    subst hP hw hK
    obtain ⟨⟨old, he⟩, hit, hne⟩ := st
    obtain ⟨xs, x, hq, hx⟩ := hg
    obtain ⟨its, rv, p, hz⟩ := seqX I hq
    have hel : e < s.heap.objs.size := Heap.lt_size he
    have hil : it < s.heap.objs.size := by obtain ⟨_, q, _⟩ := hit.obj; exact Heap.lt_size q
    have hlt : i < its.toArray.size := by
      have := (List.getElem?_eq_some_iff.mp hx).1
      rw [List.size_toArray, ← rv.length]
      exact this
    refine wpAny_pyNext_enum_itemD (drawsX t (A := X.A.in1) (I.ok.hd hc) it a hne0 its.toArray) he ⟨hit, p⟩ hlt hne (by simp [hne, Ne.symm hae]) fun u h' tk hu ho hst' hT hsz hk => ?_
    obtain ⟨hit', _⟩ := hst'
    have ru : RelV x u := by
      obtain ⟨u', e', r'⟩ := rv.get hx
      have e2 : its[i]? = some u := by simpa using hu
      rw [e2] at e'
      cases e'
      exact r'
    refine ⟨_, rfl, wpAny_letOwnedTupleGo_enum (s := { s with heap := h', toks := tk + 1 }) ho fun h'' he' sb => ?_⟩
    have hT2 : h''.get? s.heap.objs.size = some { cls := .type "tuple", data := .seq #[.int i tk, u] } := (sb.2 _ (Nat.ne_of_gt hel)).trans hT
    have new : ObjOk X.prog X.w (upd H s.heap.objs.size (.tup [.int (i : Nat), x])) h'' s.heap.objs.size (.tup [.int (i : Nat), x]) :=
      ⟨by show 2 ≤ sizeLine; decide, [.int i tk, u], .cons ⟨_, rfl⟩ (.cons ru .nil), ⟨_, hT2, rfl, _, rfl⟩⟩
    have I1 : Inv X pins σ (upd H s.heap.objs.size (.tup [.int (i : Nat), x])) { s with heap := h'', toks := tk + 1 } :=
      I.turnedNew (ch := [e, it]) (fun b ob hb q => (sb.2 b (fun z => hb (by simp [z]))).trans (hk b ob (fun z => hb (by simp [z])) (fun z => hb (by simp [z])) q)) hf (Nat.le_refl _) new
    refine ⟨.ref s.heap.objs.size, _, I1, rfl, ⟨_, x, rfl, I.hok.fresh (Nat.le_refl _), rfl, fun ys hy => by rw [seqX_inj I hy hq]; exact hx⟩, ⟨⟨u, ?_⟩, hit'.at fun o q => (sb.2 it (Ne.symm hne)).trans q, hne⟩, fun b hb => ?_⟩
    · have e1 : ((i + 1 : Nat) : Int) = (i : Int) + 1 := by omega
      rw [e1]; exact he'
    · have hb' : b < s.heap.objs.size := by
        have e' : b = e ∨ b = it := by simpa using hb
        rcases e' with z | z
        · rw [z]; exact hel
        · rw [z]; exact hil
      rw [upd_ne (Nat.ne_of_lt hb')]
      exact (hf b hb).1
  done := by
    intro X hP hw hK hc i pins s σ H E I hf st hg
    subst hP hw hK
    obtain ⟨⟨old, he⟩, hit, hne⟩ := st
    obtain ⟨xs, hq, hx⟩ := hg
    obtain ⟨its, rv, p, hz⟩ := seqX I hq
    obtain ⟨f0, f1, f2, f3, f4, f5⟩ := hf it (by simp)
    have hl := rv.length
    have ei : i = its.toArray.size := by rw [List.size_toArray]; omega
    exact wpAny_pyNext_enum_endD (drawsX t (A := X.A.in1) (I.ok.hd hc) it a hne0 its.toArray) he (by rw [← ei]; exact ⟨hit, p⟩) fun h' eb => ⟨rfl, I.turned (t' := s.toks) (fun b o hb q => eb b o hb q) f0 f1 f3 f4 f5⟩
  self := fun A i s Q E st h => let ⟨⟨_, he⟩, _⟩ := st; wpAny_pyIter_enum he h
def iEnumX (K : PySem.W.Frag) (ta : TA) : TI := fun σ H R => ta σ H fun vs H1 => ∃ t a xs, vs = [.ref a] ∧ SqX K t H1 a xs ∧ R (IteX K t a) H1
theorem pi_enumX {X : Cx} {e : Expr} {ta : TA} {p pos tpos : Pos} {elts : List Expr} {kk : Nat} (hg : Gl X "enumerate") (hm : X.mg "enumerate" = none) (ha : PA X [e] ta) (hs : starEach [e] X.env = (false, eval e X.env) :: starEach [] X.env := by rfl) :
    PI X (.Tuple elts kk tpos) (.Call (.Name "enumerate" p) [e] [] pos) (iEnumX X.K ta) := by
  refine ⟨fun pins s σ H R I h => ?_⟩
  refine Call_ (ld_blt I hg hm boot_enumerate (PyProof.Rows.callWith_type1 (thn (ha.run pos pins s σ H _ I h) fun us s1 ⟨vs, H1, I1, r1, q1⟩ => ?_) hs rfl))
  obtain ⟨t, a, xs, ex, hq, q⟩ := q1
  subst ex
  cases r1 with
  | cons r rr =>
    cases rr
    cases r
    obtain ⟨its, rv, p', hz⟩ := seqX I1 hq
    refine enum_begins1 (beginsX t a its.toArray) p' fun h' he ho hsz hk => wpAny_pyIter_enum he ?_
    have I2 : Inv X pins σ H1 { s1 with heap := h' } := I1.kept (t' := s1.toks) hk
    have hlt := p'.lt
    refine ⟨s1.heap.objs.size + 1, [s1.heap.objs.size + 1, s1.heap.objs.size], _, _, H1, rfl, I2, turn_enumX t a (s1.heap.objs.size + 1) s1.heap.objs.size (Nat.ne_of_lt hlt) (Nat.ne_of_lt (Nat.lt_succ_of_lt hlt)), ⟨⟨.none, he⟩, ItX.begin ho, Nat.succ_ne_self _⟩, fun b hb => ?_, q⟩
    have e' : b = s1.heap.objs.size + 1 ∨ b = s1.heap.objs.size := by simpa using hb
    have hle : s1.heap.objs.size ≤ b := by
      rcases e' with z | z
      · rw [z]; exact Nat.le_add_right _ _
      · rw [z]; exact Nat.le_refl _
    exact I1.fpOk hle (I1.hok.fresh hle)

/-! ### zip of two -/
def ItzX (K : PySem.W.Frag) (t u : Bool) (a b : Addr) : It :=
  ⟨fun i H => ∃ (xs ys : List V) (x y : V), SqX K t H a xs ∧ SqX K u H b ys ∧ xs[i]? = some x ∧ ys[i]? = some y,
    fun i H v H' => ∃ T x y, v = .ref T ∧ H T = none ∧ H' = upd H T (.tup [x, y]) ∧ (∀ xs, SqX K t H a xs → xs[i]? = some x) ∧ ∀ ys, SqX K u H b ys → ys[i]? = some y,
    fun i H => ∃ xs ys : List V, SqX K t H a xs ∧ SqX K u H b ys ∧ i ≤ xs.length ∧ i ≤ ys.length ∧ (i = xs.length ∨ i = ys.length)⟩
theorem sep_of {N a b : Nat} (ha : a < N) (hb : b < N) : ZipSep2 (N + 4) (N + 2) (N + 3) N (N + 1) [N, a] [N + 1, b] := by
  exact zip_sep2 (fp1 := [a]) (fp2 := [b]) (fun c hc => by rw [List.mem_singleton.mp hc]; exact ha) (fun c hc => by rw [List.mem_singleton.mp hc]; exact hb)
theorem turn_zipX {P : Program} {w : World} {K : PySem.W.Frag} {elts : List Expr} {kk : Nat} {tpos : Pos} {t u : Bool} {a b z TI TO i1 i2 : Addr} (D : ZipSep2 z TI TO i1 i2 [i1, a] [i2, b]) :
    Turn P w K (.Tuple elts kk tpos) (ItzX K t u a b) [z, TI, TO, i1, i2] z (fun i h => IsZip h z TI TO .none ∧ IsTupOf2 h TI (.ref i1) (.ref i2) ∧ (∃ x y, IsTupOf2 h TO x y) ∧ ItX t h i1 a i ∧ ItX u h i2 b i) where
  mem := by simp
  obj := fun i h st c hc => by
    obtain ⟨hz, hTI, ⟨x, y, hTO⟩, h1, h2⟩ := st
    have e' : c = z ∨ c = TI ∨ c = TO ∨ c = i1 ∨ c = i2 := by simpa using hc
    rcases e' with q | q | q | q | q
    · rw [q]; exact ⟨_, hz, fun v q => nomatch q⟩
    · rw [q]; exact ⟨_, hTI, fun v q => nomatch q⟩
    · rw [q]; exact ⟨_, hTO, fun v q => nomatch q⟩
    · rw [q]; exact h1.obj
    · rw [q]; exact h2.obj
  keep := fun i h h' st k => by
    obtain ⟨hz, hTI, ⟨x, y, hTO⟩, h1, h2⟩ := st
    exact ⟨k z (by simp) _ hz, k TI (by simp) _ hTI, ⟨x, y, k TO (by simp) _ hTO⟩, h1.at fun o q => k i1 (by simp) o q, h2.at fun o q => k i2 (by simp) o q⟩
  item := by
    intro X hP hw hK hc i pins s σ H E I hf st hg
    subst hP hw hK
    obtain ⟨hz, hTI, ⟨x0, y0, hTO⟩, h1, h2⟩ := st
    obtain ⟨xs, ys, x, y, hqx, hqy, hx, hy⟩ := hg
    obtain ⟨its, rv, p, _⟩ := seqX I hqx
    obtain ⟨its2, rv2, p2, _⟩ := seqX I hqy
    have n1 : a ≠ i1 := ItX.apart p h1
    have n2 : b ≠ i2 := ItX.apart p2 h2
    have hzl : z < s.heap.objs.size := Heap.lt_size hz
    have hl1 : i < its.toArray.size := by
      have := (List.getElem?_eq_some_iff.mp hx).1
      rw [List.size_toArray, ← rv.length]
      exact this
    have hl2 : i < its2.toArray.size := by
      have := (List.getElem?_eq_some_iff.mp hy).1
      rw [List.size_toArray, ← rv2.length]
      exact this
    refine wpAny_pyNext_zipD2_item D (drawsX t (A := X.A.in1) (I.ok.hd hc) i1 a n1 its.toArray) (drawsX u (A := X.A.in1) (I.ok.hd hc) i2 b n2 its2.toArray) hz hTI hTO ⟨h1, p⟩ ⟨h2, p2⟩ hl1 hl2 fun u1 u2 h' tk hu hu2 z' TO' s1' s2' hT hsz hk => ?_
    obtain ⟨h1', _⟩ := s1'
    obtain ⟨h2', _⟩ := s2'
    have ru : RelV x u1 := by
      obtain ⟨u', e', r'⟩ := rv.get hx
      have e2 : its[i]? = some u1 := by simpa using hu
      rw [e2] at e'
      cases e'
      exact r'
    have ru2 : RelV y u2 := by
      obtain ⟨u', e', r'⟩ := rv2.get hy
      have e2 : its2[i]? = some u2 := by simpa using hu2
      rw [e2] at e'
      cases e'
      exact r'
    refine ⟨_, rfl, wpAny_letOwnedTupleGo_zip (s := { s with heap := h', toks := tk }) z' fun h'' z'' sb => ?_⟩
    have hT2 : h''.get? s.heap.objs.size = some { cls := .type "tuple", data := .seq #[u1, u2] } := (sb.2 _ (Nat.ne_of_gt hzl)).trans hT
    have new : ObjOk X.prog X.w (upd H s.heap.objs.size (.tup [x, y])) h'' s.heap.objs.size (.tup [x, y]) :=
      ⟨by show 2 ≤ sizeLine; decide, [u1, u2], .cons ru (.cons ru2 .nil), ⟨_, hT2, rfl, _, rfl⟩⟩
    have I1 : Inv X pins σ (upd H s.heap.objs.size (.tup [x, y])) { s with heap := h'', toks := tk } :=
      I.turnedNew (t' := tk) (ch := [z, TI, TO, i1, i2]) (fun c o hb q => (sb.2 c (fun q' => hb (by simp [q']))).trans (hk c o (fun q' => hb (by simp [q'])) (fun q' => hb (by simp [q'])) (fun q' => hb (by simp [q'])) (fun q' => hb (by simp [q'])) q)) hf (Nat.le_refl _) new
    refine ⟨.ref s.heap.objs.size, _, I1, rfl, ⟨_, x, y, rfl, I.hok.fresh (Nat.le_refl _), rfl, fun l hl => by rw [seqX_inj I hl hqx]; exact hx, fun l hl => by rw [seqX_inj I hl hqy]; exact hy⟩, ⟨z'', ?_, ⟨u1, u2, ?_⟩, ?_, ?_⟩, fun c hcm => ?_⟩
    · exact (sb.2 _ D.TIz).trans (hk _ _ D.TIz D.TITO D.TIi1 D.TIi2 hTI)
    · exact (sb.2 _ D.TOz).trans TO'
    · exact h1'.at fun o q => (sb.2 _ (Ne.symm D.zi1)).trans q
    · exact h2'.at fun o q => (sb.2 _ (Ne.symm D.zi2)).trans q
    · have hlt : c < s.heap.objs.size := by
        have e' : c = z ∨ c = TI ∨ c = TO ∨ c = i1 ∨ c = i2 := by simpa using hcm
        rcases e' with q | q | q | q | q
        · rw [q]; exact hzl
        · rw [q]; exact Heap.lt_size hTI
        · rw [q]; exact Heap.lt_size hTO
        · rw [q]; obtain ⟨_, e1, _⟩ := h1.obj; exact Heap.lt_size e1
        · rw [q]; obtain ⟨_, e2, _⟩ := h2.obj; exact Heap.lt_size e2
      rw [upd_ne (Nat.ne_of_lt hlt)]
      exact (hf c hcm).1
  done := by
    intro X hP hw hK hc i pins s σ H E I hf st hg
    subst hP hw hK
    obtain ⟨hz, hTI, ⟨x0, y0, hTO⟩, h1, h2⟩ := st
    obtain ⟨xs, ys, hqx, hqy, hi1, hi2, hend⟩ := hg
    obtain ⟨its, rv, p, _⟩ := seqX I hqx
    obtain ⟨its2, rv2, p2, _⟩ := seqX I hqy
    have l1 := rv.length
    have l2 := rv2.length
    exact wpAny_pyNext_zipD2_end D (drawsX t (A := X.A.in1) (I.ok.hd hc) i1 a (ItX.apart p h1) its.toArray) (drawsX u (A := X.A.in1) (I.ok.hd hc) i2 b (ItX.apart p2 h2) its2.toArray) hz hTI hTO ⟨h1, p⟩ ⟨h2, p2⟩
      (by rw [List.size_toArray]; omega) (by rw [List.size_toArray]; omega) (by rw [List.size_toArray, List.size_toArray]; omega)
      fun h' tk hk => ⟨rfl, I.turnedL (t' := tk) (ch := [z, TI, TO, i1, i2]) (fun c o hb q =>
      hk c o (fun q' => hb (by simp [q'])) (fun q' => hb (by simp [q'])) (fun q' => hb (by simp [q'])) (fun q' => hb (by simp [q'])) q) hf⟩
  self := fun A i s Q E st h => wpAny_pyIter_zip st.1 h
def iZipX (K : PySem.W.Frag) (ta : TA) : TI := fun σ H R => ta σ H fun vs H1 => ∃ t u a b xs ys, vs = [.ref a, .ref b] ∧ SqX K t H1 a xs ∧ SqX K u H1 b ys ∧ R (ItzX K t u a b) H1
theorem pi_zipX {X : Cx} {e e2 : Expr} {ta : TA} {p pos tpos : Pos} {elts : List Expr} {kk : Nat} (hg : Gl X "zip") (hm : X.mg "zip" = none) (ha : PA X [e, e2] ta)
    (hs : starEach [e, e2] X.env = (false, eval e X.env) :: starEach [e2] X.env := by rfl) (hpl : (backTo pos (starEach [e2] X.env)).any (·.1) = false := by rfl) :
    PI X (.Tuple elts kk tpos) (.Call (.Name "zip" p) [e, e2] [] pos) (iZipX X.K ta) := by
  refine ⟨fun pins s σ H R I h => ?_⟩
  refine Call_ (ld_blt I hg hm PyProof.Rows.boot_zip (PyProof.Rows.callWith_type1 (thn (ha.run pos pins s σ H _ I h) fun us s1 ⟨vs, H1, I1, r1, q1⟩ => ?_) hs hpl))
  obtain ⟨t, u, a, b, xs, ys, ex, hqx, hqy, q⟩ := q1
  subst ex
  cases r1 with
  | cons r rr =>
    cases rr with
    | cons r' rr =>
      cases rr
      cases r
      cases r'
      have fresh5 : ∀ c, c ∈ [s1.heap.objs.size + 4, s1.heap.objs.size + 2, s1.heap.objs.size + 3, s1.heap.objs.size, s1.heap.objs.size + 1] → FpOk X pins H1 c := fun c hcm => by
        have e' : c = s1.heap.objs.size + 4 ∨ c = s1.heap.objs.size + 2 ∨ c = s1.heap.objs.size + 3 ∨ c = s1.heap.objs.size ∨ c = s1.heap.objs.size + 1 := by simpa using hcm
        have hle : s1.heap.objs.size ≤ c := by
          rcases e' with z | z | z | z | z
          · rw [z]; exact Nat.le_add_right _ _
          · rw [z]; exact Nat.le_add_right _ _
          · rw [z]; exact Nat.le_add_right _ _
          · rw [z]; exact Nat.le_refl _
          · rw [z]; exact Nat.le_add_right _ _
        exact I1.fpOk hle (I1.hok.fresh hle)
      obtain ⟨its, rv, p1, _⟩ := seqX I1 hqx
      obtain ⟨its2, rv2, p2, _⟩ := seqX I1 hqy
      refine zip_begins2 (beginsX t a its.toArray) (beginsX u b its2.toArray) p1 p2 fun h' hz hTI hTO h1 h2 hsz hk => wpAny_pyIter_zip hz ?_
      have I2 : Inv X pins σ H1 { s1 with heap := h' } := I1.kept (t' := s1.toks) hk
      exact ⟨s1.heap.objs.size + 4, [s1.heap.objs.size + 4, s1.heap.objs.size + 2, s1.heap.objs.size + 3, s1.heap.objs.size, s1.heap.objs.size + 1], _, _, H1, rfl, I2, turn_zipX (sep_of p1.lt p2.lt), ⟨hz, hTI, ⟨_, _, hTO⟩, ItX.begin h1, ItX.begin h2⟩, fresh5, q⟩
end Pu

/-! Pu, part H: the iterators' judgements. -/
namespace Pu
open PySem PySem.Spec PyProof.Rows L2

def ItsX (K : PySem.W.Frag) (t : Bool) (a : Addr) : It := match t with
  | true => Itt K a
  | false => Itl K a
def iSeqX (K : PySem.W.Frag) (tl : TE) : TI := fun σ H R => tl σ H fun x H1 => ∃ t a xs, x = .ref a ∧ SqX K t H1 a xs ∧ R (ItsX K t a) H1
theorem pi_seqX {X : Cx} {tg l : Expr} {tl : TE} (hl : PE X l tl) : PI X tg l (iSeqX X.K tl) := by
  refine ⟨fun pins s σ H R I h => ?_⟩
  refine thn (hl.run pins s σ H _ I h) fun v s1 ⟨x, H1, I1, r1, q1⟩ => ?_
  obtain ⟨t, a, xs, e, hq, q⟩ := q1
  subst e
  cases r1
  have fin : ∀ b ∈ [s1.heap.objs.size], FpOk X pins H1 b := fun b hb => by
    have e : b = s1.heap.objs.size := by simpa using hb
    subst e
    exact I1.fpOk (Nat.le_refl _) (I1.hok.fresh (Nat.le_refl _))
  cases t with
  | false =>
    obtain ⟨its, rv, p, hz⟩ := I1.list hq
    refine wpAny_pyIter_list p.isList ?_
    exact ⟨s1.heap.objs.size, [s1.heap.objs.size], _, _, H1, rfl, I1.kept (t' := s1.toks) fun b o e => Heap.get?_push_of_some _ e, turn_list a _, ⟨_, Heap.get?_push_size _ rfl, rfl, rfl⟩, fin, q⟩
  | true =>
    obtain ⟨its, rv, p, hz⟩ := I1.tuple hq
    refine wpAny_pyIter_tuple (show s1.heap.IsTuple a its.toArray from p) ?_
    exact ⟨s1.heap.objs.size, [s1.heap.objs.size], _, _, H1, rfl, I1.kept (t' := s1.toks) fun b o e => Heap.get?_push_of_some _ e, turn_tuple a _, ⟨_, Heap.get?_push_size _ rfl, rfl, rfl⟩, fin, q⟩

/-! ### what each yields -/
section
variable {K : PySem.W.Frag} {L F : Hp} {ds es : List D} {xs ys : List V} {a b : Addr}
theorem iterOk_seq {t : Bool} (q : SqX K t L a xs) (r : Reps K F ds xs) (hl : ds.length ≤ sizeLine) : IterOk K (ItsX K t a) L F ds := by
  have hlen := r.length
  refine ⟨hl, fun i H' hi s => ?_, fun H' s => ?_, fun i H1 F1 x H2 hi s1 s2 s3 y => ?_⟩
  · have hx : xs[i]? = some (xs[i]'(by omega)) := List.getElem?_eq_getElem (by omega)
    cases t with
    | false => exact ⟨xs, _, SqX.mono (t := false) s q, hx⟩
    | true => exact ⟨xs, _, SqX.mono (t := true) s q, hx⟩
  · cases t with
    | false => exact ⟨xs, SqX.mono (t := false) s q, by omega⟩
    | true => exact ⟨xs, SqX.mono (t := true) s q, by omega⟩
  · have hx : H2 = H1 ∧ xs[i]? = some x := by
      cases t with
      | false => exact ⟨y.1, y.2 xs (SqX.mono (t := false) s1 q)⟩
      | true => exact ⟨y.1, y.2 xs (SqX.mono (t := true) s1 q)⟩
    obtain ⟨rfl, hx⟩ := hx
    obtain ⟨d, hd, rd⟩ := r.getV hx
    exact ⟨F1, d, hd, Step.refl s3, Rep.mono s2 _ _ rd⟩
theorem iterOk_fn {J : It} {f : Nat → Int} {n : Nat} (hj : J = ⟨fun i _ => i < n, fun i H x H' => H' = H ∧ x = .int (f i), fun i _ => n ≤ i⟩) (hn : n ≤ sizeLine) : IterOk K J L F ((List.range n).map fun i => .int (f i)) := by
  subst hj
  have e : ((List.range n).map fun i => D.int (f i)).length = n := by simp
  refine ⟨by rw [e]; exact hn, fun i H' hi s => by rw [e] at hi; exact hi, fun H' s => ?_, fun i H1 F1 x H2 hi s1 s2 s3 y => ?_⟩
  · show n ≤ _
    rw [e]
    exact Nat.le_refl _
  · obtain ⟨rfl, rfl⟩ := y
    rw [e] at hi
    exact ⟨F1, .int (f i), by simp [hi], Step.refl s3, rfl⟩
theorem iterOk_rng {lo hi : Int} (hn : (hi - lo).toNat ≤ sizeLine) : IterOk K (Itr lo (hi - lo).toNat) L F (rng lo hi) := iterOk_fn (f := fun i => lo + i) rfl hn
theorem iterOk_rngD {hi lo : Int} (hn : (hi - lo).toNat ≤ sizeLine) : IterOk K (Itc hi (-1) (hi - lo).toNat) L F (rngD hi lo) := by
  refine iterOk_fn (f := fun i => hi - i) ?_ hn
  unfold Itc
  congr 1
  funext i H x H'
  have e : hi + (i : Int) * -1 = hi - i := by omega
  rw [e]
theorem iterOk_rev {t : Bool} {J : It} (q : SqX K t L a xs) (r : Reps K F ds xs) (hl : ds.length ≤ sizeLine) (hj : J = match t with | false => Itv K a xs.length | true => RT.ItvT K a xs.length) : IterOk K J L F ds.reverse := by
  subst hj
  have hlen := r.length
  have e : ds.reverse.length = xs.length := by rw [List.length_reverse, hlen]
  refine ⟨by rw [e, hlen]; exact hl, fun i H' hi s => ?_, fun H' s => ?_, fun i H1 F1 x H2 hi s1 s2 s3 y => ?_⟩
  · rw [e] at hi
    have hx : xs[xs.length - 1 - i]? = some (xs[xs.length - 1 - i]'(by omega)) := List.getElem?_eq_getElem (by omega)
    cases t with
    | false => exact ⟨hi, xs, _, SqX.mono (t := false) s q, hx⟩
    | true => exact ⟨hi, xs, _, SqX.mono (t := true) s q, hx⟩
  · rw [e]
    cases t with
    | false => exact Nat.le_refl xs.length
    | true => exact Nat.le_refl xs.length
  · rw [e] at hi
    have hx : H2 = H1 ∧ xs[xs.length - 1 - i]? = some x := by
      cases t with
      | false => exact ⟨y.1, y.2 xs (SqX.mono (t := false) s1 q)⟩
      | true => exact ⟨y.1, y.2 xs (SqX.mono (t := true) s1 q)⟩
    obtain ⟨rfl, hx⟩ := hx
    obtain ⟨d, hd, rd⟩ := r.getV hx
    refine ⟨F1, d, ?_, Step.refl s3, Rep.mono s2 _ _ rd⟩
    rw [List.getElem?_reverse (by omega), ← hlen]
    exact hd
theorem enumD_length : ∀ (n : Nat) (ds : List D), (enumD n ds).length = ds.length
  | _, [] => rfl
  | n, d :: ds => by unfold enumD; rw [List.length_cons, List.length_cons, enumD_length]
theorem enumD_get : ∀ (n i : Nat) (ds : List D), (enumD n ds)[i]? = ds[i]?.map fun d => .tup [.int ((n + i : Nat) : Int), d]
  | _, i, [] => by simp [enumD]
  | n, 0, d :: ds => by simp [enumD]
  | n, i + 1, d :: ds => by
    unfold enumD
    rw [List.getElem?_cons_succ, List.getElem?_cons_succ, enumD_get]
    have e : n + 1 + i = n + (i + 1) := by omega
    rw [e]
theorem iterOk_enum {t : Bool} (q : SqX K t L a xs) (r : Reps K F ds xs) (hl : ds.length ≤ sizeLine) : IterOk K (IteX K t a) L F (enumD 0 ds) := by
  have hlen := r.length
  have e := enumD_length 0 ds
  refine ⟨by rw [e]; exact hl, fun i H' hi s => ?_, fun H' s => ?_, fun i H1 F1 x H2 hi s1 s2 s3 y => ?_⟩
  · rw [e] at hi
    exact ⟨xs, xs[i]'(by omega), SqX.mono s q, List.getElem?_eq_getElem (by omega)⟩
  · exact ⟨xs, SqX.mono s q, by rw [e, hlen]⟩
  · obtain ⟨T, x', rfl, hn, rfl, hx⟩ := y
    obtain ⟨d, hd, rd⟩ := r.getV (hx xs (SqX.mono s1 q))
    have st := Step.laid (o := .tup [.int (i : Nat), x']) s3 hn
    refine ⟨upd F1 T (.tup [.int (i : Nat), x']), .tup [.int ((0 + i : Nat) : Int), d], by rw [enumD_get, hd]; rfl, st, T, _, rfl, .of upd_same, ?_⟩
    refine ⟨.int (i : Nat), [x'], rfl, ?_, x', [], rfl, Rep.mono (s2.trans st.le) _ _ rd, rfl⟩
    show V.int (i : Nat) = V.int ((0 + i : Nat) : Int)
    rw [Nat.zero_add]
theorem zipD_length : ∀ (ds es : List D), (zipD ds es).length = min ds.length es.length
  | [], _ => by simp [zipD]
  | _ :: _, [] => by simp [zipD]
  | d :: ds, e :: es => by
    unfold zipD
    rw [List.length_cons, zipD_length, List.length_cons, List.length_cons]
    omega
theorem zipD_get : ∀ (i : Nat) (ds es : List D) (d e : D), ds[i]? = some d → es[i]? = some e → (zipD ds es)[i]? = some (.tup [d, e])
  | _, [], _, _, _, h, _ => by simp at h
  | _, _ :: _, [], _, _, _, h => by simp at h
  | 0, d' :: ds, e' :: es, d, e, h, k => by
    obtain rfl : d' = d := by simpa using h
    obtain rfl : e' = e := by simpa using k
    rfl
  | i + 1, d' :: ds, e' :: es, d, e, h, k => by
    unfold zipD
    rw [List.getElem?_cons_succ]
    exact zipD_get i ds es d e (by simpa using h) (by simpa using k)
theorem iterOk_zip {t u : Bool} (q : SqX K t L a xs) (q' : SqX K u L b ys) (r : Reps K F ds xs) (r' : Reps K F es ys) (hl : ds.length ≤ sizeLine) : IterOk K (ItzX K t u a b) L F (zipD ds es) := by
  have hlen := r.length
  have hlen' := r'.length
  have e := zipD_length ds es
  refine ⟨by rw [e]; omega, fun i H' hi s => ?_, fun H' s => ?_, fun i H1 F1 x H2 hi s1 s2 s3 y => ?_⟩
  · rw [e] at hi
    exact ⟨xs, ys, xs[i]'(by omega), ys[i]'(by omega), SqX.mono s q, SqX.mono s q', List.getElem?_eq_getElem (by omega), List.getElem?_eq_getElem (by omega)⟩
  · rw [e]
    exact ⟨xs, ys, SqX.mono s q, SqX.mono s q', by omega, by omega, by omega⟩
  · obtain ⟨T, x', y', rfl, hn, rfl, hx, hy⟩ := y
    obtain ⟨d, hd, rd⟩ := r.getV (hx xs (SqX.mono s1 q))
    obtain ⟨d', hd', rd'⟩ := r'.getV (hy ys (SqX.mono s1 q'))
    have st := Step.laid (o := .tup [x', y']) s3 hn
    exact ⟨upd F1 T (.tup [x', y']), .tup [d, d'], zipD_get _ _ _ _ _ hd hd', st, T, _, rfl, .of upd_same, x', [y'], rfl, Rep.mono (s2.trans st.le) _ _ rd, y', [], rfl, Rep.mono (s2.trans st.le) _ _ rd', rfl⟩
end

/-! ### the judgements -/
/-- a sequence of plain data -/
def SeqIn (K : PySem.W.Frag) (L F : Hp) (v : V) (ds : List D) : Prop := ∃ t a xs, v = .ref a ∧ SqX K t L a xs ∧ Reps K F ds xs
theorem sqX_len {K : PySem.W.Frag} {H : Hp} {t : Bool} {a : Addr} {xs : List V} (z : HSz K H) (h : SqX K t H a xs) : xs.length ≤ sizeLine := by
  cases t
  · exact z.l _ _ h
  · exact z.t _ _ h
section
variable {K : PySem.W.Frag} {H F : Hp} {d : D} {v : V} {ds : List D}
theorem seqIn_F (h : Rep K F d v) (e : seqD d = .ok ds ∨ d = .ext ds) : SeqIn K F F v ds := by
  cases d with
  | lst xs =>
    obtain rfl : xs = ds := by
      rcases e with e | e
      · cases e; rfl
      · cases e
    obtain ⟨a, xs, rfl, h1, r⟩ := h
    exact ⟨false, a, xs, rfl, SqL.of h1, r⟩
  | tup xs =>
    obtain rfl : xs = ds := by
      rcases e with e | e
      · cases e; rfl
      · cases e
    obtain ⟨a, xs, rfl, h1, r⟩ := h
    exact ⟨true, a, xs, rfl, h1, r⟩
  | ext xs =>
    obtain rfl : xs = ds := by
      rcases e with e | e
      · cases e
      · cases e; rfl
    obtain ⟨a, xs, rfl, h1, r⟩ := h
    exact ⟨false, a, xs, rfl, h1, r⟩
  | _ => rcases e with e | e <;> cases e
theorem seqIn_H (s : Same F H) (h : RB K H F d v) (e : seqD d = .ok ds ∨ d = .ext ds) : SeqIn K H F v ds := by
  rcases h with h | ⟨es, a, xs, rfl, rfl, h1, r⟩
  · obtain ⟨t, a, xs, rfl, q, r⟩ := seqIn_F h e
    exact ⟨t, a, xs, rfl, q.mono s, r⟩
  · obtain rfl : es = ds := by
      rcases e with e | e
      · cases e; rfl
      · cases e
    exact ⟨false, a, xs, rfl, SqL.of h1, r⟩
end
theorem seqD_cases (d : D) : (∃ ds, seqD d = .ok ds) ∨ seqD d = .bad := by
  cases d with
  | lst xs => exact .inl ⟨xs, rfl⟩
  | tup xs => exact .inl ⟨xs, rfl⟩
  | _ => exact .inr rfl
/-- an iterator's wish, L what must stand -/
abbrev rItL (L : Hp → Hp → Hp) (K : PySem.W.Frag) : RR (List D) It := fun _ _ H' F' ds J => IterOk K J (L H' F') F' ds
section
variable {X : Cx} {S : Hd} {W : WX} {tg a b c e : Expr} {fa fb : EV} {p pos : Pos}
theorem clI {L : Hp → Hp → Hp} {K : PySem.W.Frag} : Cl (rItL L K) := fun _ _ _ _ _ _ _ _ _ q => q
theorem i_seq (ha : DE X S W a fa) : DI X S W tg a (iSeq fa) := by
  refine piW (pi_seqX ha) fun σ H R hq => ?_
  obtain ⟨H0, F0, ρ, F, s, po⟩ := hq
  refine ⟨H0, F0, ρ, F, s, Po.of_bind (R := rIt X.K) clI po fun x v H1 F1 t1 z1 r1 p1 => ?_⟩
  have go : ∀ ds, seqD x = .ok ds ∨ x = .ext ds → Po X.K W σ H1 F1 (rIt X.K) (.ok ds) R → ∃ t a xs, v = .ref a ∧ SqX X.K t H1 a xs ∧ (HSz X.K H1 → R (ItsX X.K t a) H1) := fun ds e p1 => by
    obtain ⟨t, a, xs, rfl, q, r⟩ := seqIn_F r1 e
    exact ⟨t, a, xs, rfl, q.mono t1.ok, fun z => p1 _ H1 F1 (Step.refl t1.ok) z (iterOk_seq q r (by rw [← r.length]; exact sqX_len z1 (q.mono t1.ok)))⟩
  cases x with
  | lst ds => exact go ds (.inl rfl) p1
  | tup ds => exact go ds (.inl rfl) p1
  | ext ds => exact go ds (.inr rfl) p1
  | _ => exact p1.elim
theorem ib_seq (ha : DB X S W a fa) : DIB X S W tg a (iSeq fa) := by
  refine piW (pi_seqX ha) fun σ H R hq => ?_
  obtain ⟨H0, F0, ρ, F, s, po⟩ := hq
  refine ⟨H0, F0, ρ, F, s, Po.of_bind (R := rItB X.K) (fun _ _ _ _ _ _ _ _ _ q => q) po fun x v H1 F1 t1 z1 r1 p1 => ?_⟩
  have go : ∀ ds, seqD x = .ok ds ∨ x = .ext ds → Po X.K W σ H1 F1 (rItB X.K) (.ok ds) R → ∃ t a xs, v = .ref a ∧ SqX X.K t H1 a xs ∧ (HSz X.K H1 → R (ItsX X.K t a) H1) := fun ds e p1 => by
    obtain ⟨t, a, xs, rfl, q, r⟩ := seqIn_H t1.ok r1 e
    exact ⟨t, a, xs, rfl, q, fun z => p1 _ H1 F1 (Step.refl t1.ok) z (iterOk_seq q r (by rw [← r.length]; exact sqX_len z1 q))⟩
  cases x with
  | lst ds => exact go ds (.inl rfl) p1
  | tup ds => exact go ds (.inl rfl) p1
  | ext ds => exact go ds (.inr rfl) p1
  | _ => exact p1.elim
section
variable {L : Hp → Hp → Hp}
theorem i_rng1 (hg : Gl X "range") (hm : X.mg "range" = none) (ha : DB X S W a fa) (hs : starEach [a] X.env = (false, eval a X.env) :: starEach [] X.env := by rfl) : PI X tg (.Call (.Name "range" p) [a] [] pos) (tG X.K S W (rItL L X.K) (iRng1 fa)) := by
  refine piW (pi_range1 hg hm (pa_cons ha pa_nil hs) (by rw [hs]; rfl)) fun σ H R hq => ?_
  obtain ⟨H0, F0, ρ, F, s, po⟩ := hq
  refine ⟨H0, F0, ρ, F, s, Po.of_bind (R := rItL L X.K) clI po fun x v H1 F1 t1 z1 r1 p1 => ?_⟩
  cases x with
  | int n =>
    obtain rfl : v = .int n := RB.int r1
    replace p1 : Po X.K W σ H1 F1 (rItL L X.K) (if -4611686018427387904 ≤ n ∧ n ≤ line then .ok (rng 0 n) else .bad) R := p1
    by_cases hn : -4611686018427387904 ≤ n ∧ n ≤ line
    · rw [if_pos hn] at p1
      obtain ⟨h1, h2⟩ := hn
      have h2' : n ≤ 16777216 := h2
      refine ⟨n, rfl, by omega, by omega, fun z => ?_⟩
      have e : n.toNat = (n - 0).toNat := by omega
      rw [e]
      exact p1 _ H1 F1 (Step.refl t1.ok) z (iterOk_rng (by rw [← lineS]; show _ ≤ 16777216; omega))
    · rw [if_neg hn] at p1
      exact p1.elim
  | _ => exact p1.elim
theorem i_rng2 (hg : Gl X "range") (hm : X.mg "range" = none) (ha : DB X S W a fa) (hb : DB X S W b fb) (hs : starEach [a, b] X.env = (false, eval a X.env) :: starEach [b] X.env := by rfl) (hs2 : starEach [b] X.env = (false, eval b X.env) :: starEach [] X.env := by rfl) :
    PI X tg (.Call (.Name "range" p) [a, b] [] pos) (tG X.K S W (rItL L X.K) (iRng2 fa fb)) := by
  refine piW (pi_range2 hg hm (pa_cons ha (pa_cons hb pa_nil hs2) hs) (by rw [hs, hs2]; rfl) (by rw [hs2]; rfl)) fun σ H R hq => ?_
  obtain ⟨H0, F0, ρ, F, s, po⟩ := hq
  refine ⟨H0, F0, ρ, F, s, Po.of_bind (R := rItL L X.K) clI po fun x v H1 F1 t1 z1 r1 p1 => ⟨H0, F0, ρ, F1, s.go t1, Po.of_bind (R := rItL L X.K) clI p1 fun y u H2 F2 t2 z2 r2 p2 => ?_⟩⟩
  cases x with
  | int m =>
    cases y with
    | int n =>
      obtain rfl : v = .int m := RB.int r1
      obtain rfl : u = .int n := RB.int r2
      have p2' : Po X.K W σ H2 F2 (rItL L X.K) (if -1073741824 ≤ m ∧ m ≤ 1073741824 ∧ -1073741824 ≤ n ∧ n ≤ 1073741824 ∧ (n - m).toNat ≤ line then .ok (rng m n) else .bad) R := p2
      by_cases hn : -1073741824 ≤ m ∧ m ≤ 1073741824 ∧ -1073741824 ≤ n ∧ n ≤ 1073741824 ∧ (n - m).toNat ≤ line
      · rw [if_pos hn] at p2'
        obtain ⟨h1, h2, h3, h4, h5⟩ := hn
        refine ⟨m, n, rfl, ⟨by omega, by omega, by omega, by omega⟩, fun z => ?_⟩
        exact p2' _ H2 F2 (Step.refl t2.ok) z (iterOk_rng (by rw [← lineS]; exact h5))
      · rw [if_neg hn] at p2'
        exact p2'.elim
    | _ => exact p2.elim
  | _ => exact p2.elim
theorem i_rngD (hg : Gl X "range") (hm : X.mg "range" = none) (ha : DB X S W a fa) (hb : DB X S W b fb) (hc : DE X S W c (eC (.int (-1))))
    (hs : starEach [a, b, c] X.env = (false, eval a X.env) :: starEach [b, c] X.env := by rfl) (hs2 : starEach [b, c] X.env = (false, eval b X.env) :: starEach [c] X.env := by rfl) (hs3 : starEach [c] X.env = (false, eval c X.env) :: starEach [] X.env := by rfl) :
    PI X tg (.Call (.Name "range" p) [a, b, c] [] pos) (tG X.K S W (rItL L X.K) (iRngD fa fb)) := by
  refine piW (pi_range3 hg hm (pa_cons ha (pa_cons hb (pa_cons hc pa_nil hs3) hs2) hs) hs (by rw [hs2, hs3]; rfl)) fun σ H R hq => ?_
  obtain ⟨H0, F0, ρ, F, s, po⟩ := hq
  refine ⟨H0, F0, ρ, F, s, Po.of_bind (R := rItL L X.K) clI po fun x v H1 F1 t1 z1 r1 p1 => ⟨H0, F0, ρ, F1, s.go t1, Po.of_bind (R := rItL L X.K) clI p1 fun y u H2 F2 t2 z2 r2 p2 =>
    ⟨H0, F0, ρ, F2, (s.go t1).go t2, fun k H3 F3 t3 z3 r3 => ?_⟩⟩⟩
  have p3 := Po.go (R := rItL L X.K) clI t3 p2
  obtain rfl : k = .int (-1) := r3
  cases x with
  | int m =>
    cases y with
    | int n =>
      obtain rfl : v = .int m := RB.int r1
      obtain rfl : u = .int n := RB.int r2
      have p3' : Po X.K W σ H3 F3 (rItL L X.K) (if -1073741824 ≤ m ∧ m ≤ 1073741824 ∧ -1073741824 ≤ n ∧ n ≤ 1073741824 ∧ (m - n).toNat ≤ line then .ok (rngD m n) else .bad) R := p3
      by_cases hn : -1073741824 ≤ m ∧ m ≤ 1073741824 ∧ -1073741824 ≤ n ∧ n ≤ 1073741824 ∧ (m - n).toNat ≤ line
      · rw [if_pos hn] at p3'
        obtain ⟨h1, h2, h3, h4, h5⟩ := hn
        refine ⟨m, n, -1, _, rfl, RgC.neg (by omega) (by omega) (by omega) (by omega), fun z => ?_⟩
        exact p3' _ H3 F3 (Step.refl t3.ok) z (iterOk_rngD (by rw [← lineS]; exact h5))
      · rw [if_neg hn] at p3'
        exact p3'.elim
    | _ => exact p3.elim
  | _ => exact p3.elim
end
theorem i_enum {elts : List Expr} {kk : Nat} {tpos : Pos} (hg : Gl X "enumerate") (hm : X.mg "enumerate" = none) (ha : DE X S W a fa) (hs : starEach [a] X.env = (false, eval a X.env) :: starEach [] X.env := by rfl) : DI X S W (.Tuple elts kk tpos) (.Call (.Name "enumerate" p) [a] [] pos) (iEnum fa) := by
  refine piW (pi_enumX hg hm (pa_cons ha pa_nil hs) hs) fun σ H R hq => ?_
  obtain ⟨H0, F0, ρ, F, s, po⟩ := hq
  refine ⟨H0, F0, ρ, F, s, Po.of_bind (R := rIt X.K) clI po fun x v H1 F1 t1 z1 r1 p1 => ?_⟩
  rcases seqD_cases x with ⟨ds, e⟩ | e
  · rw [e] at p1
    obtain ⟨t, a, xs, rfl, q, r⟩ := seqIn_F r1 (.inl e)
    exact ⟨t, a, xs, rfl, q.mono t1.ok, fun z => p1 _ H1 F1 (Step.refl t1.ok) z (iterOk_enum q r (by rw [← r.length]; exact sqX_len z1 (q.mono t1.ok)))⟩
  · rw [e] at p1
    exact p1.elim
theorem ib_enum {elts : List Expr} {kk : Nat} {tpos : Pos} (hg : Gl X "enumerate") (hm : X.mg "enumerate" = none) (ha : DB X S W a fa) (hs : starEach [a] X.env = (false, eval a X.env) :: starEach [] X.env := by rfl) : DIB X S W (.Tuple elts kk tpos) (.Call (.Name "enumerate" p) [a] [] pos) (iEnum fa) := by
  refine piW (pi_enumX hg hm (pa_cons ha pa_nil hs) hs) fun σ H R hq => ?_
  obtain ⟨H0, F0, ρ, F, s, po⟩ := hq
  refine ⟨H0, F0, ρ, F, s, Po.of_bind (R := rItB X.K) (fun _ _ _ _ _ _ _ _ _ q => q) po fun x v H1 F1 t1 z1 r1 p1 => ?_⟩
  rcases seqD_cases x with ⟨ds, e⟩ | e
  · rw [e] at p1
    obtain ⟨t, a, xs, rfl, q, r⟩ := seqIn_H t1.ok r1 (.inl e)
    exact ⟨t, a, xs, rfl, q, fun z => p1 _ H1 F1 (Step.refl t1.ok) z (iterOk_enum q r (by rw [← r.length]; exact sqX_len z1 q))⟩
  · rw [e] at p1
    exact p1.elim
theorem i_zip {elts : List Expr} {kk : Nat} {tpos : Pos} (hg : Gl X "zip") (hm : X.mg "zip" = none) (ha : DE X S W a fa) (hb : DE X S W b fb)
    (hs : starEach [a, b] X.env = (false, eval a X.env) :: starEach [b] X.env := by rfl) (hs2 : starEach [b] X.env = (false, eval b X.env) :: starEach [] X.env := by rfl) : DI X S W (.Tuple elts kk tpos) (.Call (.Name "zip" p) [a, b] [] pos) (iZip fa fb) := by
  refine piW (pi_zipX hg hm (pa_cons ha (pa_cons hb pa_nil hs2) hs) hs (by rw [hs2]; rfl)) fun σ H R hq => ?_
  obtain ⟨H0, F0, ρ, F, s, po⟩ := hq
  refine ⟨H0, F0, ρ, F, s, Po.of_bind (R := rIt X.K) clI po fun x v H1 F1 t1 z1 r1 p1 => ⟨H0, F0, ρ, F1, s.go t1, Po.of_bind (R := rIt X.K) clI p1 fun y u H2 F2 t2 z2 r2 p2 => ?_⟩⟩
  rcases seqD_cases x with ⟨ds, e⟩ | e
  · rcases seqD_cases y with ⟨es, e'⟩ | e'
    · rw [e] at p2
      have p3 : Po X.K W σ H2 F2 (rIt X.K) ((seqD y).bind fun ys => .ok (zipD ds ys)) R := p2
      rw [e'] at p3
      obtain ⟨t, a, xs, rfl, q, r⟩ := seqIn_F r1 (.inl e)
      obtain ⟨t', a', xs', rfl, q', r'⟩ := seqIn_F r2 (.inl e')
      have q2 := q.mono t2.le
      exact ⟨t, t', a, a', xs, xs', rfl, q2.mono t2.ok, q'.mono t2.ok, fun z => p3 _ H2 F2 (Step.refl t2.ok) z (iterOk_zip q2 q' (Reps.mono t2.le _ _ r) r' (by rw [← r.length]; exact sqX_len z2 (q2.mono t2.ok)))⟩
    · rw [e] at p2
      have p3 : Po X.K W σ H2 F2 (rIt X.K) ((seqD y).bind fun ys => .ok (zipD ds ys)) R := p2
      rw [e'] at p3
      exact p3.elim
  · rw [e] at p2
    exact p2.elim
theorem ib_zip {elts : List Expr} {kk : Nat} {tpos : Pos} (hg : Gl X "zip") (hm : X.mg "zip" = none) (ha : DB X S W a fa) (hb : DB X S W b fb)
    (hs : starEach [a, b] X.env = (false, eval a X.env) :: starEach [b] X.env := by rfl) (hs2 : starEach [b] X.env = (false, eval b X.env) :: starEach [] X.env := by rfl) : DIB X S W (.Tuple elts kk tpos) (.Call (.Name "zip" p) [a, b] [] pos) (iZip fa fb) := by
  refine piW (pi_zipX hg hm (pa_cons ha (pa_cons hb pa_nil hs2) hs) hs (by rw [hs2]; rfl)) fun σ H R hq => ?_
  obtain ⟨H0, F0, ρ, F, s, po⟩ := hq
  refine ⟨H0, F0, ρ, F, s, Po.of_bind (R := rItB X.K) (fun _ _ _ _ _ _ _ _ _ q => q) po fun x v H1 F1 t1 z1 r1 p1 => ⟨H0, F0, ρ, F1, s.go t1, Po.of_bind (R := rItB X.K) (fun _ _ _ _ _ _ _ _ _ q => q) p1 fun y u H2 F2 t2 z2 r2 p2 => ?_⟩⟩
  rcases seqD_cases x with ⟨ds, e⟩ | e
  · rcases seqD_cases y with ⟨es, e'⟩ | e'
    · rw [e] at p2
      have p3 : Po X.K W σ H2 F2 (rItB X.K) ((seqD y).bind fun ys => .ok (zipD ds ys)) R := p2
      rw [e'] at p3
      obtain ⟨t, a, xs, rfl, q, r⟩ := seqIn_H t1.ok r1 (.inl e)
      obtain ⟨t', a', xs', rfl, q', r'⟩ := seqIn_H t2.ok r2 (.inl e')
      have q2 := q.mono t2.same
      exact ⟨t, t', a, a', xs, xs', rfl, q2, q', fun z => p3 _ H2 F2 (Step.refl t2.ok) z (iterOk_zip q2 q' (Reps.mono t2.le _ _ r) r' (by rw [← r.length]; exact sqX_len z2 q2))⟩
    · rw [e] at p2
      have p3 : Po X.K W σ H2 F2 (rItB X.K) ((seqD y).bind fun ys => .ok (zipD ds ys)) R := p2
      rw [e'] at p3
      exact p3.elim
  · rw [e] at p2
    exact p2.elim
theorem i_rev (hg : Gl X "reversed") (hm : X.mg "reversed" = none) (ha : DE X S W a fa) (hs : starEach [a] X.env = (false, eval a X.env) :: starEach [] X.env := by rfl) : DI X S W tg (.Call (.Name "reversed" p) [a] [] pos) (iRev fa) := by
  refine piW (RT.pi_revA hg hm ha hs) fun σ H R hq => ?_
  obtain ⟨H0, F0, ρ, F, s, po⟩ := hq
  refine ⟨H0, F0, ρ, F, s, Po.of_bind (R := rIt X.K) clI po fun x v H1 F1 t1 z1 r1 p1 => ?_⟩
  rcases seqD_cases x with ⟨ds, e⟩ | e
  · rw [e] at p1
    obtain ⟨t, a, xs, rfl, q, r⟩ := seqIn_F r1 (.inl e)
    have hl : ds.length ≤ sizeLine := by rw [← r.length]; exact sqX_len z1 (q.mono t1.ok)
    cases t with
    | false => exact ⟨a, xs, rfl, .inl ⟨q.mono t1.ok, fun z => p1 _ H1 F1 (Step.refl t1.ok) z (iterOk_rev (t := false) q r hl rfl)⟩⟩
    | true => exact ⟨a, xs, rfl, .inr ⟨q.mono t1.ok, fun z => p1 _ H1 F1 (Step.refl t1.ok) z (iterOk_rev (t := true) q r hl rfl)⟩⟩
  · rw [e] at p1
    exact p1.elim
theorem ib_rev (hg : Gl X "reversed") (hm : X.mg "reversed" = none) (ha : DB X S W a fa) (hs : starEach [a] X.env = (false, eval a X.env) :: starEach [] X.env := by rfl) : DIB X S W tg (.Call (.Name "reversed" p) [a] [] pos) (iRev fa) := by
  refine piW (RT.pi_revA hg hm ha hs) fun σ H R hq => ?_
  obtain ⟨H0, F0, ρ, F, s, po⟩ := hq
  refine ⟨H0, F0, ρ, F, s, Po.of_bind (R := rItB X.K) (fun _ _ _ _ _ _ _ _ _ q => q) po fun x v H1 F1 t1 z1 r1 p1 => ?_⟩
  rcases seqD_cases x with ⟨ds, e⟩ | e
  · rw [e] at p1
    obtain ⟨t, a, xs, rfl, q, r⟩ := seqIn_H t1.ok r1 (.inl e)
    have hl : ds.length ≤ sizeLine := by rw [← r.length]; exact sqX_len z1 q
    cases t with
    | false => exact ⟨a, xs, rfl, .inl ⟨q, fun z => p1 _ H1 F1 (Step.refl t1.ok) z (iterOk_rev (t := false) q r hl rfl)⟩⟩
    | true => exact ⟨a, xs, rfl, .inr ⟨q, fun z => p1 _ H1 F1 (Step.refl t1.ok) z (iterOk_rev (t := true) q r hl rfl)⟩⟩
  · rw [e] at p1
    exact p1.elim
end
end Pu

/-! Pu, part I: targets; list comprehensions. -/
namespace Pu
open PySem PySem.Spec PyProof.Rows L2

/-! ### targets -/
/-- what a store into a target does to the slots -/
structure Stored (K : PySem.W.Frag) (S : Hd) (H0 F0 F : Hp) (ts : List Nat) (ρ ρ' : Env) (σ σ' : L2.St) : Prop where
  sim : ∀ H F', Same F F' → Sim K S H0 F0 ρ σ H F' → Sim K S H0 F0 ρ' σ' H F'
  wipe : ∀ vs : List Nat, (∀ t ∈ ts, t ∈ vs) → L2.wipe σ' vs = L2.wipe σ vs
def tT (K : PySem.W.Frag) (S : Hd) (g : GV) (ts : List Nat) : TG := fun v σ H Q => ∃ H0 F0 ρ F d ρ', Sim K S H0 F0 ρ σ H F ∧ Rep K F d v ∧ g d ρ = .ok ρ' ∧ ∀ σ', Stored K S H0 F0 F ts ρ ρ' σ σ' → Q σ' H
def tTs (K : PySem.W.Frag) (S : Hd) (g : GVs) (ts : List Nat) : TGs := fun vs σ H Q => ∃ H0 F0 ρ F ds ρ', Sim K S H0 F0 ρ σ H F ∧ Reps K F ds vs ∧ g ds ρ = .ok ρ' ∧ ∀ σ', Stored K S H0 F0 F ts ρ ρ' σ σ' → Q σ' H
abbrev DG (X : Cx) (S : Hd) (e : Expr) (g : GV) (ts : List Nat) : Prop := PG X e (tT X.K S g ts)
structure DGs (X : Cx) (S : Hd) (es : List Expr) (n : Nat) (g : GVs) (ts : List Nat) : Prop where
  pg : PGs X es (tTs X.K S g ts)
  len : ∀ ds ρ ρ', g ds ρ = .ok ρ' → ds.length = n
theorem wipe_setIn {σ : L2.St} {i : Nat} {x : Option V} : ∀ {vs : List Nat}, i ∈ vs → L2.wipe (σ.set i x) vs = L2.wipe σ vs
  | v :: vs, h => by
    unfold L2.wipe
    by_cases m : i ∈ vs
    · rw [wipe_setIn m]
    · obtain rfl : i = v := by
        rcases List.mem_cons.mp h with e | e
        · exact e
        · exact absurd e m
      -- the slot is emptied anyway
      have far : ∀ (σ : L2.St) (vs : List Nat), i ∉ vs → L2.wipe (σ.set i x) vs = (L2.wipe σ vs).set i x := fun σ vs => by
        induction vs with
        | nil => exact fun _ => rfl
        | cons w ws ih =>
          intro hn
          unfold L2.wipe
          rw [ih (fun z => hn (List.mem_cons_of_mem _ z)), List.set_comm]
          exact fun e => hn (by rw [← e]; exact List.mem_cons_self)
      rw [far σ vs m, List.set_set]
theorem wipe_wipe {σ : L2.St} {us : List Nat} : ∀ {vs : List Nat}, (∀ t ∈ us, t ∈ vs) → L2.wipe (L2.wipe σ us) vs = L2.wipe σ vs := fun {vs} h => by
  induction us with
  | nil => rfl
  | cons u us ih =>
    show L2.wipe ((L2.wipe σ us).set u none) vs = L2.wipe σ vs
    rw [wipe_setIn (h u List.mem_cons_self)]
    exact ih fun t ht => h t (List.mem_cons_of_mem _ ht)
section
variable {X : Cx} {S : Hd} {pos : Pos}
theorem Stored.refl {K : PySem.W.Frag} {H0 F0 F : Hp} {ρ : Env} {σ : L2.St} {ts : List Nat} : Stored K S H0 F0 F ts ρ ρ σ σ := ⟨fun _ _ _ s => s, fun _ _ => rfl⟩
theorem g_nm (i : Nat) {x : Str} (hN : X.N.Nodup) (hi : X.N[i]? = some x) (hx : Loc X.env.scope x) (hf : X.fn x = true ∨ X.env.scope.names.lookup x = some .local) : DG X S (.Name x pos) (gNm i) [i] := by
  refine pgW (pg_name hN hi hx hf) fun v σ H Q hq => ?_
  obtain ⟨H0, F0, ρ, F, d, ρ', s, r, e, k⟩ := hq
  cases e
  exact k _ ⟨fun H' F' sf s' => s'.set i (Rep.mono sf _ _ r), fun vs h => wipe_setIn (h i List.mem_cons_self)⟩
theorem pgsW {es : List Expr} {t t' : TGs} (h : PGs X es t) (k : ∀ v σ H Q, t' v σ H Q → t v σ H Q) : PGs X es t' :=
  ⟨fun pins s σ H v u Q I r q => h.run pins s σ H v u Q I r (k v σ H Q q)⟩
theorem gs_nil : DGs X S [] 0 gNl [] := by
  refine ⟨pgsW pgs_nil fun v σ H Q hq => ?_, fun ds ρ ρ' e => ?_⟩
  · obtain ⟨H0, F0, ρ, F, ds, ρ', s, r, e, k⟩ := hq
    cases ds with
    | nil =>
      cases e
      exact ⟨r, k _ Stored.refl⟩
    | cons d ds => cases e
  · cases ds with
    | nil => rfl
    | cons d ds => cases e
theorem gs_cons {e : Expr} {es : List Expr} {g : GV} {gs : GVs} {ts us : List Nat} {n : Nat} (h1 : DG X S e g ts) (h2 : DGs X S es n gs us)
    (hs : (assignEach (e :: es) X.env).map (·.2) = assign e X.env :: (assignEach es X.env).map (·.2) := by rfl) : DGs X S (e :: es) (n + 1) (gCn g gs) (ts ++ us) := by
  refine ⟨pgsW (pgs_cons h1 h2.pg hs) fun v σ H Q hq => ?_, fun ds ρ ρ' e => ?_⟩
  · obtain ⟨H0, F0, ρ, F, ds, ρ', s, r, e, k⟩ := hq
    cases ds with
    | nil => cases e
    | cons d ds =>
      obtain ⟨y, ys, rfl, r1, r2⟩ := r
      have e' : (g d ρ).bind (fun ρ' => gs ds ρ') = .ok ρ' := e
      cases eg : g d ρ with
      | ok ρ1 =>
        rw [eg] at e'
        refine ⟨y, ys, rfl, H0, F0, ρ, F, d, ρ1, s, r1, eg, fun σ1 st1 => ⟨H0, F0, ρ1, F, ds, ρ', st1.sim H F (Same.refl _) s, r2, e', fun σ2 st2 => k σ2 ⟨fun H' F' sf s' => st2.sim H' F' sf (st1.sim H' F' sf s'), fun vs hv => ?_⟩⟩⟩
        rw [st2.wipe vs fun t ht => hv t (List.mem_append_right _ ht), st1.wipe vs fun t ht => hv t (List.mem_append_left _ ht)]
      | exc C fs => rw [eg] at e'; cases e'
      | bad => rw [eg] at e'; cases e'
  · cases ds with
    | nil => cases e
    | cons d ds =>
      have e' : (g d ρ).bind (fun ρ' => gs ds ρ') = .ok ρ' := e
      cases eg : g d ρ with
      | ok ρ1 =>
        rw [eg] at e'
        rw [List.length_cons, h2.len _ _ _ e']
      | exc C fs => rw [eg] at e'; cases e'
      | bad => rw [eg] at e'; cases e'
theorem g_tu {es : List Expr} {k n : Nat} {g : GVs} {ts : List Nat} (hc : X.calm = true) (h : DGs X S es n g ts) (hn : (assignEach es X.env).length = n := by rfl) (hst : (assignEach es X.env).findIdx? (·.1) = none := by rfl) : DG X S (.Tuple es k pos) (gTu g) ts := by
  refine ⟨fun pins s σ H v u Q I r hq => ?_⟩
  obtain ⟨H0, F0, ρ, F, d, ρ', sm, rd, e, kk⟩ := hq
  cases d with
  | tup ds =>
    obtain ⟨a, xs, rfl, q, rs⟩ := rd
    exact (pg_tup (n := n) hc h.pg hn hst).run pins s σ H _ u Q I r ⟨a, xs, rfl, sqT_mono sm.same q, by rw [rs.length, h.len _ _ _ e], H0, F0, ρ, F, ds, ρ', sm, rs, e, kk⟩
  | lst ds =>
    obtain ⟨a, xs, rfl, q, rs⟩ := rd
    exact (pg_unl (n := n) hc h.pg hn hst).run pins s σ H _ u Q I r ⟨a, xs, rfl, SqL.of (sm.same _ _ q), by rw [rs.length, h.len _ _ _ e], H0, F0, ρ, F, ds, ρ', sm, rs, e, kk⟩
  | _ => cases e
end

/-! ### what a comprehension gathers, turn by turn -/
def Gath (P : Nat → D → List D → List D → Prop) (ds : List D) (done ys : List D) : Prop :=
  ∃ yl : Nat → List D, yl 0 = done ∧ yl ds.length = ys ∧ ∀ i d, ds[i]? = some d → P i d (yl i) (yl (i + 1))
def Turn1 (g : GV) (t : TV) (e : EV) (ρ : Env) (d : D) (a b : List D) : Prop :=
  ∃ ρ1, g d ρ = .ok ρ1 ∧ ((t ρ1 = .ok true ∧ ∃ y, e ρ1 = .ok y ∧ b = a ++ [y]) ∨ (t ρ1 = .ok false ∧ b = a))
theorem quiet_ok {α : Type} {r : Res α} {a : α} (h : quiet r = .ok a) : r = .ok a := by
  cases r with
  | ok b => exact h
  | exc C fs => cases h
  | bad => cases h
theorem quiet_exc {α : Type} {r : Res α} {C : Str} {fs : List (Str × D)} : quiet r ≠ .exc C fs := by
  cases r <;> intro h <;> cases h
theorem bind_ok {α β : Type} {r : Res α} {f : α → Res β} {b : β} (h : r.bind f = .ok b) : ∃ a, r = .ok a ∧ f a = .ok b := by
  cases r with
  | ok a => exact ⟨a, rfl, h⟩
  | exc C fs => cases h
  | bad => cases h
theorem compL_exc {g : GV} {t : TV} {e : EV} {ρ : Env} {C : Str} {fs : List (Str × D)} : ∀ ds, compL g t e ρ ds ≠ .exc C fs
  | [] => by intro h; cases h
  | d :: ds => by
    intro h
    unfold compL at h
    cases q : quiet (g d ρ) with
    | exc C fs => exact quiet_exc q
    | bad => rw [q] at h; cases h
    | ok ρ1 =>
      rw [q] at h
      change ((quiet (t ρ1)).bind _) = _ at h
      cases q2 : quiet (t ρ1) with
      | exc C fs => exact quiet_exc q2
      | bad => rw [q2] at h; cases h
      | ok k =>
        rw [q2] at h
        cases k with
        | false => exact compL_exc ds h
        | true =>
          change ((quiet (e ρ1)).bind _) = _ at h
          cases q3 : quiet (e ρ1) with
          | exc C fs => exact quiet_exc q3
          | bad => rw [q3] at h; cases h
          | ok y =>
            rw [q3] at h
            change ((compL g t e ρ ds).bind _) = _ at h
            cases q4 : compL g t e ρ ds with
            | exc C fs => exact compL_exc ds q4
            | bad => rw [q4] at h; cases h
            | ok ys => rw [q4] at h; cases h
theorem gath_cons {P : Nat → D → List D → List D → Prop} {d : D} {ds : List D} {a b c : List D} (h : P 0 d a b) (t : Gath (fun i => P (i + 1)) ds b c) : Gath P (d :: ds) a c := by
  obtain ⟨yl, h0, hn, hs⟩ := t
  refine ⟨fun i => match i with | 0 => a | i + 1 => yl i, rfl, hn, fun i d' e => ?_⟩
  cases i with
  | zero =>
    obtain rfl : d = d' := by simpa using e
    show P 0 d a (yl 0)
    rw [h0]
    exact h
  | succ i => exact hs i d' (by simpa using e)
theorem gath_nil {P : Nat → D → List D → List D → Prop} {a : List D} : Gath P [] a a := ⟨fun _ => a, rfl, rfl, fun i d e => by simp at e⟩
theorem compL_gath {g : GV} {t : TV} {e : EV} {ρ : Env} : ∀ {ds ys : List D} (a : List D), compL g t e ρ ds = .ok ys → Gath (fun _ => Turn1 g t e ρ) ds a (a ++ ys)
  | [], ys, a, h => by
    cases h
    rw [List.append_nil]
    exact gath_nil
  | d :: ds, ys, a, h => by
    unfold compL at h
    obtain ⟨ρ1, h1, h⟩ := bind_ok h
    obtain ⟨k, h2, h⟩ := bind_ok h
    cases k with
    | false => exact gath_cons ⟨ρ1, quiet_ok h1, .inr ⟨quiet_ok h2, rfl⟩⟩ (compL_gath a h)
    | true =>
      obtain ⟨y, h3, h⟩ := bind_ok h
      obtain ⟨zs, h4, h⟩ := bind_ok h
      cases h
      have e : a ++ y :: zs = (a ++ [y]) ++ zs := by simp
      rw [e]
      exact gath_cons ⟨ρ1, quiet_ok h1, .inl ⟨quiet_ok h2, y, quiet_ok h3, rfl⟩⟩ (compL_gath (a ++ [y]) h4)
theorem compL_length {g : GV} {t : TV} {e : EV} {ρ : Env} : ∀ {ds ys : List D}, compL g t e ρ ds = .ok ys → ys.length ≤ ds.length
  | [], ys, h => by cases h; exact Nat.le_refl _
  | d :: ds, ys, h => by
    unfold compL at h
    obtain ⟨ρ1, h1, h⟩ := bind_ok h
    obtain ⟨k, h2, h⟩ := bind_ok h
    cases k with
    | false => exact Nat.le_succ_of_le (compL_length h)
    | true =>
      obtain ⟨y, h3, h⟩ := bind_ok h
      obtain ⟨zs, h4, h⟩ := bind_ok h
      cases h
      exact Nat.succ_le_succ (compL_length h4)

/-! ### the new list grows -/
/-- the new list at D holds ys; B, FB: the heap and its frozen part ahead of it -/
def Grown (K : PySem.W.Frag) (B FB : Hp) (Z : Addr) (ys : List D) (H : Hp) : Prop := ∃ F acc, Step B FB H F ∧ H Z = some (.lst acc) ∧ F Z = none ∧ Reps K F ys acc
theorem IterOk.wider {K : PySem.W.Frag} {J : It} {L L' F : Hp} {ds : List D} (h : IterOk K J L F ds) (s : Same L L') : IterOk K J L' F ds :=
  ⟨h.len, fun i H' hi e => h.goes i H' hi (s.trans e), fun H' e => h.stops H' (s.trans e), fun i H1 F1 x H2 hi e => h.yields i H1 F1 x H2 hi (s.trans e)⟩
theorem lc_loop {K : PySem.W.Frag} {J : It} {B FB : Hp} {Z : Addr} {ds done ys : List D} {P : Nat → D → List D → List D → Prop} {END : Hp → Prop} {BODY : V → Hp → (Hp → Prop) → Prop} {H : Hp} (it : IterOk K J B FB ds) (hg : Gath P ds done ys)
    (h0 : Grown K B FB Z done H) (hend : ∀ H, Grown K B FB Z ys H → END H)
    (hstep : ∀ i x d H' F' acc a b (Nx : Hp → Prop), ds[i]? = some d → P i d a b → Step B FB H' F' → H' Z = some (.lst acc) → F' Z = none → Reps K F' a acc → Rep K F' d x → (∀ H2, Grown K B FB Z b H2 → Nx H2) → BODY x H' Nx) :
    ∃ W : Nat → Nat → Hp → Prop, (∃ m, W 0 m H) ∧ ∀ i m H, W i m H →
      (J.stop i H ∧ END H) ∨ (J.go i H ∧ ∃ Nx : Hp → Prop, (∀ H', Nx H' → ∃ m', m' < m ∧ W (i + 1) m' H') ∧ ∀ x H', J.yld i H x H' → BODY x H' Nx) := by
  obtain ⟨yl, y0, yn, hs⟩ := hg
  refine ⟨fun i m H => m = ds.length - i ∧ i ≤ ds.length ∧ Grown K B FB Z (yl i) H, ⟨_, rfl, Nat.zero_le _, by rw [y0]; exact h0⟩, ?_⟩
  rintro i m H ⟨rfl, hi, gr⟩
  by_cases hlt : i < ds.length
  · obtain ⟨F, acc, st, hD, hF, r⟩ := gr
    refine .inr ⟨it.goes i H hlt st.same, Grown K B FB Z (yl (i + 1)), fun H' g => ⟨_, by omega, rfl, hlt, g⟩, fun x H' y => ?_⟩
    obtain ⟨F2, d, hd, st2, rd⟩ := it.yields i H F x H' hlt st.same st.le st.ok y
    exact hstep i x d H' F2 acc _ _ _ hd (hs i d hd) (st.trans st2) (st2.same _ _ hD) (st2.new Z (some_ne hD) hF) (Reps.mono st2.le _ _ r) rd fun H2 g => g
  · have e : i = ds.length := by omega
    subst e
    have st : Same B H := by obtain ⟨F, acc, st, _⟩ := gr; exact st.same
    exact .inl ⟨it.stops H st, hend H (by rw [← yn]; exact gr)⟩
abbrev WF : WX := fun _ _ _ _ => False
section
variable {K : PySem.W.Frag} {S : Hd} {H0 F0 B FB : Hp} {ρ : Env} {σ : L2.St} {Z : Addr} {g : GV} {t : TV} {e : EV} {ts : List Nat}
/-- one turn -/
theorem lc_turn {vs : List Nat} {x : V} {d : D} {H' F' : Hp} {acc : List V} {a b : List D} {Nx : Hp → Prop} {n : Nat} (s : Sim K S H0 F0 ρ (L2.wipe σ vs) B FB) (hB : B Z = none) (hts : ∀ i ∈ ts, i ∈ vs) (p : Turn1 g t e ρ d a b) (hb : b.length ≤ n) (hn : n ≤ sizeLine)
    (st : Step B FB H' F') (hD : H' Z = some (.lst acc)) (hF : F' Z = none) (r : Reps K F' a acc) (rd : Rep K F' d x) (k : ∀ H2, Grown K B FB Z b H2 → Nx H2) :
    tT K S g ts x (L2.wipe σ vs) H' fun σ2 H2 => L2.wipe σ2 vs = L2.wipe σ vs ∧ tG K S WF rT t σ2 H2 fun k H3 =>
      if k = true then tG K S WF (rE K) e σ2 H3 fun y H4 => ∃ acc, H4 Z = some (.lst acc) ∧ acc.length < sizeLine ∧ Nx (upd H4 Z (.lst (acc ++ [y]))) else Nx H3 := by
  obtain ⟨ρ1, hg, hp⟩ := p
  have s1 := s.go st
  refine ⟨H0, F0, ρ, F', d, ρ1, s1, rd, hg, fun σ2 sd => ⟨?_, ?_⟩⟩
  · rw [sd.wipe vs hts, wipe_wipe fun t ht => ht]
  · have s2 := sd.sim H' F' (Same.refl _) s1
    rcases hp with ⟨ht, y, he, rfl⟩ | ⟨ht, rfl⟩
    · refine ⟨H0, F0, ρ1, F', s2, ?_⟩
      rw [ht]
      intro kk H3 F3 st3 z3 e3
      obtain rfl : kk = true := e3
      rw [if_pos rfl]
      refine ⟨H0, F0, ρ1, F3, s2.go st3, ?_⟩
      rw [he]
      intro v H4 F4 st4 z4 ry
      have st34 := st3.trans st4
      refine ⟨acc, st34.same _ _ hD, ?_, k _ ?_⟩
      · have := r.length
        rw [List.length_append, List.length_singleton] at hb
        omega
      · have hF4 := st34.new Z (some_ne hD) hF
        have stB := st.trans st34
        refine ⟨F4, acc ++ [v], ⟨stB.le, fun c u e => ?_, fun c u e => ?_, stB.new⟩, upd_same, hF4, (Reps.mono st34.le _ _ r).append (Reps.cons ry Reps.nil)⟩
        · rw [upd_ne (ne_of_none e hF4)]; exact stB.ok c u e
        · rw [upd_ne (ne_of_none e hB)]; exact stB.same c u e
    · refine ⟨H0, F0, ρ1, F', s2, ?_⟩
      rw [ht]
      intro kk H3 F3 st3 z3 e3
      obtain rfl : kk = false := e3
      rw [if_neg Bool.false_ne_true]
      exact k _ ⟨F3, acc, st.trans st3, st3.same _ _ hD, st3.new Z (some_ne hD) hF, Reps.mono st3.le _ _ r⟩
theorem gath_len {P : Nat → D → List D → List D → Prop} {ds done ys : List D} (hP : ∀ i d a b, P i d a b → a.length ≤ b.length) (h : Gath P ds done ys) : Gath (fun i d a b => P i d a b ∧ b.length ≤ ys.length) ds done ys := by
  obtain ⟨yl, y0, yn, hs⟩ := h
  refine ⟨yl, y0, yn, fun i d e => ⟨hs i d e, ?_⟩⟩
  have up : ∀ k i, i + k = ds.length → (yl i).length ≤ ys.length := fun k => by
    induction k with
    | zero => intro i h; rw [← yn, ← h]; exact Nat.le_refl _
    | succ k ih =>
      intro i h
      have hi : i < ds.length := by omega
      exact Nat.le_trans (hP i _ _ _ (hs i ds[i] (List.getElem?_eq_getElem hi))) (ih (i + 1) (by omega))
  have hi : i < ds.length := (List.getElem?_eq_some_iff.mp e).1
  exact up (ds.length - (i + 1)) (i + 1) (by omega)
theorem turn1_len {d : D} {a b : List D} (h : Turn1 g t e ρ d a b) : a.length ≤ b.length := by
  obtain ⟨ρ1, _, ⟨_, y, _, rfl⟩ | ⟨_, rfl⟩⟩ := h
  · rw [List.length_append]; omega
  · exact Nat.le_refl _
end

/-! ### one clause -/
section
variable {X : Cx} {S : Hd} {W : WX} {elt tg iter : Expr} {ifs : List Expr} {scope : Scope} {own : List (Str × Nat)} {pos spos : Pos} {src : AV} {g : GV} {ts : List Nat} {t : TV} {e : EV}
theorem ts_none : PTs X [] (tG X.K S W rT tYes) := ⟨fun pins s σ H Q I hq => pts_nil.run pins s σ H Q I (by
  obtain ⟨H0, F0, ρ, F, sm, p⟩ := hq
  exact p true H F (Step.refl sm.same) (hsz I) rfl)⟩
theorem ts_one {c : Expr} (h : DT X S W c t) : PTs X [c] (tG X.K S W rT t) := pts_one h
/-- as Po, for a place where no sizes are told -/
def Po0 {α β : Type} (K : PySem.W.Frag) (W : WX) (σ : L2.St) (H F : Hp) (R : RR α β) (r : Res α) (Q : β → Hp → Prop) : Prop :=
  match r with
  | .ok a => ∀ b H' F', Step H F H' F' → R H F H' F' a b → Q b H'
  | .exc C fs => ∀ H' F' dd, Step H F H' F' → ExcR K H' F' fs dd → W (.ref (He.ga K C)) dd σ H'
  | .bad => False
theorem Po.zero {α β : Type} {K : PySem.W.Frag} {W : WX} {σ : L2.St} {H F : Hp} {R : RR α β} {r : Res α} {Q : β → Hp → Prop} (h : Po K W σ H F R r Q) : Po0 K W σ H F R r fun b H' => HSz K H' → Q b H' := by
  cases r with
  | ok a => exact fun b H' F' t q z => h b H' F' t z q
  | exc C fs => exact h
  | bad => exact h
theorem lc_of0 {σ : L2.St} {H H0 F0 F : Hp} {ρ : Env} {Q : VK} {vs : List Nat} (hts : ∀ i ∈ ts, i ∈ vs) (s : Sim X.K S H0 F0 ρ σ H F) (p : Po0 X.K W σ H F (rL X.K) (lComp src g t e vs ρ) Q) :
    tLc (tG X.K S W (rItB X.K) src) (tT X.K S g ts) (tG X.K S WF rT t) (tG X.K S WF (rE X.K) e) vs σ H Q := by
  refine ⟨H0, F0, ρ, F, s, ?_⟩
  unfold lComp at p
  cases hsrc : src ρ with
  | exc C fs => rw [hsrc] at p; exact p
  | bad => rw [hsrc] at p; exact p
  | ok ds =>
  rw [hsrc] at p
  replace p : Po0 X.K W σ H F (rL X.K) (compL g t e (wipeE ρ vs) ds) Q := p
  intro J H1 F1 t1 z1 it Dd hDd
  have s1 := (s.go t1).wipe vs
  cases hc : compL g t e (wipeE ρ vs) ds with
  | exc C fs => exact absurd hc (compL_exc ds)
  | bad => rw [hc] at p; exact p.elim
  | ok ys =>
    rw [hc] at p
    have hF1 : F1 Dd = none := t1.ok.free hDd
    have hl : ys.length ≤ sizeLine := Nat.le_trans (compL_length hc) it.len
    have gt := gath_len (fun _ _ _ _ h => turn1_len h) (compL_gath [] hc)
    rw [List.nil_append] at gt
    refine lc_loop (Z := Dd) it gt ⟨F1, [], Step.beside t1.ok hDd, upd_same, hF1, Reps.nil⟩ (fun H2 gr => ?_) fun i x d H' F' acc a b Nx hd hp st hD hF r rd k => ?_
    · obtain ⟨F2, acc, st, hD, hF, r⟩ := gr
      exact p (.ref Dd) H2 F2 (t1.trans st) ⟨Dd, acc, rfl, t1.same.free hDd, hF, hD, r⟩
    · exact lc_turn s1 hDd hts hp.1 hp.2 hl st hD hF r rd k
theorem lc_of {σ : L2.St} {H : Hp} {Q : VK} {vs : List Nat} (hts : ∀ i ∈ ts, i ∈ vs) (hq : tG X.K S W (rL X.K) (lComp src g t e vs) σ H Q) :
    tLc (tG X.K S W (rItB X.K) src) (tT X.K S g ts) (tG X.K S WF rT t) (tG X.K S WF (rE X.K) e) vs σ H fun v H' => HSz X.K H' → Q v H' := by
  obtain ⟨H0, F0, ρ, F, s, p⟩ := hq
  exact lc_of0 hts s p.zero
theorem l_comp (cx : X.calm = true) (hN : X.N.Nodup) (hi : DIB X S W tg iter src) (ok : BlkOk X.N X.env.scope scope own)
    (hg : ∀ (s : Shared) (H : Hp) (C : Addr) (cl : List (Str × Addr)) (fp : List Addr), DG (X.blk s H scope (compEnvC scope cl C X.env) fp) S tg g ts) (hts : ∀ i ∈ ts, i ∈ own.map (·.2))
    (ht : ∀ (s : Shared) (H : Hp) (C : Addr) (cl : List (Str × Addr)) (fp : List Addr), PTs (X.blk s H scope (compEnvC scope cl C X.env) fp) ifs (tG X.K S WF rT t))
    (he : ∀ (s : Shared) (H : Hp) (C : Addr) (cl : List (Str × Addr)) (fp : List Addr), DE (X.blk s H scope (compEnvC scope cl C X.env) fp) S WF elt e) (hs : ∀ x, foldedSetIterable iter X.env x = pure x := by intro _; rfl) :
    DL X S W (.ListComp elt [⟨tg, iter, ifs, 0⟩] scope pos) (lComp src g t e (own.map (·.2))) :=
  peW (pe_lc cx hN hi ok hg ht he hs) fun σ H Q hq => lc_of hts hq
theorem ctx_blk {k : Nat} {s : Shared} {H : Hp} {env : PySem.Env} {fp : List Addr} (c : Ctx X W k) : Ctx (X.blk s H scope env fp) WF k := ⟨takes0, PassesOwn.never, c.hr⟩
end
end Pu

/-! Pu, part J: list comprehensions of two clauses. -/
namespace Pu
open PySem PySem.Spec PyProof.Rows L2
/-- H without what stands at Z -/
def cutH (H : Hp) (Z : Addr) : Hp := fun a => if a = Z then none else H a
section
variable {B FB H F H' F' : Hp} {Z : Addr}
theorem cutH_ne {a : Addr} (h : a ≠ Z) : cutH H Z a = H a := if_neg h
theorem cutH_self : cutH H Z Z = none := if_pos rfl
theorem Step.cut2 (t : Step H F H' F') (hF : F' Z = none) : Step (cutH H Z) F (cutH H' Z) F' := by
  refine ⟨t.le, fun a o e => ?_, fun a o e => ?_, fun a h e => ?_⟩
  · rw [cutH_ne (ne_of_none e hF)]; exact t.ok a o e
  · by_cases z : a = Z
    · subst z; rw [cutH_self] at e; cases e
    · rw [cutH_ne z] at e ⊢; exact t.same a o e
  · by_cases z : a = Z
    · subst z; exact absurd cutH_self h
    · rw [cutH_ne z] at h; exact t.new a h e
theorem Step.cut1 (t : Step B FB H F) (hB : B Z = none) (hF : F Z = none) : Step B FB (cutH H Z) F := by
  refine ⟨t.le, fun a o e => ?_, fun a o e => ?_, t.new⟩
  · rw [cutH_ne (ne_of_none e hF)]; exact t.ok a o e
  · rw [cutH_ne (ne_of_none e hB)]; exact t.same a o e
theorem Step.uncut (s : Same F H) (hF : F Z = none) : Step (cutH H Z) F H F := by
  refine ⟨Same.refl _, s, fun a o e => ?_, fun a h e => e⟩
  by_cases z : a = Z
  · subst z; rw [cutH_self] at e; cases e
  · rw [cutH_ne z] at e; exact e
end
def Turn2 (g : GV) (t : TV) (src1 : AV) (g1 : GV) (t1 : TV) (e : EV) (vs1 : List Nat) (ρ : Env) (d : D) (a b : List D) : Prop :=
  ∃ ρ1, g d ρ = .ok ρ1 ∧ ((t ρ1 = .ok true ∧ ∃ es ys, src1 ρ1 = .ok es ∧ compL g1 t1 e (wipeE ρ1 vs1) es = .ok ys ∧ b = a ++ ys) ∨ (t ρ1 = .ok false ∧ b = a))
section
variable {g : GV} {t : TV} {src1 : AV} {g1 : GV} {t1 : TV} {e : EV} {vs1 : List Nat} {ρ : Env}
theorem compL2_exc {C : Str} {fs : List (Str × D)} : ∀ ds, compL2 g t src1 g1 t1 e vs1 ρ ds ≠ .exc C fs
  | [] => by intro h; cases h
  | d :: ds => by
    intro h
    unfold compL2 at h
    cases q : quiet (g d ρ) with
    | exc C fs => exact quiet_exc q
    | bad => rw [q] at h; cases h
    | ok ρ1 =>
      rw [q] at h
      change ((quiet (t ρ1)).bind _) = _ at h
      cases q2 : quiet (t ρ1) with
      | exc C fs => exact quiet_exc q2
      | bad => rw [q2] at h; cases h
      | ok k =>
        rw [q2] at h
        cases k with
        | false => exact compL2_exc ds h
        | true =>
          change ((quiet (src1 ρ1)).bind _) = _ at h
          cases q3 : quiet (src1 ρ1) with
          | exc C fs => exact quiet_exc q3
          | bad => rw [q3] at h; cases h
          | ok es =>
            rw [q3] at h
            change ((compL g1 t1 e (wipeE ρ1 vs1) es).bind _) = _ at h
            cases q5 : compL g1 t1 e (wipeE ρ1 vs1) es with
            | exc C fs => exact compL_exc es q5
            | bad => rw [q5] at h; cases h
            | ok ys =>
              rw [q5] at h
              change ((compL2 g t src1 g1 t1 e vs1 ρ ds).bind _) = _ at h
              cases q4 : compL2 g t src1 g1 t1 e vs1 ρ ds with
              | exc C fs => exact compL2_exc ds q4
              | bad => rw [q4] at h; cases h
              | ok ys => rw [q4] at h; cases h
theorem compL2_gath : ∀ {ds ys : List D} (a : List D), compL2 g t src1 g1 t1 e vs1 ρ ds = .ok ys → Gath (fun _ => Turn2 g t src1 g1 t1 e vs1 ρ) ds a (a ++ ys)
  | [], ys, a, h => by
    cases h
    rw [List.append_nil]
    exact gath_nil
  | d :: ds, ys, a, h => by
    unfold compL2 at h
    obtain ⟨ρ1, h1, h⟩ := bind_ok h
    obtain ⟨k, h2, h⟩ := bind_ok h
    cases k with
    | false => exact gath_cons ⟨ρ1, quiet_ok h1, .inr ⟨quiet_ok h2, rfl⟩⟩ (compL2_gath a h)
    | true =>
      obtain ⟨es, h3, h⟩ := bind_ok h
      obtain ⟨xs, h5, h⟩ := bind_ok h
      obtain ⟨zs, h4, h⟩ := bind_ok h
      cases h
      rw [← List.append_assoc]
      exact gath_cons ⟨ρ1, quiet_ok h1, .inl ⟨quiet_ok h2, es, xs, quiet_ok h3, h5, rfl⟩⟩ (compL2_gath (a ++ xs) h4)
theorem turn2_len {d : D} {a b : List D} (h : Turn2 g t src1 g1 t1 e vs1 ρ d a b) : a.length ≤ b.length := by
  obtain ⟨ρ1, _, ⟨_, es, ys, _, _, rfl⟩ | ⟨_, rfl⟩⟩ := h
  · rw [List.length_append]; omega
  · exact Nat.le_refl _
end
section
variable {X : Cx} {S : Hd} {W : WX} {elt tg iter tg1 iter1 : Expr} {ifs ifs1 : List Expr} {scope : Scope} {own : List (Str × Nat)} {vs1 : List Nat} {pos spos : Pos} {src src1 : AV} {g g1 : GV} {ts ts1 : List Nat} {t t1 : TV} {e : EV}
theorem lc2_of0 {σ : L2.St} {H H0 F0 F : Hp} {ρ : Env} {Q : VK} {vs : List Nat} (hts : ∀ i ∈ ts, i ∈ vs) (hts1 : ∀ i ∈ ts1, i ∈ vs1) (s : Sim X.K S H0 F0 ρ σ H F) (p : Po0 X.K W σ H F (rL X.K) (lComp2 src g t src1 g1 t1 e vs vs1 ρ) Q) :
    tLc2 (tG X.K S W (rItB X.K) src) (tT X.K S g ts) (tG X.K S WF rT t) (tG X.K S WF (rIt X.K) src1) (tT X.K S g1 ts1) (tG X.K S WF rT t1) (tG X.K S WF (rE X.K) e) vs vs1 σ H Q := by
  refine ⟨H0, F0, ρ, F, s, ?_⟩
  unfold lComp2 at p
  cases hsrc : src ρ with
  | exc C fs => rw [hsrc] at p; exact p
  | bad => rw [hsrc] at p; exact p
  | ok ds =>
  rw [hsrc] at p
  replace p : Po0 X.K W σ H F (rL X.K) ((compL2 g t src1 g1 t1 e vs1 (wipeE ρ vs) ds).bind fun ys => if ys.length ≤ line then .ok ys else .bad) Q := p
  intro J H1 F1 tt1 z1 it Z hZ
  have s1 := (s.go tt1).wipe vs
  cases hc : compL2 g t src1 g1 t1 e vs1 (wipeE ρ vs) ds with
  | exc C fs => exact absurd hc (compL2_exc ds)
  | bad => rw [hc] at p; exact p.elim
  | ok ys =>
    rw [hc] at p
    replace p : Po0 X.K W σ H F (rL X.K) (if ys.length ≤ line then .ok ys else .bad) Q := p
    by_cases hl : ys.length ≤ line
    · rw [if_pos hl] at p
      have hl : ys.length ≤ sizeLine := by rw [← lineS]; exact hl
      have hF1 : F1 Z = none := tt1.ok.free hZ
      have gt := gath_len (fun _ _ _ _ h => turn2_len h) (compL2_gath [] hc)
      rw [List.nil_append] at gt
      refine lc_loop (Z := Z) it gt ⟨F1, [], Step.beside tt1.ok hZ, upd_same, hF1, Reps.nil⟩ (fun H2 gr => ?_) fun i x d H' F' acc a b Nx hd hp st hD hF r rd k => ?_
      · obtain ⟨F2, acc, st, hD, hF, r⟩ := gr
        exact p (.ref Z) H2 F2 (tt1.trans st) ⟨Z, acc, rfl, tt1.same.free hZ, hF, hD, r⟩
      · obtain ⟨⟨ρ1, hg, hp⟩, hb⟩ := hp
        refine ⟨H0, F0, _, F', d, ρ1, s1.go st, rd, hg, fun σ2 sd => ⟨?_, ?_⟩⟩
        · rw [sd.wipe vs hts, wipe_wipe fun t ht => ht]
        · have s2 := sd.sim H' F' (Same.refl _) (s1.go st)
          have s2c := sd.sim (cutH H' Z) F' (Same.refl _) (s1.go (st.cut1 hZ hF))
          rcases hp with ⟨ht, es, ws, he, hw, rfl⟩ | ⟨ht, rfl⟩
          · refine ⟨H0, F0, ρ1, F', s2, ?_⟩
            rw [ht]
            intro kk H3 F3 st3 z3 e3
            obtain rfl : kk = true := e3
            rw [if_pos rfl]
            refine ⟨H0, F0, ρ1, F3, s2.go st3, ?_⟩
            rw [he]
            intro J1 H4 F4 st4 z4 it1
            have st34 := st3.trans st4
            have hF4 := st34.new Z (some_ne hD) hF
            have hD4 := st34.same _ _ hD
            have sc := (s2c.go (st34.cut2 hF4)).wipe vs1
            have it1' : IterOk X.K J1 (cutH H4 Z) F4 es := it1.wider fun a o e => by rw [cutH_ne (ne_of_none e hF4)]; exact st34.ok a o e
            have gt1 := gath_len (fun _ _ _ _ h => turn1_len h) (compL_gath a hw)
            refine lc_loop (Z := Z) it1' gt1 ⟨F4, acc, Step.uncut st34.ok hF4, hD4, hF4, Reps.mono st34.le _ _ r⟩ (fun H5 gr => ?_) fun i x d H' F' acc a b Nx hd hp st hD hF r rd k => ?_
            · obtain ⟨F5, acc5, st5, hD5, hF5, r5⟩ := gr
              exact k H5 ⟨F5, acc5, ((st.trans st34).cut1 hZ hF4).trans st5, hD5, hF5, r5⟩
            · exact lc_turn sc cutH_self hts1 hp.1 (Nat.le_trans hp.2 hb) hl st hD hF r rd k
          · refine ⟨H0, F0, ρ1, F', s2, ?_⟩
            rw [ht]
            intro kk H3 F3 st3 z3 e3
            obtain rfl : kk = false := e3
            rw [if_neg Bool.false_ne_true]
            exact k _ ⟨F3, acc, st.trans st3, st3.same _ _ hD, st3.new Z (some_ne hD) hF, Reps.mono st3.le _ _ r⟩
    · rw [if_neg hl] at p
      exact p.elim
theorem lc2_of {σ : L2.St} {H : Hp} {Q : VK} {vs : List Nat} (hts : ∀ i ∈ ts, i ∈ vs) (hts1 : ∀ i ∈ ts1, i ∈ vs1) (hq : tG X.K S W (rL X.K) (lComp2 src g t src1 g1 t1 e vs vs1) σ H Q) :
    tLc2 (tG X.K S W (rItB X.K) src) (tT X.K S g ts) (tG X.K S WF rT t) (tG X.K S WF (rIt X.K) src1) (tT X.K S g1 ts1) (tG X.K S WF rT t1) (tG X.K S WF (rE X.K) e) vs vs1 σ H fun v H' => HSz X.K H' → Q v H' := by
  obtain ⟨H0, F0, ρ, F, s, p⟩ := hq
  exact lc2_of0 hts hts1 s p.zero
theorem l_comp2 (cx : X.calm = true) (hN : X.N.Nodup) (hi : DIB X S W tg iter src) (ok : BlkOk X.N X.env.scope scope own) (hv : ∀ i ∈ vs1, i ∈ own.map (·.2))
    (hg : ∀ (s : Shared) (H : Hp) (C : Addr) (cl : List (Str × Addr)) (fp : List Addr), DG (X.blk s H scope (compEnvC scope cl C X.env) fp) S tg g ts) (hts : ∀ i ∈ ts, i ∈ own.map (·.2))
    (ht : ∀ (s : Shared) (H : Hp) (C : Addr) (cl : List (Str × Addr)) (fp : List Addr), PTs (X.blk s H scope (compEnvC scope cl C X.env) fp) ifs (tG X.K S WF rT t))
    (hi1 : ∀ (s : Shared) (H : Hp) (C : Addr) (cl : List (Str × Addr)) (fp : List Addr), DI (X.blk s H scope (compEnvC scope cl C X.env) fp) S WF tg1 iter1 src1)
    (hg1 : ∀ (s : Shared) (H : Hp) (C : Addr) (cl : List (Str × Addr)) (fp : List Addr), DG (X.blk s H scope (compEnvC scope cl C X.env) fp) S tg1 g1 ts1) (hts1 : ∀ i ∈ ts1, i ∈ vs1)
    (ht1 : ∀ (s : Shared) (H : Hp) (C : Addr) (cl : List (Str × Addr)) (fp : List Addr), PTs (X.blk s H scope (compEnvC scope cl C X.env) fp) ifs1 (tG X.K S WF rT t1))
    (he : ∀ (s : Shared) (H : Hp) (C : Addr) (cl : List (Str × Addr)) (fp : List Addr), DE (X.blk s H scope (compEnvC scope cl C X.env) fp) S WF elt e) (hs : ∀ x, foldedSetIterable iter X.env x = pure x := by intro _; rfl) (hs1 : ∀ env x, foldedSetIterable iter1 env x = pure x := by intro _ _; rfl) :
    DL X S W (.ListComp elt [⟨tg, iter, ifs, 0⟩, ⟨tg1, iter1, ifs1, 0⟩] scope pos) (lComp2 src g t src1 g1 t1 e (own.map (·.2)) vs1) :=
  peW (pe_lc2 cx hN hi ok hv hg ht hi1 hg1 ht1 he hs hs1) fun σ H Q hq => lc2_of hts hts1 hq
end
end Pu

/-! Pu, part K: statements. -/
namespace Pu
open PySem PySem.Spec PyProof.Rows L2

def PoS (K : PySem.W.Frag) (S : Hd) (W : WX) (H0 F0 F : Hp) (r : SR) (D : Ends) : Prop := match r with
  | .nx ρ => ∀ σ' H' F', Sim K S H0 F0 ρ σ' H' F' → Same F F' → D.nx σ' H'
  | .bk ρ => ∀ σ' H' F', Sim K S H0 F0 ρ σ' H' F' → Same F F' → D.bk σ' H'
  | .ct ρ => ∀ σ' H' F', Sim K S H0 F0 ρ σ' H' F' → Same F F' → D.ct σ' H'
  | .rt d => ∀ v H' F', Step H0 F0 H' F' → Same F F' → HSz K H' → Rep K F' d v → D.rt v H'
  | .ex ρ C fs => ∀ σ' H' F' dd, Sim K S H0 F0 ρ σ' H' F' → Same F F' → ExcR K H' F' fs dd → W (.ref (He.ga K C)) dd σ' H'
  | .bad => False
def tS (K : PySem.W.Frag) (S : Hd) (W : WX) (g : SV) : TS := fun D σ H => ∃ H0 F0 ρ F, Sim K S H0 F0 ρ σ H F ∧ PoS K S W H0 F0 F (g ρ) D
abbrev DS (X : Cx) (S : Hd) (W : WX) (st : Stmt) (g : SV) : Prop := PS X st (tS X.K S W g)
abbrev DSs (X : Cx) (S : Hd) (W : WX) (st : List Stmt) (g : SV) : Prop := PSs X st (tS X.K S W g)
section
variable {K : PySem.W.Frag} {S : Hd} {W : WX} {H0 F0 H F F1 : Hp} {ρ : Env} {σ : L2.St} {D : Ends}
theorem PoS.mono {r : SR} (s : Same F F1) (h : PoS K S W H0 F0 F r D) : PoS K S W H0 F0 F1 r D := by
  cases r with
  | nx ρ => exact fun σ' H' F' q e => h σ' H' F' q (s.trans e)
  | bk ρ => exact fun σ' H' F' q e => h σ' H' F' q (s.trans e)
  | ct ρ => exact fun σ' H' F' q e => h σ' H' F' q (s.trans e)
  | rt d => exact fun v H' F' q e => h v H' F' q (s.trans e)
  | ex ρ C fs => exact fun σ' H' F' dd q e => h σ' H' F' dd q (s.trans e)
  | bad => exact h
/-- an expression ahead -/
theorem PoS.of_sr {α β : Type} {r : Res α} {k : α → SR} {R : RR α β} {Q : β → Hp → Prop} (s : Sim K S H0 F0 ρ σ H F) (h : PoS K S W H0 F0 F (r.sr ρ k) D)
    (kk : ∀ a b H1 F1, Step H F H1 F1 → HSz K H1 → R H F H1 F1 a b → Sim K S H0 F0 ρ σ H1 F1 → PoS K S W H0 F0 F1 (k a) D → Q b H1) : Po K W σ H F R r Q := by
  cases r with
  | ok a => exact fun b H' F' t z q => kk a b H' F' t z q (s.go t) (PoS.mono t.le h)
  | exc C fs => exact fun H' F' dd t q => h σ H' F' dd (s.go t) t.le q
  | bad => exact h
theorem PoS.of_sr0 {α β : Type} {r : Res α} {k : α → SR} {R : RR α β} {Q : β → Hp → Prop} (s : Sim K S H0 F0 ρ σ H F) (h : PoS K S W H0 F0 F (r.sr ρ k) D)
    (kk : ∀ a b H1 F1, Step H F H1 F1 → R H F H1 F1 a b → Sim K S H0 F0 ρ σ H1 F1 → PoS K S W H0 F0 F1 (k a) D → Q b H1) : Po0 K W σ H F R r Q := by
  cases r with
  | ok a => exact fun b H' F' t q => kk a b H' F' t q (s.go t) (PoS.mono t.le h)
  | exc C fs => exact fun H' F' dd t q => h σ H' F' dd (s.go t) t.le q
  | bad => exact h
end

section
variable {X : Cx} {S : Hd} {W : WX} {pos : Pos} {st : Stmt} {rest : List Stmt} {g h : SV} {e : Expr} {f : EV} {t : TV}
/-! ### blocks -/
theorem s_nil : DSs X S W [] sNil := pssW pss_nil fun D σ H ⟨H0, F0, ρ, F, s, p⟩ => p σ H F s (Same.refl _)
theorem s_one (h : DS X S W st g) : DSs X S W [st] g := pss_one h
theorem s_cons (h1 : DS X S W st g) (h2 : DSs X S W rest h) : DSs X S W (st :: rest) (sSeq g h) := by
  refine pssW (pss_cons h1 h2) fun D σ H ⟨H0, F0, ρ, F, s, p⟩ => ⟨H0, F0, ρ, F, s, ?_⟩
  unfold sSeq at p
  cases e : g ρ with
  | nx ρ' =>
    rw [e] at p
    exact fun σ' H' F' s' l => ⟨H0, F0, ρ', F', s', PoS.mono l p⟩
  | bk ρ' => rw [e] at p; exact p
  | ct ρ' => rw [e] at p; exact p
  | rt d => rw [e] at p; exact p
  | ex ρ' C fs => rw [e] at p; exact p
  | bad => rw [e] at p; exact p
/-- from here on nobody changes what stands in slot i -/
theorem s_frz (i : Nat) (h : DSs X S W rest g) : DSs X S W rest (sFrz i g) := pssW h fun D σ H ⟨H0, F0, ρ, F, s, p⟩ => by
  obtain ⟨F', l, s'⟩ := s.frz i
  exact ⟨H0, F0, frzE i ρ, F', s', PoS.mono l p⟩
theorem s_pass : DS X S W (.Pass pos) sNil := psW ps_pass fun D σ H ⟨H0, F0, ρ, F, s, p⟩ => p σ H F s (Same.refl _)
theorem s_doc {x j pos'} : DS X S W (.Expr (.Constant (.str x) j pos) pos') sNil := psW ps_doc fun D σ H ⟨H0, F0, ρ, F, s, p⟩ => p σ H F s (Same.refl _)
theorem s_brk : DS X S W (.Break pos) sBrk := psW ps_break fun D σ H ⟨H0, F0, ρ, F, s, p⟩ => p σ H F s (Same.refl _)
theorem s_cont : DS X S W (.Continue pos) sCont := psW ps_continue fun D σ H ⟨H0, F0, ρ, F, s, p⟩ => p σ H F s (Same.refl _)
theorem s_retN : DS X S W (.Return none pos) sRetN := by
  refine ⟨fun pins s σ H D I hq => ps_retN.run pins s σ H D I ?_⟩
  obtain ⟨H0, F0, ρ, F, s, p⟩ := hq
  exact p _ H F s.step (Same.refl _) (hsz I) rfl
theorem s_ret (he : DE X S W e f) : DS X S W (.Return (some e) pos) (sRet f) := by
  refine psW (ps_ret (peZ he)) fun D σ H hq => ?_
  obtain ⟨H0, F0, ρ, F, s, p⟩ := hq
  exact ⟨H0, F0, ρ, F, s, PoS.of_sr (R := rE X.K) s p fun d v H1 F1 t1 z1 r1 s1 p1 z => p1 v H1 F1 s1.step (Same.refl _) z r1⟩
theorem s_if {a b : List Stmt} (hc : DT X S W e t) (ha : DSs X S W a g) (hb : DSs X S W b h) : DS X S W (.If e a b pos) (sIf t g h) := by
  refine psW (ps_if hc ha hb) fun D σ H hq => ?_
  obtain ⟨H0, F0, ρ, F, s, p⟩ := hq
  refine ⟨H0, F0, ρ, F, s, PoS.of_sr (R := rT) s p fun k k' H1 F1 t1 z1 r1 s1 p1 => ?_⟩
  obtain rfl : k' = k := r1
  cases k' with
  | true => rw [if_pos rfl]; exact ⟨H0, F0, ρ, F1, s1, p1⟩
  | false => rw [if_neg Bool.false_ne_true]; exact ⟨H0, F0, ρ, F1, s1, p1⟩
/-- an if whose else is the rest of nothing -/
theorem s_expr (he : DE X S W e f) (hs : swapsWith e none pos.line X.env = pure false := by rfl) : DS X S W (.Expr e pos) (sExpr f) := by
  refine psW (ps_expr he hs) fun D σ H hq => ?_
  obtain ⟨H0, F0, ρ, F, s, p⟩ := hq
  exact ⟨H0, F0, ρ, F, s, PoS.of_sr (R := rE X.K) s p fun d v H1 F1 t1 z1 r1 s1 p1 => p1 σ H1 F1 s1 (Same.refl _)⟩

/-! ### stores -/
theorem s_set (i : Nat) {x : Str} {pos' : Pos} (hN : X.N.Nodup) (hi : X.N[i]? = some x) (hx : Loc X.env.scope x) (he : DE X S W e f) (hs : swapsWith e (some (.Name x pos')) pos.line X.env = pure false := by rfl) (hf : X.fn x = true ∨ X.env.scope.names.lookup x = some .local) :
    DS X S W (.Assign [.Name x pos'] e pos) (sSet i f) := by
  refine psW (ps_set hN hi hx he hs hf) fun D σ H hq => ?_
  obtain ⟨H0, F0, ρ, F, s, p⟩ := hq
  exact ⟨H0, F0, ρ, F, s, PoS.of_sr (R := rE X.K) s p fun d v H1 F1 t1 z1 r1 s1 p1 => p1 _ H1 F1 (s1.set i r1) (Same.refl _)⟩
theorem setOwn_ok {K : PySem.W.Frag} {H0 F0 H F H1 F1 : Hp} {ρ : Env} {σ : L2.St} {i : Nat} {ds : List D} {v : V} {D : Ends} (s : Sim K S H0 F0 ρ σ H F) (t : Step H F H1 F1) (r : rL K H F H1 F1 ds v) (p : PoS K S W H0 F0 F1 (.nx (ρ.set i (some (.own ds)))) D) : D.nx (σ.set i (some v)) H1 := by
  obtain ⟨a, xs, rfl, hn, hF, hH, rr⟩ := r
  exact p _ H1 F1 (s.setNew i t hn ⟨a, xs, rfl, hH, hF, s.step.same.free hn, rr⟩) (Same.refl _)
theorem s_own (i : Nat) {x : Str} {pos' : Pos} {l : AV} (hN : X.N.Nodup) (hi : X.N[i]? = some x) (hx : Loc X.env.scope x) (he : DL X S W e l) (hs : swapsWith e (some (.Name x pos')) pos.line X.env = pure false := by rfl) (hf : X.fn x = true ∨ X.env.scope.names.lookup x = some .local) :
    DS X S W (.Assign [.Name x pos'] e pos) (sOwn i l) := by
  refine psW (ps_set hN hi hx he hs hf) fun D σ H hq => ?_
  obtain ⟨H0, F0, ρ, F, s, p⟩ := hq
  exact ⟨H0, F0, ρ, F, s, PoS.of_sr (R := rL X.K) s p fun d v H1 F1 t1 z1 r1 s1 p1 => setOwn_ok s t1 r1 p1⟩
/-- a new list frozen at once -/
theorem frz_ok {K : PySem.W.Frag} {H0 F0 H F H1 F1 : Hp} {ρ : Env} {σ : L2.St} {i : Nat} {ds : List D} {v : V} {D : Ends} (s : Sim K S H0 F0 ρ σ H F) (t : Step H F H1 F1) (r : rL K H F H1 F1 ds v) (p : PoS K S W H0 F0 F1 (.nx (ρ.set i (some (.val (.lst ds))))) D) : D.nx (σ.set i (some v)) H1 := by
  obtain ⟨a, xs, rfl, hn, hF, hH, rr⟩ := r
  have s2 := s.setNew i t hn (c := .own ds) ⟨a, xs, rfl, hH, hF, s.step.same.free hn, rr⟩
  by_cases hi : i < ρ.length
  · obtain ⟨F2, l2, s3⟩ := s2.frz i
    have e : frzE i (ρ.set i (some (.own ds))) = ρ.set i (some (.val (.lst ds))) := by
      unfold frzE
      rw [List.getElem?_set_self hi]
      show (ρ.set i _).set i _ = _
      rw [List.set_set]
    rw [e] at s3
    exact p _ H1 F2 s3 l2
  · have e1 : ρ.set i (some (.own ds)) = ρ := List.set_eq_of_length_le (by omega)
    have e2 : ρ.set i (some (.val (.lst ds))) = ρ := List.set_eq_of_length_le (by omega)
    rw [e2] at p
    rw [e1] at s2
    exact p _ H1 F1 s2 (Same.refl _)
theorem s_setL (i : Nat) {x : Str} {pos' : Pos} {l : AV} (hN : X.N.Nodup) (hi : X.N[i]? = some x) (hx : Loc X.env.scope x) (he : DL X S W e l) (hs : swapsWith e (some (.Name x pos')) pos.line X.env = pure false := by rfl) (hf : X.fn x = true ∨ X.env.scope.names.lookup x = some .local) :
    DS X S W (.Assign [.Name x pos'] e pos) (sSet i (eL l)) := s_set i hN hi hx (d_lstE he) hs hf
theorem s_asg {tg : Expr} {gg : GV} {ts : List Nat} (he : DE X S W e f) (hg : DG X S tg gg ts) (hs : swapsWithSole [tg] e pos.line X.env = pure false := by rfl) (hw : swappedStores [tg] e X.env = pure none := by rfl)
    (h1 : (assignEach [tg] X.env).map (·.2) = [assign tg X.env] := by rfl) : DS X S W (.Assign [tg] e pos) (sAsg f gg) := by
  refine psW (ps_asg he hg hs hw h1) fun D σ H hq => ?_
  obtain ⟨H0, F0, ρ, F, s, p⟩ := hq
  refine ⟨H0, F0, ρ, F, s, PoS.of_sr (R := rE X.K) s p fun d v H1 F1 t1 z1 r1 s1 p1 => ?_⟩
  cases eg : gg d ρ with
  | ok ρ' =>
    rw [eg] at p1
    exact ⟨H0, F0, ρ, F1, d, ρ', s1, r1, eg, fun σ' st => p1 σ' H1 F1 (st.sim H1 F1 (Same.refl _) s1) (Same.refl _)⟩
  | exc C fs => rw [eg] at p1; exact p1.elim
  | bad => rw [eg] at p1; exact p1.elim
theorem s_par (i j : Nat) {x y : Str} {a b : Expr} {fa fb : EV} {px py pt : Pos} {kt k2 pt2} (hc : X.calm = true) (hN : X.N.Nodup) (hi : X.N[i]? = some x) (hj : X.N[j]? = some y) (hij : i ≠ j)
    (hx : X.env.scope.names.lookup x = some .local) (hy : X.env.scope.names.lookup y = some .local) (ha : DE X S W a fa) (hb : DE X S W b fb)
    (hw : swappedStores [.Tuple [.Name x px, .Name y py] kt pt] (.Tuple [a, b] k2 pt2) X.env = pure (some [x, y]))
    (hs : swapsWithSole [.Tuple [.Name x px, .Name y py] kt pt] (.Tuple [a, b] k2 pt2) pos.line X.env = pure false := by rfl)
    (he : starEach [a, b] X.env = (false, eval a X.env) :: starEach [b] X.env := by rfl) (he2 : starEach [b] X.env = (false, eval b X.env) :: starEach [] X.env := by rfl) :
    DS X S W (.Assign [.Tuple [.Name x px, .Name y py] kt pt] (.Tuple [a, b] k2 pt2) pos) (sPar i j fa fb) := by
  refine psW (ps_par hc hN hi hj hij hx hy (pa_cons ha (pa_cons hb pa_nil he2) he) hw hs) fun D σ H hq => ?_
  obtain ⟨H0, F0, ρ, F, s, p⟩ := hq
  refine ⟨H0, F0, ρ, F, s, PoS.of_sr (R := rE X.K) s p fun d v H1 F1 t1 z1 r1 s1 p1 => ⟨H0, F0, ρ, F1, s1, PoS.of_sr (R := rE X.K) s1 p1 fun d' v' H2 F2 t2 z2 r2 s2 p2 => ?_⟩⟩
  exact ⟨v, v', rfl, p2 _ H2 F2 ((s2.set i (Rep.mono t2.le _ _ r1)).set j r2) (Same.refl _)⟩
theorem ipZ {op : Operator} {r : TIp} (h : PIp X op r) : PIp X op (rZ X.K r) := fun pins s σ H x y v u Q I rx ry q =>
  thn (h pins s σ H x y v u _ I rx ry q) fun w s' ⟨z, H', I', r', q'⟩ => ⟨z, H', I', r', q' (hsz I')⟩
theorem s_aug (i : Nat) {x : Str} {op : Operator} {r : TIp} {gg : D → D → Res D} {pos' : Pos} (ho : PIp X op r) (hg : Op2 X.K r gg) (hN : X.N.Nodup) (hi : X.N[i]? = some x) (hx : Loc X.env.scope x) (he : DE X S W e f) (hf : X.fn x = true ∨ X.env.scope.names.lookup x = some .local) :
    DS X S W (.AugAssign (.Name x pos') op e pos) (sAug i gg f) := by
  refine psW (ps_aug hN hi hx (peZ he) (ipZ ho) hf) fun D σ H hq => ?_
  obtain ⟨H0, F0, ρ, F, s, p⟩ := hq
  unfold sAug eVar at p
  split at p
  · rename_i d ed
    obtain ⟨v, ev, r⟩ := s.cell i _ ed
    replace p : PoS X.K S W H0 F0 F ((f ρ).sr ρ fun y => (gg d y).sr ρ fun z => .nx (ρ.set i (some (.val z)))) D := p
    refine ⟨v, ev, H0, F0, ρ, F, s, PoS.of_sr (R := rE X.K) s p fun d' v' H2 F2 t2 z2 r2 s2 p2 => fun zz => ?_⟩
    refine hg W σ d d' v v' H2 F2 _ t2.ok z2 (RB.of (Rep.mono t2.le _ _ r)) (RB.of r2) ?_
    exact PoS.of_sr (R := rE X.K) s2 p2 fun d3 v3 H3 F3 t3 z3 r3 s3 p3 => p3 _ H3 F3 (s3.set i r3) (Same.refl _)
  · exact p.elim
theorem p_iadd {K : PySem.W.Frag} : Op2 K (ipI fun i j => i + j) oAddI := fun W σ x y v u H F Q s z r1 r2 p => by
  unfold oAddI at p
  split at p
  · exact ⟨_, _, r1.int, r2.int, fun z => p _ H F (Step.refl s) z rfl⟩
  · exact p.elim
theorem p_isub {K : PySem.W.Frag} : Op2 K (ipI fun i j => i - j) oSub := fun W σ x y v u H F Q s z r1 r2 p => by
  unfold oSub at p
  split at p
  · exact ⟨_, _, r1.int, r2.int, fun z => p _ H F (Step.refl s) z rfl⟩
  · exact p.elim
end

/-! ### loops -/
section
variable {X : Cx} {S : Hd} {W : WX} {pos : Pos} {tg iter e : Expr} {body : List Stmt} {src : AV} {g : GV} {ts : List Nat} {b : SV} {t : TV}
theorem s_for (hp : PassesOwn (model X.prog X.w) X.A X.env X.xe) (hc : X.calm = true) (hi : DI X S W tg iter src) (hg : DG X S tg g ts) (hb : DSs X S W body b) (hs : ∀ x, foldedSetIterable iter X.env x = pure x := by intro _; rfl) :
    DS X S W (.For tg iter body [] pos) (sFor src g b) := by
  refine psW (ps_for hp hc hi hg hb hs) fun D σ H hq => ?_
  obtain ⟨H0, F0, ρ, F, s, p⟩ := hq
  refine ⟨H0, F0, ρ, F, s, PoS.of_sr (R := rIt X.K) s p fun ds J H1 F1 t1 z1 it s1 p1 => ?_⟩
  refine ⟨fun i m σ H => m = ds.length - i ∧ i ≤ ds.length ∧ ∃ ρ F, Sim X.K S H0 F0 ρ σ H F ∧ Same F1 F ∧ PoS X.K S W H0 F0 F (forL g b (ds.drop i) ρ) D, ⟨_, rfl, Nat.zero_le _, ρ, F1, s1, Same.refl _, by rw [List.drop_zero]; exact p1⟩, ?_⟩
  rintro i m σ H ⟨rfl, hi, ρ, F, s, l, p⟩
  by_cases hlt : i < ds.length
  · rw [List.drop_eq_getElem_cons hlt] at p
    unfold forL at p
    have lH : Same F1 H := l.trans s.step.ok
    refine .inr ⟨it.goes i H hlt lH, fun σ H => ∃ ρ F, Sim X.K S H0 F0 ρ σ H F ∧ Same F1 F ∧ PoS X.K S W H0 F0 F (forL g b (ds.drop (i + 1)) ρ) D, fun σ' H' q => ⟨_, by omega, rfl, hlt, q⟩, fun x H' y => ?_⟩
    obtain ⟨F2, d, hd, st2, rd⟩ := it.yields i H F x H' hlt lH l s.step.ok y
    obtain rfl : ds[i] = d := by
      rw [List.getElem?_eq_getElem hlt] at hd
      exact Option.some.inj hd
    cases eg : g ds[i] ρ with
    | exc C fs => rw [eg] at p; exact p.elim
    | bad => rw [eg] at p; exact p.elim
    | ok ρ1 =>
      rw [eg] at p
      replace p : PoS X.K S W H0 F0 F (match b ρ1 with
        | .nx ρ2 => forL g b (ds.drop (i + 1)) ρ2
        | .ct ρ2 => forL g b (ds.drop (i + 1)) ρ2
        | .bk ρ2 => .nx ρ2
        | r => r) D := p
      have s2 := s.go st2
      refine ⟨H0, F0, ρ, F2, ds[i], ρ1, s2, rd, eg, fun σ1 sd => ⟨H0, F0, ρ1, F2, sd.sim H' F2 (Same.refl _) s2, ?_⟩⟩
      replace p := PoS.mono st2.le p
      have lF2 := l.trans st2.le
      cases eb : b ρ1 with
      | nx ρ2 => rw [eb] at p; exact fun σ' H' F' s' l' => ⟨ρ2, F', s', lF2.trans l', PoS.mono l' p⟩
      | ct ρ2 => rw [eb] at p; exact fun σ' H' F' s' l' => ⟨ρ2, F', s', lF2.trans l', PoS.mono l' p⟩
      | bk ρ2 => rw [eb] at p; exact p
      | rt d => rw [eb] at p; exact p
      | ex ρ2 C fs => rw [eb] at p; exact p
      | bad => rw [eb] at p; exact p
  · have ei : i = ds.length := by omega
    subst ei
    rw [List.drop_length] at p
    exact .inl ⟨it.stops H (l.trans s.step.ok), p σ H F s (Same.refl _)⟩
theorem s_while (n : Nat) (hp : PassesOwn (model X.prog X.w) X.A X.env X.xe) (hc : DT X S W e t) (hb : DSs X S W body b) : DS X S W (.While e body [] pos) (sWhile n t b) := by
  refine psW (ps_while hp hc hb) fun D σ H hq => ?_
  obtain ⟨H0, F0, ρ, F, s, p⟩ := hq
  refine ⟨fun m σ H => ∃ ρ F, Sim X.K S H0 F0 ρ σ H F ∧ PoS X.K S W H0 F0 F (whileL t b m ρ) D, ⟨n, ρ, F, s, p⟩, ?_⟩
  rintro m σ H ⟨ρ, F, s, p⟩
  cases m with
  | zero => exact p.elim
  | succ m =>
    unfold whileL at p
    refine ⟨H0, F0, ρ, F, s, PoS.of_sr (R := rT) s p fun k k' H1 F1 t1 z1 r1 s1 p1 => ?_⟩
    obtain rfl : k' = k := r1
    cases k' with
    | false => rw [if_neg Bool.false_ne_true]; exact p1 σ H1 F1 s1 (Same.refl _)
    | true =>
      rw [if_pos rfl]
      refine ⟨fun σ H => ∃ ρ F, Sim X.K S H0 F0 ρ σ H F ∧ PoS X.K S W H0 F0 F (whileL t b m ρ) D, fun σ' H' q => ⟨m, Nat.lt_succ_self _, q⟩, H0, F0, ρ, F1, s1, ?_⟩
      replace p1 : PoS X.K S W H0 F0 F1 (match b ρ with
        | .nx ρ2 => whileL t b m ρ2
        | .ct ρ2 => whileL t b m ρ2
        | .bk ρ2 => .nx ρ2
        | r => r) D := p1
      cases eb : b ρ with
      | nx ρ2 => rw [eb] at p1; exact fun σ' H' F' s' l' => ⟨ρ2, F', s', PoS.mono l' p1⟩
      | ct ρ2 => rw [eb] at p1; exact fun σ' H' F' s' l' => ⟨ρ2, F', s', PoS.mono l' p1⟩
      | bk ρ2 => rw [eb] at p1; exact p1
      | rt d => rw [eb] at p1; exact p1
      | ex ρ2 C fs => rw [eb] at p1; exact p1
      | bad => rw [eb] at p1; exact p1
end

/-! ### changes of own lists -/
section
variable {X : Cx} {S : Hd} {W : WX} {pos p1 p2 : Pos} {e j : Expr} {f fj : EV} {x : Str}
theorem own_at {K : PySem.W.Frag} {H0 F0 H F : Hp} {ρ : Env} {σ : L2.St} {i : Nat} {ds : List D} (s : Sim K S H0 F0 ρ σ H F) (e : ρ[i]? = some (some (.own ds))) : ∃ a xs, σ[i]? = some (some (.ref a)) ∧ H a = some (.lst xs) ∧ F a = none ∧ H0 a = none ∧ Reps K F ds xs := by
  obtain ⟨v, ev, a, xs, rfl, h1, h2, h3, r⟩ := s.cell i _ e
  exact ⟨a, xs, ev, h1, h2, h3, r⟩
theorem change_ok {K : PySem.W.Frag} {H0 F0 H F : Hp} {ρ : Env} {σ : L2.St} {i : Nat} {ds es : List D} {a : Addr} {ys : List V} {D : Ends} (s : Sim K S H0 F0 ρ σ H F) (e : ρ[i]? = some (some (.own ds))) (ev : σ[i]? = some (some (.ref a))) (hF : F a = none) (h0 : H0 a = none)
    (r : Reps K F es ys) (p : PoS K S W H0 F0 F (.nx (ρ.set i (some (.own es)))) D) : D.nx σ (upd H a (.lst ys)) :=
  p σ _ F (s.change i e rfl ev ⟨a, ys, rfl, upd_same, hF, h0, r⟩) (Same.refl _)
theorem s_app (i : Nat) (pa : PlainAttrs "list") (slot : Slot "list" "append" "list.append") (hty : typeOf (.builtin "list.append") = pure (.type "method_descriptor")) (hN : X.N[i]? = some x := by rfl) (hv : Vis X.env.scope x := by first | exact Or.inl rfl | exact Or.inr (Or.inl rfl) | exact Or.inr (Or.inr rfl)) (he : DE X S W e f)
    (hd : (x == ("__debug__" : Str)) = false := by decide) (hcd : (x == ("__classdict__" : Str)) = false := by decide)
    (hfew : ((backTo p2 (starEach [e] X.env)).all (fun x => !x.1) && (backToKw p2 (keywordEach [] X.env)).all (fun x => x.1.isSome) && decide (([e] : List Expr).length + ([] : List Keyword).length + (if ([] : List Keyword).isEmpty then 0 else 1) < 30)) = true := by rfl)
    (hline : (p1.endLine == p2.line) = true := by rfl) (hst : starEach [e] X.env = (false, eval e X.env) :: starEach [] X.env := by rfl) (hs : swapsWith (.Call (.Attribute (.Name x pos) "append" p1) [e] [] p2) none p3.line X.env = pure false := by rfl) :
    DS X S W (.Expr (.Call (.Attribute (.Name x pos) "append" p1) [e] [] p2) p3) (sApp i f) := by
  refine psW (ps_expr (pe_bm pa slot hty (r := rAppend) mt_append (pe_var hN hv hd hcd) (pa_cons he pa_nil hst) rfl hfew hline hst rfl) hs) fun D σ H hq => ?_
  obtain ⟨H0, F0, ρ, F, s, p⟩ := hq
  unfold sApp at p
  split at p
  · rename_i ds ed
    obtain ⟨a, xs, ev, hH, hF, h0, r⟩ := own_at s ed
    refine ⟨_, ev, .inl ⟨rfl, xs, SqL.of hH⟩, H0, F0, ρ, F, s, PoS.of_sr (R := rE X.K) s p fun d v H1 F1 t1 z1 r1 s1 p1 => ?_⟩
    have r' := Reps.mono t1.le _ _ r
    by_cases hl : ds.length < line
    · rw [if_pos hl] at p1
      exact ⟨a, xs, v, rfl, rfl, t1.same _ _ hH, by rw [r.length, ← lineS]; exact hl, change_ok s1 ed ev (t1.new a (some_ne hH) hF) h0 (r'.append (Reps.cons r1 Reps.nil)) p1⟩
    · rw [if_neg hl] at p1
      exact p1.elim
  · exact p.elim
theorem s_ext (i : Nat) (pa : PlainAttrs "list") (slot : Slot "list" "extend" "list.extend") (hty : typeOf (.builtin "list.extend") = pure (.type "method_descriptor")) (hN : X.N[i]? = some x := by rfl) (hv : Vis X.env.scope x := by first | exact Or.inl rfl | exact Or.inr (Or.inl rfl) | exact Or.inr (Or.inr rfl)) (he : DB X S W e f)
    (hd : (x == ("__debug__" : Str)) = false := by decide) (hcd : (x == ("__classdict__" : Str)) = false := by decide)
    (hfew : ((backTo p2 (starEach [e] X.env)).all (fun x => !x.1) && (backToKw p2 (keywordEach [] X.env)).all (fun x => x.1.isSome) && decide (([e] : List Expr).length + ([] : List Keyword).length + (if ([] : List Keyword).isEmpty then 0 else 1) < 30)) = true := by rfl)
    (hline : (p1.endLine == p2.line) = true := by rfl) (hst : starEach [e] X.env = (false, eval e X.env) :: starEach [] X.env := by rfl) (hs : swapsWith (.Call (.Attribute (.Name x pos) "extend" p1) [e] [] p2) none p3.line X.env = pure false := by rfl) :
    DS X S W (.Expr (.Call (.Attribute (.Name x pos) "extend" p1) [e] [] p2) p3) (sExt i f) := by
  refine psW (ps_expr (pe_bm pa slot hty (r := rExtend) mt_extend (pe_var hN hv hd hcd) (pa_cons he pa_nil hst) rfl hfew hline hst rfl) hs) fun D σ H hq => ?_
  obtain ⟨H0, F0, ρ, F, s, p⟩ := hq
  unfold sExt at p
  split at p
  · rename_i ds ed
    obtain ⟨a, xs, ev, hH, hF, h0, r⟩ := own_at s ed
    refine ⟨_, ev, .inl ⟨rfl, xs, SqL.of hH⟩, H0, F0, ρ, F, s, PoS.of_sr (R := rB X.K) s p fun d v H1 F1 t1 z1 r1 s1 p1 => ?_⟩
    have r' := Reps.mono t1.le _ _ r
    cases d with
    | lst es =>
      replace p1 : PoS X.K S W H0 F0 F1 (if ds.length + es.length ≤ line then .nx (ρ.set i (some (.own (ds ++ es)))) else .bad) D := p1
      obtain ⟨l, ys, rfl, hl, ry⟩ := RB.lst t1.ok r1
      by_cases hle : ds.length + es.length ≤ line
      · rw [if_pos hle] at p1
        exact ⟨a, l, xs, ys, rfl, rfl, t1.same _ _ hH, hl, by rw [r.length, ry.length, ← lineS]; exact hle, change_ok s1 ed ev (t1.new a (some_ne hH) hF) h0 (r'.append ry) p1⟩
      · rw [if_neg hle] at p1
        exact p1.elim
    | _ => exact p1.elim
  · exact p.elim
theorem s_pop (i : Nat) (pa : PlainAttrs "list") (slot : Slot "list" "pop" "list.pop") (hty : typeOf (.builtin "list.pop") = pure (.type "method_descriptor")) (hN : X.N[i]? = some x := by rfl) (hv : Vis X.env.scope x := by first | exact Or.inl rfl | exact Or.inr (Or.inl rfl) | exact Or.inr (Or.inr rfl))
    (hd : (x == ("__debug__" : Str)) = false := by decide) (hcd : (x == ("__classdict__" : Str)) = false := by decide)
    (hline : (p1.endLine == p2.line) = true := by rfl) (hs : swapsWith (.Call (.Attribute (.Name x pos) "pop" p1) [] [] p2) none p3.line X.env = pure false := by rfl) :
    DS X S W (.Expr (.Call (.Attribute (.Name x pos) "pop" p1) [] [] p2) p3) (sPop i) := by
  refine psW (ps_expr (pe_bm0 pa slot hty (r := rPop) mt_pop (pe_var hN hv hd hcd) rfl hline) hs) fun D σ H hq => ?_
  obtain ⟨H0, F0, ρ, F, s, p⟩ := hq
  unfold sPop at p
  split at p
  · rename_i d ds ed
    obtain ⟨a, xs, ev, hH, hF, h0, r⟩ := own_at s ed
    refine ⟨_, ev, .inl ⟨rfl, xs, SqL.of hH⟩, ?_⟩
    have hl : xs.length = ds.length + 1 := r.length
    exact ⟨a, xs, xs[xs.length - 1]'(by omega), rfl, rfl, hH, List.getElem?_eq_getElem (by omega), change_ok s ed ev hF h0 r.dropLast p⟩
  · exact p.elim
theorem s_sto (i : Nat) (hN : X.N[i]? = some x := by rfl) (hv : Vis X.env.scope x := by first | exact Or.inl rfl | exact Or.inr (Or.inl rfl) | exact Or.inr (Or.inr rfl)) (he : DE X S W e f) (hj : DE X S W j fj)
    (hd : (x == ("__debug__" : Str)) = false := by decide) (hcd : (x == ("__classdict__" : Str)) = false := by decide)
    (ha : ∀ v, assign (.Subscript (.Name x pos) j p1) X.env v = (do
      let ov ← holding [v] (eval (.Name x pos) X.env)
      let iv ← holding [v, ov] (eval j X.env)
      standAt p1
      holding [v, ov, iv] (setItem ov iv v)
      release [v, ov, iv] []) := by intro _; rfl)
    (hs : swapsWithSole [.Subscript (.Name x pos) j p1] e p2.line X.env = pure false := by rfl) (hw : swappedStores [.Subscript (.Name x pos) j p1] e X.env = pure none := by rfl)
    (h1 : (assignEach [.Subscript (.Name x pos) j p1] X.env).map (·.2) = [assign (.Subscript (.Name x pos) j p1) X.env] := by rfl) :
    DS X S W (.Assign [.Subscript (.Name x pos) j p1] e p2) (sSto i fj f) := by
  refine psW (ps_asg he (pg_sub (pe_var hN hv hd hcd) hj set_list ha) hs hw h1) fun D σ H hq => ?_
  obtain ⟨H0, F0, ρ, F, s, p⟩ := hq
  unfold sSto at p
  split at p
  · rename_i ds ed
    obtain ⟨a, xs, ev, hH, hF, h0, r⟩ := own_at s ed
    refine ⟨H0, F0, ρ, F, s, PoS.of_sr (R := rE X.K) s p fun d v H1 F1 t1 z1 r1 s1 p1 => ⟨_, ev, H0, F0, ρ, F1, s1, PoS.of_sr (R := rE X.K) s1 p1 fun k u H2 F2 t2 z2 r2 s2 p2 => ?_⟩⟩
    have t12 := t1.trans t2
    cases k with
    | int z =>
      obtain rfl : u = .int z := r2
      replace p2 : PoS X.K S W H0 F0 F2 (match Pu.ixN ds.length z with
        | some n => .nx (ρ.set i (some (.own (ds.set n d))))
        | none => .bad) D := p2
      cases ez : Pu.ixN ds.length z with
      | none => rw [ez] at p2; exact p2.elim
      | some n =>
        rw [ez] at p2
        refine ⟨a, xs, z, n, rfl, rfl, t12.same _ _ hH, ?_, change_ok s2 ed ev (t12.new a (some_ne hH) hF) h0 (Reps.set (Rep.mono t2.le _ _ r1) n (Reps.mono t12.le _ _ r)) p2⟩
        rw [r.length]
        exact ez
    | _ => exact p2.elim
  · exact p.elim
end
end Pu

/-! Pu, part L: defs and their calls; instances. -/
namespace Pu
open PySem PySem.Spec PyProof.Rows L2

/-! ### what a def promises -/
/-- what is wanted of f's answer -/
def PoF (K : PySem.W.Frag) (H F : Hp) (r : Res D) (Q : VK) (E : XK) : Prop := match r with
  | .ok d => ∀ v H' F', Step H F H' F' → Rep K F' d v → Q v H'
  | .exc C fs => ∀ H' F' dd, Step H F H' F' → ExcR K H' F' fs dd → E (.ref (He.ga K C)) dd H'
  | .bad => False
def spD (K : PySem.W.Frag) (n : Nat) (f : List D → Res D) : Sp := fun vs H Q E => ∃ ds F, Same F H ∧ Reps K F ds vs ∧ vs.length = n ∧ PoF K H F (f ds) Q E
theorem spD_len {K : PySem.W.Frag} {n : Nat} {f : List D → Res D} {vs : List V} {H : Hp} {Q : VK} {E : XK} (h : spD K n f vs H Q E) : vs.length = n := by
  obtain ⟨_, _, _, _, e, _⟩ := h
  exact e
/-- a call's wish, from the canonical one -/
theorem PoF.of_po {K : PySem.W.Frag} {W : WX} {σ : L2.St} {H F : Hp} {r : Res D} {Q : VK} (h : Po K W σ H F (rE K) r Q) : PoF K H F r (fun v H' => HSz K H' → Q v H') (WE W σ) := by
  cases r with
  | ok d => exact fun v H' F' t r z => h v H' F' t z r
  | exc C fs => exact h
  | bad => exact h

/-- a def of the program: at level k, under the name x, n arguments written, the defaults dd; it answers f -/
structure PFn (P : Program) (w : World) (K : PySem.W.Frag) (mg : Str → Option Value) (base : Heap) (k : Nat) (x : Str) (n : Nat) (dd : List D) (f : List D → Res D) : Prop where
  ex : ∃ (a : Addr) (fd : FuncData) (ps : List Str) (ds : List Value) (dvs : List V), FnOk P w K mg base (L2.CX P w) k a fd ps (spD K ps.length f) ∧ ps.length = n + dd.length ∧ mg x = some (.ref a) ∧ PySem.W.keepIn K (.ref a) = true ∧ Binds K fd ps ds ∧ Vals dvs ds ∧ ∀ F, Reps K F dd dvs
section
variable {X : Cx} {S : Hd} {W : WX} {k j n : Nat} {x : Str} {dd : List D} {f : List D → Res D} {e : Expr} {es : List Expr} {p pos : Pos} {a : AV}
theorem call_go {K : PySem.W.Frag} {σ : L2.St} {H : Hp} {Q : VK} {m : Nat} {dvs : List V} (hd : ∀ F, Reps K F dd dvs) (hm : m = n + dd.length) (hq : tG K S W (rE K) (eCall (fun xs => f (xs ++ dd)) a) σ H Q) :
    tCallSD (spD K m f) dvs (WE W) (tG K S W (rA K n) a) σ H fun v H' => HSz K H' → Q v H' := by
  obtain ⟨H0, F0, ρ, F, s, po⟩ := hq
  refine ⟨H0, F0, ρ, F, s, Po.of_bind (R := rE K) clR po fun ds vs H1 F1 t1 z1 r1 p1 => ?_⟩
  have hl := (hd F1).length
  exact ⟨ds ++ dd, F1, t1.ok, r1.1.append (hd F1), by rw [List.length_append, r1.2, hl, hm], PoF.of_po p1⟩
theorem d_callD (F : PFn X.prog X.w X.K X.mg X.base j x n dd f) (hj : j ≤ k) (c : Ctx X W k) (hg : Gl X x) (ha : DA X S W (e :: es) n a)
    (hdb : (x == ("__debug__" : Str)) = false := by decide) (he : starEach (e :: es) X.env = (false, eval e X.env) :: starEach es X.env := by rfl) (hpl : (backTo pos (starEach es X.env)).any (·.1) = false := by rfl) :
    DE X S W (.Call (.Name x p) (e :: es) [] pos) (eCall (fun xs => f (xs ++ dd)) a) := by
  obtain ⟨b, fd, ps, ds, dvs, Fk, hn, hm, hk, hb, hd, hr⟩ := F.ex
  exact peW (pe_callSD Fk (c.hr.mono hj) hg hm hk hb hd (passAt c.tk) ha hdb he hpl) fun σ H Q hq => call_go hr hn hq
theorem d_call (F : PFn X.prog X.w X.K X.mg X.base j x n [] f) (hj : j ≤ k) (c : Ctx X W k) (hg : Gl X x) (ha : DA X S W (e :: es) n a)
    (hdb : (x == ("__debug__" : Str)) = false := by decide) (he : starEach (e :: es) X.env = (false, eval e X.env) :: starEach es X.env := by rfl) (hpl : (backTo pos (starEach es X.env)).any (·.1) = false := by rfl) :
    DE X S W (.Call (.Name x p) (e :: es) [] pos) (eCall f a) := by
  have h := d_callD (pos := pos) (p := p) F hj c hg ha hdb he hpl
  have e : (fun xs : List D => f (xs ++ [])) = f := by funext xs; rw [List.append_nil]
  rw [e] at h
  exact h
/-- f() -/
theorem d_call0 (F : PFn X.prog X.w X.K X.mg X.base j x 0 [] f) (hj : j ≤ k) (c : Ctx X W k) (hg : Gl X x) (hdb : (x == ("__debug__" : Str)) = false := by decide) : DE X S W (.Call (.Name x p) [] [] pos) (eCall f aNil) := by
  obtain ⟨b, fd, ps, ds, dvs, Fk, hn, hm, hk, hb, hd, hr⟩ := F.ex
  have hdv : dvs = [] := hr (fun _ => none)
  subst hdv
  cases hd
  have h : PE X (.Call (.Name x p) [] [] pos) (tCallSD (spD X.K ps.length f) [] (WE W) tNil) := by
    refine ⟨fun pins s σ H Q I h => ?_⟩
    refine wpAny_Call_Name_kw (ld_glob I hg hm ?_ hdb)
    exact PySem.W.callWith_K0 I.kIn hk (run_fnSD (us := []) Fk (c.hr.mono hj) hb .nil (passAt c.tk σ) I .nil h)
  refine peW h fun σ H Q hq => ?_
  obtain ⟨H0, F0, ρ, F, s, po⟩ := hq
  exact ⟨[], F, s.same, Reps.nil, hn.symm, PoF.of_po po⟩

/-! ### a call that borrows -/
theorem lendAll {K : PySem.W.Frag} {H F : Hp} (s : Same F H) : ∀ {ds : List D} {vs : List V}, RBs K H F ds vs → ∃ F', Same F F' ∧ Same F' H ∧ Reps K F' ds vs
  | [], vs, h => ⟨F, Same.refl _, s, h⟩
  | d :: ds, _, h => by
    obtain ⟨y, ys, rfl, r, q⟩ := h
    obtain ⟨F1, l1, s1, r1⟩ := lendAll s q
    rcases r with r | ⟨es, a, xs, rfl, rfl, hH, re⟩
    · exact ⟨F1, l1, s1, y, ys, rfl, Rep.mono l1 _ _ r, r1⟩
    · have l2 : Same F1 (upd F1 a (.lst xs)) := fun b o e => by
        by_cases hb : b = a
        · subst hb
          rw [upd_same]
          have := s1 _ _ e
          rw [hH] at this
          exact this
        · rw [upd_ne hb]; exact e
      refine ⟨upd F1 a (.lst xs), l1.trans l2, fun b o e => ?_, .ref a, ys, rfl, ⟨a, xs, rfl, upd_same, Reps.mono (l1.trans l2) _ _ re⟩, Reps.mono l2 _ _ r1⟩
      by_cases hb : b = a
      · subst hb
        rw [upd_same] at e
        rw [hH]
        exact e
      · rw [upd_ne hb] at e
        exact s1 _ _ e
theorem atom_rep {K : PySem.W.Frag} {H H' : Hp} {d : D} {v : V} (h : d.atom = true) (r : Rep K H d v) : Rep K H' d v := by
  cases d with
  | non => exact r
  | bl b => exact r
  | int i => exact r
  | str x => exact r
  | tup ds => cases h
  | lst ds => cases h
  | ext ds => cases h
  | obj C fs => cases h
theorem atom_repF {K : PySem.W.Frag} {H H' : Hp} : ∀ {fs : List (Str × D)} {xs : List (Str × V)}, fs.all (fun p => p.2.atom) = true → RepF K H fs xs → RepF K H' fs xs
  | [], _, _, r => r
  | (n, d) :: fs, _, h, r => by
    obtain ⟨y, ys, e, ⟨e1, r1⟩, r2⟩ := r
    rw [List.all_cons, Bool.and_eq_true] at h
    exact ⟨y, ys, e, ⟨e1, atom_rep h.1 r1⟩, atom_repF h.2 r2⟩
theorem PoF.borrow {K : PySem.W.Frag} {W : WX} {σ : L2.St} {H F F1 : Hp} {r : Res D} {Q : VK} (s1 : Same F F1) (sH : Same F H)
    (h : Po K W σ H F (rE K) (match r with
      | .ok d => if d.atom = true then .ok d else .bad
      | .exc C fs => if fs.all (fun p => p.2.atom) = true then .exc C fs else .bad
      | .bad => .bad) Q) : PoF K H F1 r (fun v H' => HSz K H' → Q v H') (WE W σ) := by
  have st : ∀ {H' F' : Hp}, Step H F1 H' F' → Step H F H' F := fun {H' F'} t => ⟨Same.refl _, sH.trans t.same, t.same, fun _ _ e => e⟩
  cases r with
  | ok d =>
    replace h : Po K W σ H F (rE K) (if d.atom = true then .ok d else .bad) Q := h
    by_cases ha : d.atom = true
    · rw [if_pos ha] at h
      exact fun v H' F' t r z => h v H' F (st t) z (atom_rep ha r)
    · rw [if_neg ha] at h
      exact h.elim
  | exc C fs =>
    replace h : Po K W σ H F (rE K) (if fs.all (fun p => p.2.atom) = true then .exc C fs else .bad) Q := h
    by_cases ha : fs.all (fun p => p.2.atom) = true
    · rw [if_pos ha] at h
      refine fun H' F' dd' t x => h H' F dd' (st t) ?_
      rcases x with x | ⟨x1, d, xs, e, hd, r⟩
      · exact .inl x
      · exact .inr ⟨x1, d, xs, e, hd, atom_repF ha r⟩
    · rw [if_neg ha] at h
      exact h.elim
  | bad => exact h
theorem d_callB (F : PFn X.prog X.w X.K X.mg X.base j x n [] f) (hj : j ≤ k) (c : Ctx X W k) (hg : Gl X x) (ha : DAB X S W (e :: es) n a)
    (hdb : (x == ("__debug__" : Str)) = false := by decide) (he : starEach (e :: es) X.env = (false, eval e X.env) :: starEach es X.env := by rfl) (hpl : (backTo pos (starEach es X.env)).any (·.1) = false := by rfl) :
    DE X S W (.Call (.Name x p) (e :: es) [] pos) (eCallB f a) := by
  obtain ⟨b, fd, ps, ds, dvs, Fk, hn, hm, hk, hb, hd, hr⟩ := F.ex
  have hdv : dvs = [] := hr (fun _ => none)
  subst hdv
  refine peW (pe_callSD Fk (c.hr.mono hj) hg hm hk hb hd (passAt c.tk) ha hdb he hpl) fun σ H Q hq => ?_
  obtain ⟨H0, F0, ρ, F, s, po⟩ := hq
  refine ⟨H0, F0, ρ, F, s, Po.of_bind (R := rE X.K) clR po fun ds vs H1 F1 t1 z1 r1 p1 => ?_⟩
  obtain ⟨F2, l2, s2, r2⟩ := lendAll t1.ok r1.1
  refine ⟨ds, F2, s2, by rw [List.append_nil]; exact r2, by rw [List.append_nil, r1.2, hn]; rfl, PoF.borrow l2 t1.ok p1⟩
end

/-! ### the rule of a def -/
section
variable {P : Program} {w : World} {K : PySem.W.Frag} {mg : Str → Option Value} {base : Heap} {x qual : Str} {params : Arguments} {body : List Stmt} {scope : Scope} {dvs : List V} {kws : List (Str × V)} {f : Addr} {fd : FuncData}
theorem sim_start {N : List Str} {ds : List D} {vs : List V} {H F : Hp} (s : Same F H) (r : Reps K F ds vs) : Sim K (none, none) H F (startE N.length ds) (L2.start N vs) H F := by
  have hl := r.length
  refine ⟨Step.refl s, ?_, fun i c e => ?_, fun i j ci cj n e1 e2 o1 o2 => ?_⟩
  · unfold startE L2.start
    rw [List.length_append, List.length_append, List.length_map, List.length_map, List.length_replicate, List.length_replicate, hl]
  · unfold startE at e
    by_cases hi : i < ds.length
    · rw [List.getElem?_append_left (by rw [List.length_map]; exact hi), List.getElem?_map, List.getElem?_eq_getElem hi] at e
      obtain rfl : Cell.val ds[i] = c := by simpa using e
      obtain ⟨v, hv, rv⟩ := r.get (List.getElem?_eq_getElem hi)
      refine ⟨v, ?_, rv⟩
      unfold L2.start
      rw [List.getElem?_append_left (by rw [List.length_map, hl]; exact hi), List.getElem?_map, hv]
      rfl
    · rw [List.getElem?_append_right (by rw [List.length_map]; omega), List.getElem?_replicate] at e
      split at e <;> simp at e
  · have own : ∀ {i : Nat} {c : Cell}, (startE N.length ds)[i]? = some (some c) → c.owned = true → False := fun {i c} e o => by
      unfold startE at e
      by_cases hi : i < ds.length
      · rw [List.getElem?_append_left (by rw [List.length_map]; exact hi), List.getElem?_map, List.getElem?_eq_getElem hi] at e
        obtain rfl : Cell.val ds[i] = c := by simpa using e
        cases o
      · rw [List.getElem?_append_right (by rw [List.length_map]; omega), List.getElem?_replicate] at e
        split at e <;> simp at e
    exact (own e1 o1).elim
/-- a def whose body is read as g -/
theorem fnOk {N ps : List Str} {k : Nat} {g : SV} (F : FunD K x qual params body scope dvs kws f fd) (S : FnScope N ps scope)
    (hb : ∀ (cdv : Value) (A : Around) (outer : List PySem.Env) (s : Shared) (H : Hp) (E : XK) (W : WX), Ctx (cxOf (L2.CX P w) P w K mg base N qual scope f cdv A outer s H E) W k → DSs (cxOf (L2.CX P w) P w K mg base N qual scope f cdv A outer s H E) (none, none) W body g) :
    FnOk P w K mg base (L2.CX P w) (k + 1) f fd ps (spD K ps.length (defD ps.length N.length g)) := by
  refine F.ok S (fun vs H Q E h => spD_len h) fun cdv A outer s H vs Q E hr h => ?_
  obtain ⟨ds, F0, sm, r, hl, hf⟩ := h
  refine ⟨_, hb cdv A outer s H E (fun cls d _ H => E cls d H) ⟨takes_of rfl rfl rfl rfl, passes_of rfl, hr⟩, H, F0, startE N.length ds, F0, sim_start sm r, ?_⟩
  unfold defD at hf
  rw [if_pos (by rw [← r.length]; exact hl)] at hf
  cases eg : g (startE N.length ds) with
  | nx ρ => rw [eg] at hf; exact fun σ' H' F' s' l => hf _ H' F' s'.step rfl
  | rt d => rw [eg] at hf; exact fun v H' F' t l z r => hf v H' F' t r
  | ex ρ C fs => rw [eg] at hf; exact fun σ' H' F' dd s' l x => hf H' F' dd s'.step x
  | bk ρ => rw [eg] at hf; exact hf.elim
  | ct ρ => rw [eg] at hf; exact hf.elim
  | bad => rw [eg] at hf; exact hf.elim
theorem pfn {N ps : List Str} {k : Nat} {g : SV} (F : FunD K x qual params body scope [] [] f fd) (S : FnScope N ps scope) (hm : mg x = some (.ref f))
    (hbi : ∀ (kV doc pm : Value) (an : Option Addr) (cdv ct : Value) (us : List Value), us.length = ps.length → bindArgs (PySem.W.fnOf x qual params body scope .none kV doc pm an cdv ct) ⟨us, []⟩ = pure (ps.zip us))
    (hb : ∀ (cdv : Value) (A : Around) (outer : List PySem.Env) (s : Shared) (H : Hp) (E : XK) (W : WX), Ctx (cxOf (L2.CX P w) P w K mg base N qual scope f cdv A outer s H E) W k → DSs (cxOf (L2.CX P w) P w K mg base N qual scope f cdv A outer s H E) (none, none) W body g) :
    PFn P w K mg base (k + 1) x ps.length [] (defD ps.length N.length g) :=
  ⟨f, fd, ps, [], [], fnOk F S hb, rfl, hm, F.kp, F.bindsN hbi, .nil, fun _ => rfl⟩
end

/-! ### instances -/
section
variable {X : Cx} {S : Hd} {W : WX} {k j n : Nat} {x fl : Str} {Cs : List Str} {e o : Expr} {es : List Expr} {p pos p2 : Pos} {f fo : EV} {a : AV}
/-- e.f -/
theorem d_fld (hC : ∀ C ∈ Cs, Cls X.K (He.ga X.K C) ∧ NoAttr X.K (He.ga X.K C) fl) (he : DB X S W e f) (hb : attributeBase e fl X.env (eval e X.env) = eval e X.env := by rfl) : DE X S W (.Attribute e fl pos) (eFld Cs fl f) := by
  refine peW (pe_fld he hb) fun σ H Q hq => ?_
  obtain ⟨H0, F0, ρ, F, s, po⟩ := hq
  refine ⟨H0, F0, ρ, F, s, Po.of_bind (R := rE X.K) clR po fun d v H1 F1 t1 z1 r1 p1 => ?_⟩
  cases d with
  | obj C fs =>
    replace p1 : Po X.K W σ H1 F1 (rE X.K) (if C ∈ Cs then optR (fs.lookup fl) else .bad) Q := p1
    by_cases hc : C ∈ Cs
    · rw [if_pos hc] at p1
      obtain ⟨b, dx, xs, rfl, hH, rf⟩ := RB.obj t1.ok r1
      cases el : fs.lookup fl with
      | none => rw [el] at p1; exact p1.elim
      | some d =>
        rw [el] at p1
        obtain ⟨u, eu, ru⟩ := rf.lookup el
        exact ⟨b, _, dx, xs, u, rfl, hH, (hC C hc).1, (hC C hc).2, eu, fun z => p1 u H1 F1 (Step.refl t1.ok) z ru⟩
    · rw [if_neg hc] at p1
      exact p1.elim
  | _ => exact p1.elim
/-- self.f within __init__ -/
theorem d_fldO (i : Nat) (hC : ∀ C ∈ Cs, Cls X.K (He.ga X.K C) ∧ NoAttr X.K (He.ga X.K C) fl) (hN : X.N[i]? = some x := by rfl) (hv : Vis X.env.scope x := by first | exact Or.inl rfl | exact Or.inr (Or.inl rfl) | exact Or.inr (Or.inr rfl))
    (hd : (x == ("__debug__" : Str)) = false := by decide) (hcd : (x == ("__classdict__" : Str)) = false := by decide) : DE X S W (.Attribute (.Name x p) fl pos) (eFldO Cs i fl) := by
  refine peW (pe_fld (pe_var hN hv hd hcd) rfl) fun σ H Q hq => ?_
  obtain ⟨H0, F0, ρ, F, s, po⟩ := hq
  unfold eFldO at po
  split at po
  · rename_i C fs ed
    obtain ⟨v, ev, b, dx, xs, rfl, h1, h2, h3, r, _⟩ := s.cell i _ ed
    by_cases hc : C ∈ Cs
    · rw [if_pos hc] at po
      cases el : fs.lookup fl with
      | none => rw [el] at po; exact po.elim
      | some d =>
        rw [el] at po
        obtain ⟨u, eu, ru⟩ := r.lookup el
        exact ⟨_, ev, b, _, dx, xs, u, rfl, h1, (hC C hc).1, (hC C hc).2, eu, fun z => po u H F (Step.refl s.same) z ru⟩
    · rw [if_neg hc] at po
      exact po.elim
  · exact po.elim
/-- self.f = e within __init__ -/
theorem s_fld (i : Nat) (hC : ∀ C ∈ Cs, Cls X.K (He.ga X.K C) ∧ NoAttr X.K (He.ga X.K C) fl) (he : DE X S W e f) (hs : swapsWith e (some (.Attribute (.Name x p) fl p2)) pos.line X.env = pure false := by rfl) (hN : X.N[i]? = some x := by rfl) (hv : Vis X.env.scope x := by first | exact Or.inl rfl | exact Or.inr (Or.inl rfl) | exact Or.inr (Or.inr rfl))
    (hd : (x == ("__debug__" : Str)) = false := by decide) (hcd : (x == ("__classdict__" : Str)) = false := by decide) : DS X S W (.Assign [.Attribute (.Name x p) fl p2] e pos) (sFld Cs i fl f) := by
  refine psW (ps_fld (pe_var hN hv hd hcd) he hs) fun D σ H hq => ?_
  obtain ⟨H0, F0, ρ, F, s, po⟩ := hq
  unfold Pu.sFld at po
  split at po
  · rename_i C fs ed
    obtain ⟨v, ev, b, dx, xs, rfl, h1, h2, h3, r, hS⟩ := s.cell i _ ed
    by_cases hc : C ∈ Cs
    · rw [if_pos hc] at po
      refine ⟨H0, F0, ρ, F, s, PoS.of_sr (R := rE X.K) s po fun d u H1 F1 t1 z1 r1 s1 p1 => ⟨_, ev, b, _, dx, xs, rfl, t1.same _ _ h1, (hC C hc).1, (hC C hc).2, ?_⟩⟩
      by_cases hl : fs.length < 900
      · rw [if_pos hl] at p1
        refine ⟨by rw [r.length]; omega, ?_⟩
        refine p1 σ _ F1 (s1.change i ed rfl ev ⟨b, dx, _, rfl, upd_same, t1.new b (some_ne h1) h2, h3, RepF.put r1 (RepF.mono t1.le _ _ r), hS⟩) (Same.refl _)
      · rw [if_neg hl] at p1
        exact p1.elim
    · rw [if_neg hc] at po
      exact po.elim
  · exact po.elim

/-- what an __init__ promises: the fields that stand behind it -/
def PoI (K : PySem.W.Frag) (H F : Hp) (x dx : Addr) (C : Str) (r : Res D) (Q : VK) (E : XK) : Prop := match r with
  | .ok (.obj C' fs) => C' = C ∧ ∀ H' F' xs, Step (cutH H x) F H' F' → F' x = none → H' x = some (.ins (He.ga K C) dx xs) → RepF K F' fs xs → Q .non H'
  | .exc C fs => ∀ H' F' dd, Step (cutH H x) F H' F' → ExcR K H' F' fs dd → E (.ref (He.ga K C)) dd H'
  | _ => False
def spI (K : PySem.W.Frag) (n : Nat) (C : Str) (f : List D → Res D) : Sp := fun vs H Q E => ∃ ds F x dx us, vs = .ref x :: us ∧ H x = some (.ins (He.ga K C) dx []) ∧ F x = none ∧ Same F H ∧ Reps K F ds us ∧ us.length = n ∧ PoI K H F x dx C (f ds) Q E
theorem spI_len {K : PySem.W.Frag} {n : Nat} {C : Str} {f : List D → Res D} {vs : List V} {H : Hp} {Q : VK} {E : XK} (h : spI K n C f vs H Q E) : vs.length = n + 1 := by
  obtain ⟨_, _, _, _, us, rfl, _, _, _, _, e, _⟩ := h
  rw [List.length_cons, e]
end
section
variable {P : Program} {w : World} {K : PySem.W.Frag} {mg : Str → Option Value} {base : Heap} {x qual : Str} {params : Arguments} {body : List Stmt} {scope : Scope} {dvs : List V} {kws : List (Str × V)} {f : Addr} {fd : FuncData}
theorem sim_startI {y : Str} {N : List Str} {C : Str} {ds : List D} {vs : List V} {H F : Hp} {a dx : Addr} (s : Same F H) (ha : H a = some (.ins (He.ga K C) dx [])) (hF : F a = none) (r : Reps K F ds vs) :
    Sim K (none, some (a, dx)) (cutH H a) F (some (.oobj C []) :: startE N.length ds) (L2.start (y :: N) (.ref a :: vs)) H F := by
  have s0 := sim_start (N := N) s r
  have e : L2.start (y :: N) (.ref a :: vs) = some (.ref a) :: L2.start N vs := by
    unfold L2.start
    rw [List.map_cons, List.cons_append, List.length_cons, List.length_cons, Nat.add_sub_add_right]
  rw [e]
  have noown : ∀ {i : Nat} {c : Cell}, (startE N.length ds)[i]? = some (some c) → c.owned = true → False := fun {i c} e o => by
    unfold startE at e
    by_cases hi : i < ds.length
    · rw [List.getElem?_append_left (by rw [List.length_map]; exact hi), List.getElem?_map, List.getElem?_eq_getElem hi] at e
      obtain rfl : Cell.val ds[i] = c := by simpa using e
      cases o
    · rw [List.getElem?_append_right (by rw [List.length_map]; omega), List.getElem?_replicate] at e
      split at e <;> simp at e
  refine ⟨Step.uncut s hF, by rw [List.length_cons, List.length_cons, s0.len], fun i c e => ?_, fun i j ci cj n e1 e2 o1 o2 => ?_⟩
  · cases i with
    | zero =>
      obtain rfl : Cell.oobj C [] = c := by simpa using e
      exact ⟨.ref a, rfl, a, dx, [], rfl, ha, hF, cutH_self, rfl, rfl⟩
    | succ i =>
      rw [List.getElem?_cons_succ] at e ⊢
      obtain ⟨v, ev, r⟩ := s0.cell i c e
      refine ⟨v, ev, ?_⟩
      cases c with
      | val d => exact r
      | own ds => exact (noown e rfl).elim
      | oobj C fs => exact (noown e rfl).elim
      | oset xs => exact (noown e rfl).elim
      | exn C fs =>
        obtain ⟨_, _, h, _⟩ := r
        cases h
  · cases i with
    | zero =>
      cases j with
      | zero => exact absurd rfl n
      | succ j =>
        rw [List.getElem?_cons_succ] at e2
        exact (noown e2 o2).elim
    | succ i =>
      rw [List.getElem?_cons_succ] at e1
      exact (noown e1 o1).elim
/-- an __init__ whose body is read as g -/
theorem initOk {y C : Str} {N ps : List Str} {k : Nat} {g : SV} (F : FunD K x qual params body scope dvs kws f fd) (S : FnScope (y :: N) (y :: ps) scope)
    (hb : ∀ (S : Hd) (cdv : Value) (A : Around) (outer : List PySem.Env) (s : Shared) (H : Hp) (E : XK) (W : WX), S.1 = none → Ctx (cxOf (L2.CX P w) P w K mg base (y :: N) qual scope f cdv A outer s H E) W k → DSs (cxOf (L2.CX P w) P w K mg base (y :: N) qual scope f cdv A outer s H E) S W body g) :
    FnOk P w K mg base (L2.CX P w) (k + 1) f fd (y :: ps) (spI K ps.length C (initD C ps.length (N.length + 1) g)) := by
  refine F.ok S (fun vs H Q E h => by rw [spI_len h]; rfl) fun cdv A outer s H vs Q E hr h => ?_
  obtain ⟨ds, F0, a, dx, us, rfl, ha, hF, sm, r, hl, hf⟩ := h
  refine ⟨_, hb (none, some (a, dx)) cdv A outer s H E (fun cls d _ H => E cls d H) rfl ⟨takes_of rfl rfl rfl rfl, passes_of rfl, hr⟩, cutH H a, F0, some (.oobj C []) :: startE N.length ds, F0, sim_startI sm ha hF r, ?_⟩
  unfold initD at hf
  rw [if_pos (by rw [← r.length]; exact hl), Nat.add_sub_cancel] at hf
  cases eg : g (some (.oobj C []) :: startE N.length ds) with
  | nx ρ =>
    rw [eg] at hf
    replace hf : PoI K H F0 a dx C (doneE C ρ) Q E := hf
    unfold doneE at hf
    intro σ' H' F' s' l
    split at hf
    · rename_i C' fs e0
      by_cases hc : C' = C
      · rw [if_pos hc] at hf
        subst hc
        obtain ⟨v, ev, b, dx', xs, rfl, h1, h2, h3, r, hS⟩ := s'.cell 0 _ e0
        obtain ⟨rfl, rfl⟩ : a = b ∧ dx = dx' := by
          have := Option.some.inj hS
          exact ⟨congrArg Prod.fst this, congrArg Prod.snd this⟩
        exact hf.2 H' F' xs s'.step h2 h1 r
      · rw [if_neg hc] at hf
        exact hf.elim
    · exact hf.elim
  | rt d => rw [eg] at hf; exact hf.elim
  | ex ρ C' fs => rw [eg] at hf; exact fun σ' H' F' dd s' l x => hf H' F' dd s'.step x
  | bk ρ => rw [eg] at hf; exact hf.elim
  | ct ρ => rw [eg] at hf; exact hf.elim
  | bad => rw [eg] at hf; exact hf.elim
end
/-- a class of the program: its __init__ at level k, n arguments written, the defaults dd; the instance is f's -/
structure PCl (P : Program) (w : World) (K : PySem.W.Frag) (mg : Str → Option Value) (base : Heap) (k : Nat) (x : Str) (n : Nat) (dd : List D) (f : List D → Res D) : Prop where
  ex : ∃ (a : Addr) (fd : FuncData) (ps : List Str) (ds : List Value) (dvs : List V), FnOk P w K mg base (L2.CX P w) k a fd ps (spI K (n + dd.length) x f) ∧ Mk K (He.ga K x) a ∧ mg x = some (.ref (He.ga K x)) ∧ Binds K fd ps ds ∧ Vals dvs ds ∧ ∀ F, Reps K F dd dvs
section
variable {X : Cx} {S : Hd} {W : WX} {k j n : Nat} {x : Str} {dd : List D} {f : List D → Res D} {e : Expr} {es : List Expr} {p pos : Pos} {a : AV}
def tMakeS (C : Addr) (sp : Sp) (dvs : List V) (E : L2.St → XK) (t : TA) : TE := fun σ H Q => t σ H fun vs H1 => ∀ x dx, H1 x = none → H1 dx = none → dx ≠ x →
  sp (.ref x :: (vs ++ dvs)) (upd (upd H1 dx (.own x)) x (.ins C dx [])) (fun v H2 => v = .non ∧ Q (.ref x) H2) (E σ)
theorem run_makeS {C fi : Addr} {fd : FuncData} {ps : List Str} {sp : Sp} {ds : List Value} {dvs : List V} {CX : CXT} {E : XK} {pins : List (Addr × Obj)} {σ : L2.St} {H : Hp} {s : Shared} {Q : VK} {us : List Value} {vs : List V} (M : Mk X.K C fi) (F : FnOk X.prog X.w X.K X.mg X.base CX k fi fd ps sp) (hr : Room (k + 1) X.A) (hb : Binds X.K fd ps ds) (hd : Vals dvs ds)
    (hx : PassesAt CX X σ E) (I : Inv X pins σ H s) (r : Vals vs us)
    (h : ∀ x dx, H x = none → H dx = none → dx ≠ x → sp (.ref x :: (vs ++ dvs)) (upd (upd H dx (.own x)) x (.ins C dx [])) (fun v H2 => v = .non ∧ Q (.ref x) H2) E) :
    wpAny (model X.prog X.w) X.A (call (.ref C) us) (EP X pins σ Q) X.xe s := by
  have hq := h (s.heap.objs.size + 1) s.heap.objs.size (I.hok.fresh (Nat.le_succ _)) (I.hok.fresh (Nat.le_refl _)) (Nat.ne_of_lt (Nat.lt_succ_self _))
  have I2 := Inv.made (C := C) I
  have r2 : Vals (V.ref (s.heap.objs.size + 1) :: (vs ++ dvs)) (Value.ref (s.heap.objs.size + 1) :: (us ++ ds)) := .cons rfl (r.append hd)
  have hl : (Value.ref (s.heap.objs.size + 1) :: us ++ ds).length = ps.length := by
    have e := r2.length
    rw [F.len _ _ _ _ hq] at e
    exact e.symm
  refine wpAny_call (make_map (f := fi) I.kIn M.makes M.init (beq_iff_eq.mp M.fn) (codeAny_mono (F.run _ X.stack _ _ ⟨Value.ref (s.heap.objs.size + 1) :: us, []⟩ (Value.ref (s.heap.objs.size + 1) :: (us ++ ds)) _ _ E (hr.make C us [])
    (I2.env0.make C us []) (hb _ (Value.ref (s.heap.objs.size + 1) :: us) I2.kIn hl) r2 hq) fun r s' hq' => ?_))
  cases r with
  | error e => exact hx pins _ _ e s' I2 hq'
  | ok fl =>
    cases fl with
    | ret u =>
      obtain ⟨v, H', I3, rv, ev, q3⟩ := I2.after hq'
      subst ev
      exact ⟨rv, ⟨V.ref (s.heap.objs.size + 1), H', I3, rfl, q3⟩⟩
    | next => exact False.elim hq'
    | brk => exact False.elim hq'
    | cont => exact False.elim hq'
theorem make_go {K : PySem.W.Frag} {W : WX} {σ : L2.St} {H F : Hp} {Q : VK} {m : Nat} {C : Str} {ds : List D} {vs : List V} {x dx : Addr} (s : Same F H) (r : Reps K F ds vs) (hl : vs.length = m) (hx : H x = none) (hdx : H dx = none) (hne : dx ≠ x)
    (p : Po K W σ H F (rE K) (objOf C (f ds)) Q) :
    spI K m C f (.ref x :: vs) (upd (upd H dx (.own x)) x (.ins (He.ga K C) dx [])) (fun v H2 => v = .non ∧ (HSz K H2 → Q (.ref x) H2)) (WE W σ) := by
  have hFx : F x = none := s.free hx
  have hFd : F dx = none := s.free hdx
  have s2 : Same F (upd (upd H dx (.own x)) x (.ins (He.ga K C) dx [])) := fun b o e => by
    rw [upd_ne (ne_of_none e hFx), upd_ne (ne_of_none e hFd)]; exact s b o e
  have hs : Same H (cutH (upd (upd H dx (.own x)) x (.ins (He.ga K C) dx [])) x) := fun b o e => by
    rw [cutH_ne (ne_of_none e hx), upd_ne (ne_of_none e hx), upd_ne (ne_of_none e hdx)]; exact e
  have nn : ∀ b, H b ≠ none → cutH (upd (upd H dx (.own x)) x (.ins (He.ga K C) dx [])) x b ≠ none := fun b hb z => by
    cases q : H b with
    | none => exact hb q
    | some o => rw [hs b o q] at z; cases z
  refine ⟨ds, F, x, dx, vs, rfl, upd_same, hFx, s2, r, hl, ?_⟩
  unfold objOf at p
  split at p
  · rename_i C' fs ef
    by_cases hc : C' = C
    · rw [if_pos hc] at p
      subst hc
      rw [ef]
      refine ⟨rfl, fun H' F' xs t hF' hH' rf => ⟨rfl, fun z => ?_⟩⟩
      have le' : Same F' (upd F' x (.ins (He.ga K C') dx xs)) := fun b o e => by rw [upd_ne (ne_of_none e hF')]; exact e
      refine p (.ref x) H' (upd F' x (.ins (He.ga K C') dx xs)) ⟨t.le.trans le', fun b o e => ?_, hs.trans t.same, fun b hb e => ?_⟩ z ⟨x, dx, xs, rfl, upd_same, RepF.mono le' _ _ rf⟩
      · by_cases hb : b = x
        · subst hb
          rw [upd_same] at e
          rw [hH']
          exact e
        · rw [upd_ne hb] at e
          exact t.ok b o e
      · have hbx : b ≠ x := fun e => hb (e ▸ hx)
        rw [upd_ne hbx]
        exact t.new b (nn b hb) e
    · rw [if_neg hc] at p
      exact p.elim
  · rename_i C' fs ef
    rw [ef]
    exact fun H' F' dd' t x => p H' F' dd' ⟨t.le, t.ok, hs.trans t.same, fun b hb e => t.new b (nn b hb) e⟩ x
  · exact p.elim
theorem d_makeD (F : PCl X.prog X.w X.K X.mg X.base j x n dd f) (hj : j + 1 ≤ k) (c : Ctx X W k) (hg : Gl X x) (ha : DA X S W (e :: es) n a)
    (hdb : (x == ("__debug__" : Str)) = false := by decide) (he : starEach (e :: es) X.env = (false, eval e X.env) :: starEach es X.env := by rfl) (hpl : (backTo pos (starEach es X.env)).any (·.1) = false := by rfl) :
    DE X S W (.Call (.Name x p) (e :: es) [] pos) (eMake x (fun xs => f (xs ++ dd)) a) := by
  obtain ⟨fi, fd, ps, ds, dvs, Fk, M, hm, hb, hd, hr⟩ := F.ex
  have h : PE X (.Call (.Name x p) (e :: es) [] pos) (tMakeS (He.ga X.K x) (spI X.K (n + dd.length) x f) dvs (WE W) (tG X.K S W (rA X.K n) a)) := by
    refine ⟨fun pins s σ H Q I h => ?_⟩
    refine wpAny_Call_Name_kw (ld_glob I hg hm ?_ hdb)
    refine PySem.W.callWith_K (h₀ := X.base) I.ok.mod.kin M.kp (thn (ha.run pos pins s σ H _ I h) fun us s1 ⟨vs, H1, I1, r, q⟩ => ⟨I1.kIn, ?_⟩) he hpl
    exact run_makeS M Fk (c.hr.mono hj) hb hd (passAt c.tk σ) I1 r q
  refine peW h fun σ H Q hq => ?_
  obtain ⟨H0, F0, ρ, F, s, po⟩ := hq
  refine ⟨H0, F0, ρ, F, s, Po.of_bind (R := rE X.K) clR po fun ds' vs H1 F1 t1 z1 r1 p1 => fun x' dx hx hdx hne => ?_⟩
  have hl := (hr F1).length
  exact make_go (f := f) t1.ok (r1.1.append (hr F1)) (by rw [List.length_append, r1.2, hl]) hx hdx hne p1
theorem d_make (F : PCl X.prog X.w X.K X.mg X.base j x n [] f) (hj : j + 1 ≤ k) (c : Ctx X W k) (hg : Gl X x) (ha : DA X S W (e :: es) n a)
    (hdb : (x == ("__debug__" : Str)) = false := by decide) (he : starEach (e :: es) X.env = (false, eval e X.env) :: starEach es X.env := by rfl) (hpl : (backTo pos (starEach es X.env)).any (·.1) = false := by rfl) :
    DE X S W (.Call (.Name x p) (e :: es) [] pos) (eMake x f a) := by
  have h := d_makeD (pos := pos) (p := p) F hj c hg ha hdb he hpl
  have e : (fun xs : List D => f (xs ++ [])) = f := by funext xs; rw [List.append_nil]
  rw [e] at h
  exact h
theorem d_make0 (F : PCl X.prog X.w X.K X.mg X.base j x 0 [] f) (hj : j + 1 ≤ k) (c : Ctx X W k) (hg : Gl X x) (hdb : (x == ("__debug__" : Str)) = false := by decide) : DE X S W (.Call (.Name x p) [] [] pos) (eMake x f aNil) := by
  obtain ⟨fi, fd, ps, ds, dvs, Fk, M, hm, hb, hd, hr⟩ := F.ex
  have hdv : dvs = [] := hr (fun _ => none)
  subst hdv
  have h : PE X (.Call (.Name x p) [] [] pos) (tMakeS (He.ga X.K x) (spI X.K (0 + 0) x f) [] (WE W) tNil) := by
    refine ⟨fun pins s σ H Q I h => ?_⟩
    refine wpAny_Call_Name_kw (ld_glob I hg hm ?_ hdb)
    exact PySem.W.callWith_K0 I.kIn M.kp (run_makeS (us := []) M Fk (c.hr.mono hj) hb hd (passAt c.tk σ) I .nil h)
  refine peW h fun σ H Q hq => ?_
  obtain ⟨H0, F0, ρ, F, s, po⟩ := hq
  intro x' dx hx hdx hne
  exact make_go (f := f) s.same Reps.nil rfl hx hdx hne po
end
end Pu

/-! Pu, part M: the program's own errors: raise, try, what a handler reads. -/
namespace PySem.W
open PySem PySem.Spec PySem.Calls PyProof.Rows
section
variable {prog : Program} {w : World} {A : Around} {E : Value → Shared → Prop} {s : Shared} {K : Frag} {x D : Addr} {ox : Obj}
theorem pu_findData {C : Addr} {od : Option Obj} {name : Str} {a g : Value} (hc : (clsIn K C).isSome = true) (ha : findIn K (.ref C) name = some (some a)) (hg : specialIn K a "__get__" = some (some g)) (ht : takesIn K a = some true) : findObj K C od name = some (.bind g a) := by
  obtain ⟨cd, hc⟩ := Option.isSome_iff_exists.mp hc
  unfold findObj
  rw [hc, Option.bind_some, ha, Option.bind_some]
  simp [hg, ht]
theorem pu_kinClass {od : Option Obj} {Q : Option Value → Shared → Prop} (C : L2.ExcC K D) (X : K.In s.heap) (I : InstAt s.heap x ox D od) (h : Q (some (.ref D)) { s with toks := s.toks + 1 }) : wpAny (model prog w) A (getAttr? (.ref x) "__class__") Q E s := by
  obtain ⟨hga, hgt, hsub, hdct, ha, hn, htk, hm⟩ := C
  have hf : findObj K D od "__class__" = some (.bind (.builtin "getset_descriptor.__get__") (.builtin "object.__class__")) := pu_findData (by obtain ⟨cd, hc, _⟩ := any_some hdct; rw [hc]; rfl) ha hn htk
  obtain ⟨hp, g, d, t, os⟩ := s
  have L0 := I.type (M := model prog w)
  have L1 := looks_findIn (M := model prog w) X hga
  have L2 := looks_findIn (M := model prog w) X hgt
  have L3 := looks_find (M := model prog w) X I hf
  have sub : Looks (model prog w) hp (isInstance (.ref x) (.type "BaseException")) true := L0.andThen (looks_subIn X hsub)
  have hx0 : (false && onTheHeap (Value.builtin "BaseException.__getattribute__")) = false := rfl
  have hx2 : (Value.builtin "BaseException.__getattribute__" == Value.builtin "object.__getattribute__") = false := by decide +kernel
  have hx1 : (onTheHeap (Value.ref D) && Value.builtin "BaseException.__getattribute__" == Value.builtin "object.__getattribute__") = false := by rw [hx2]; rfl
  unfold getAttr? getAttrBy? getAttrBy
  refine wpAny_bind (wpAny_mkText (wpAny_bind (wpAny_attempt (wpAny_holding (wpAny_bind (L0.at (wpAny_bind (L1.at ?_))))))))
  show wpAny _ _ (if (onTheHeap (Value.ref D) && Value.builtin "BaseException.__getattribute__" == Value.builtin "object.__getattribute__") = true then _ else _) _ _ _
  rw [hx1, if_neg Bool.false_ne_true]
  unfold getAttrByItsOwn hookBefore
  refine wpAny_bind ?_
  rw [if_pos (show onTheHeap (Value.ref D) = true from rfl)]
  refine L2.at ?_
  refine wpAny_bind (wpAny_attempt (wpAny_holding ?_))
  unfold callGetattribute
  rw [hx0, if_neg Bool.false_ne_true]
  unfold boundAndCalled
  rw [PySem.F.excAttr_ValueError.ga.bind (.ref x)]
  refine wpAny_bind (wpAny_pure ?_)
  show wpAny _ _ (call (.builtin "BaseException.__getattribute__") [.ref x, .str "__class__" t]) _ _ _
  refine wpAny_call (codeAny_call_builtin PySem.F.excAttr_ValueError.ga.plain PySem.F.entry_bexc_ga ?_)
  refine @check_slot (model prog w) _ _ ⟨hp, g, d, t + 1, os⟩ "BaseException.__getattribute__" "BaseException" "__getattribute__" (.ref x) [.str "__class__" t] [] _ (by decide +kernel) (by decide +kernel) sub (PySem.F.args_bexc_ga (.ref x) (.str "__class__" t)) ?_
  unfold Builtin.«object.__getattribute__»
  refine wpAny_bind (wpAny_of_eq (a := ((Value.ref x : Value), [Value.str "__class__" t])) (by first | rfl | (simp only [slotArgs]; rfl)) ?_)
  refine wpAny_bind (wpAny_pure (wpAny_bind (L0.at (wpAny_bind (L3.at ?_)))))
  show wpAny _ _ (holding [Value.builtin "object.__class__"] (call (.builtin "getset_descriptor.__get__") [.builtin "object.__class__", .ref x, .ref D]) >>= ret) _ _ _
  refine wpAny_bind (wpAny_holding (wpAny_call (class_get (s := ⟨hp, g, d, t + 1, os⟩) (ox := ox) (od := od) X I hm ?_)))
  refine wpAny_pure ?_
  show wpAny _ _ (handedOut (.ref D)) _ _ _
  rw [handedOut_of (v := .ref D) rfl]
  first
    | exact wpAny_pure (wpAny_pure h)
    | exact wpAny_pure h
    | exact wpAny_pure (wpAny_bind (wpAny_pure (wpAny_pure h)))
theorem pu_kitx {od : Option Obj} (C : L2.ExcC K D) : KitX K (.ref x) (.ref D) (fun h => InstAt h x ox D od) where
  ty := fun _ _ _ I => I.type
  it := fun _ _ X _ => by
    obtain ⟨cdD, hcD, _⟩ := any_some C.hd
    unfold clsIn at hcD
    split at hcD
    · rename_i c' d' cd' sl' ho
      intro A' Q' E' s' k q
      unfold isType loadHead
      exact wpAny_bind (wpAny_loadPart (k _ _ (X _ _ ho)) (wpAny_pure q))
    · cases hcD
  ne := fun h tp dd its n sl X htp => by
    obtain ⟨cdD, hcD, _⟩ := any_some C.hd
    refine Bool.eq_false_iff.mpr fun q => ?_
    have e : D = tp := Value.ref.inj (beq_iff_eq.mp q)
    subst e
    unfold clsIn at hcD
    split at hcD
    · rename_i c' d' cd' sl' ho
      have z := (X _ _ ho).symm.trans htp
      cases z
    · cases hcD
  ca := fun X I k => pu_kinClass C X I k
end
end PySem.W
namespace Pu
open PySem PySem.Spec PyProof.Rows L2

/-! ### what a handler reads -/
def rIsX (K : PySem.W.Frag) (a : Addr) (cls : Value) (d : Option Addr) : List V → Hp → VK → Prop := fun xs H Q => ∃ (Dc : Addr) (c : V) (cv : Value) (b : Bool), cls = .ref Dc ∧ ExcC K Dc ∧ xs = [.ref a, c] ∧ (∀ u, RelV c u → u = cv) ∧ PySem.W.kitOne K (.ref Dc) cv = some b ∧
  (d = none ∨ ∃ dd fs, d = some dd ∧ H dd = some (.xd fs)) ∧ Q (.bl b) H
theorem call_isX {X : Cx} {a : Addr} {oe : Obj} {cls : Value} {d : Option Addr} {pn : List (Addr × Obj)} (hz : Zc cls d oe) (hf : ∃ vs, oe.data = .fields vs) : CallR (X.suite a ((a, oe) :: pn)) (.builtin "isinstance") (rIsX X.K a cls d) := by
  intro pins s σ H xs us Q I r h
  obtain ⟨Dc, c, cv, b, rfl, C, rfl, hcv, e, hd, q⟩ := h
  cases r with
  | cons rx rr =>
    cases rr with
    | cons rt rr =>
      cases rr
      cases rx
      have ec := hcv _ rt
      subst ec
      obtain ⟨hget, _⟩ := I.pin (a, oe) (List.mem_append.mpr (.inl List.mem_cons_self))
      obtain ⟨vs, hv⟩ := hf
      have J : ∃ od, PySem.W.InstAt s.heap a oe Dc od := by
        obtain ⟨oc, odc, oda, osl⟩ := oe
        obtain ⟨h1, h2⟩ := hz
        dsimp only at h1 h2 hv
        subst h1 h2 hv
        rcases hd with rfl | ⟨dd, fs, rfl, hH⟩
        · exact ⟨none, hget, rfl, rfl, trivial⟩
        · have hx : ObjOk X.prog X.w H s.heap dd (.xd fs) := I.hok dd _ hH
          obtain ⟨mA, hns, hr⟩ := hx
          obtain ⟨od, ho, hl⟩ := lookIn_ns hns
          exact ⟨some od, hget, rfl, rfl, ho⟩
      obtain ⟨od, J⟩ := J
      exact PySem.W.kia_one (PySem.W.pu_kitx C) I.kIn J e (fun z => nomatch z) fun tk => ⟨.bl b, H, I.kept (t' := tk) fun _ _ z => z, rfl, q⟩
section
variable {X : Cx} {a : Addr} {oe : Obj} {cls : Value} {d : Option Addr} {pn : List (Addr × Obj)} {S2 : Option (Addr × Addr)} {W : WX} {x y fl : Str} {p q q2 pos : Pos}
theorem exn_at {K : PySem.W.Frag} {H0 F0 H F : Hp} {ρ : Env} {σ : L2.St} {i : Nat} {C : Str} {fs : List (Str × D)} (s : Sim K (some (a, cls, d), S2) H0 F0 ρ σ H F) (e : ρ[i]? = some (some (.exn C fs))) : σ[i]? = some (some (.ref a)) ∧ cls = .ref (He.ga K C) ∧ ExcR K H F fs d := by
  obtain ⟨v, ev, b, dd, hS, rfl, r⟩ := s.cell i _ e
  have hS' := Option.some.inj hS
  obtain ⟨rfl, h2⟩ := Prod.mk.inj hS'
  obtain ⟨rfl, rfl⟩ := Prod.mk.inj h2
  exact ⟨ev, rfl, r⟩
/-- isinstance(e, C), e the error that is handled -/
theorem d_exnIs (i : Nat) {sub : Str → Option Bool} (hz : Zc cls d oe) (hf : ∃ vs, oe.data = .fields vs) (hsub : ∀ C b, sub C = some b → ExcC X.K (He.ga X.K C) ∧ PySem.W.kitOne X.K (.ref (He.ga X.K C)) (.ref (He.ga X.K y)) = some b)
    (hg : Gl X "isinstance") (hm : X.mg "isinstance" = none) (hgy : Gl X y) (hmy : X.mg y = some (.ref (He.ga X.K y))) (hN : X.N[i]? = some x := by rfl) (hv : Vis X.env.scope x := by first | exact Or.inl rfl | exact Or.inr (Or.inl rfl) | exact Or.inr (Or.inr rfl))
    (hd : (x == ("__debug__" : Str)) = false := by decide) (hcd : (x == ("__classdict__" : Str)) = false := by decide) (hdy : (y == ("__debug__" : Str)) = false := by decide)
    (he : starEach [.Name x p, .Name y q] X.env = (false, eval (.Name x p) X.env) :: starEach [.Name y q] X.env := by rfl) (he2 : starEach [.Name y q] X.env = (false, eval (.Name y q) X.env) :: starEach [] X.env := by rfl) :
    DE (X.suite a ((a, oe) :: pn)) (some (a, cls, d), S2) W (.Call (.Name "isinstance" q2) [.Name x p, .Name y q] [] pos) (eExnIs i sub) := by
  have h1 : PE (X.suite a ((a, oe) :: pn)) (.Name x p) (tVar i) := pe_var hN hv hd hcd
  have h2 : PE (X.suite a ((a, oe) :: pn)) (.Name y q) (tC (.ref (He.ga X.K y))) := pe_glob hgy hmy rfl hdy
  have h := pe_callB (p := q2) (pos := pos) (call_isX hz hf) hg hm boot_isinstance (pa_cons h1 (pa_cons h2 pa_nil he2) he) (by decide) (by decide) he (by rw [he2]; rfl)
  refine peW h fun σ H Q hq => ?_
  obtain ⟨H0, F0, ρ, F, s, po⟩ := hq
  unfold eExnIs at po
  split at po
  · rename_i C fs ed
    obtain ⟨ev, hc, r⟩ := exn_at s ed
    cases es : sub C with
    | none => rw [es] at po; exact po.elim
    | some b =>
      rw [es] at po
      obtain ⟨c1, c2⟩ := hsub C b es
      refine ⟨_, ev, _, _, .ref (He.ga X.K y), b, hc, c1, rfl, fun u r => r, c2, ?_, fun z => po _ H F (Step.refl s.same) z rfl⟩
      rcases r with ⟨_, r⟩ | ⟨_, dd, xs, e, hH, _⟩
      · exact .inl r
      · exact .inr ⟨dd, xs, e, hH⟩
  · exact po.elim
def tXfS (K : PySem.W.Frag) (a : Addr) (cls : Value) (d : Option Addr) (f : Str) (te : TE) : TE := fun σ H Q => te σ H fun x H1 => ∃ C : Addr, XfC K C ∧ PySem.W.findIn K (.ref C) f = some none ∧ x = .ref a ∧ cls = .ref C ∧ ∃ (dd : Addr) (fs : List (Str × V)) (v : V), d = some dd ∧ H1 dd = some (.xd fs) ∧ fs.lookup f = some v ∧ Q v H1
theorem pe_xfS {e : Expr} {te : TE} {n : Str} (hz : Zc cls d oe) (hf : ∃ vs, oe.data = .fields vs) (he : PE (X.suite a ((a, oe) :: pn)) e te) (hb : attributeBase e n X.env (eval e X.env) = eval e X.env) : PE (X.suite a ((a, oe) :: pn)) (.Attribute e n pos) (tXfS X.K a cls d n te) := by
  refine ⟨fun pins s σ H Q I h => ?_⟩
  refine attr_of hb (thn (he.run pins s σ H _ I h) fun u s1 hh => ?_)
  obtain ⟨x, H1, I1, rx, C, T, hno, ex, ec, dd, fs, v, ed, ea, l, q⟩ := hh
  subst ex
  obtain rfl : u = Value.ref a := rx
  subst ec
  subst ed
  obtain ⟨ha, _⟩ := I1.pin (a, oe) (List.mem_append_left _ List.mem_cons_self)
  obtain ⟨vs, hd⟩ := hf
  have hx : ObjOk X.prog X.w H1 s1.heap dd (.xd fs) := I1.hok dd _ ea
  obtain ⟨mA, hns, hr⟩ := hx
  obtain ⟨od, ho, hl⟩ := lookIn_ns hns
  obtain ⟨u, hu, ru⟩ := RelO.some_of (v := v) (o := mA n) (by rw [← l]; exact hr n)
  have J : PySem.W.InstAt s1.heap a oe C (some od) := ⟨ha, hz.1, by unfold PySem.W.notCls; rw [hd] <;> rfl, by rw [hz.2]; exact ho⟩
  exact HandSPX.exc_get I1.kIn J T.ga T.gg T.exC (PySem.W.findObj_own T.hdC hno rfl (by rw [hl, hu])) (handed_of ru) ⟨v, H1, I1.tok _, ru, q⟩
/-- e.f, e the error that is handled -/
theorem d_exnFld (i : Nat) {Cs : List Str} (hz : Zc cls d oe) (hf : ∃ vs, oe.data = .fields vs) (hC : ∀ C ∈ Cs, XfC X.K (He.ga X.K C) ∧ PySem.W.findIn X.K (.ref (He.ga X.K C)) fl = some none)
    (hN : X.N[i]? = some x := by rfl) (hv : Vis X.env.scope x := by first | exact Or.inl rfl | exact Or.inr (Or.inl rfl) | exact Or.inr (Or.inr rfl)) (hd : (x == ("__debug__" : Str)) = false := by decide) (hcd : (x == ("__classdict__" : Str)) = false := by decide)
    (hb : attributeBase (.Name x p) fl X.env (eval (.Name x p) X.env) = eval (.Name x p) X.env := by rfl) : DE (X.suite a ((a, oe) :: pn)) (some (a, cls, d), S2) W (.Attribute (.Name x p) fl pos) (eExnFld Cs i fl) := by
  have h1 : PE (X.suite a ((a, oe) :: pn)) (.Name x p) (tVar i) := pe_var hN hv hd hcd
  refine peW (pe_xfS hz hf h1 hb) fun σ H Q hq => ?_
  obtain ⟨H0, F0, ρ, F, s, po⟩ := hq
  unfold eExnFld at po
  split at po
  · rename_i C fs ed
    obtain ⟨ev, hc, r⟩ := exn_at s ed
    by_cases hm : C ∈ Cs
    · rw [if_pos hm] at po
      cases el : fs.lookup fl with
      | none => rw [el] at po; exact po.elim
      | some d' =>
        rw [el] at po
        rcases r with ⟨r, _⟩ | ⟨_, dd, xs, e, hH, rf⟩
        · subst r
          cases el
        · obtain ⟨u, eu, ru⟩ := rf.lookup el
          exact ⟨_, ev, _, (hC C hm).1, (hC C hm).2, rfl, hc, dd, xs, u, e, hH, eu, fun z => po u H F (Step.refl s.same) z ru⟩
    · rw [if_neg hm] at po
      exact po.elim
  · exact po.elim
end

theorem un_suite {X : Cx} {a : Addr} {pn : List (Addr × Obj)} (h : Un X) : Un (X.suite a pn) := h

/-! ### try -/
theorem Sim.setN {K : PySem.W.Frag} {S : Hd} {H0 F0 H F : Hp} {ρ : Env} {σ : L2.St} (s : Sim K S H0 F0 ρ σ H F) (i : Nat) {c : Cell} {v : V} (ho : c.owned = false) (r : CellR K S H0 H F c v) : Sim K S H0 F0 (ρ.set i (some c)) (σ.set i (some v)) H F := by
  refine ⟨s.step, by rw [List.length_set, List.length_set, s.len], fun j c' e => ?_, fun j k cj ck n e1 e2 o1 o2 => ?_⟩
  · by_cases hj : i = j
    · subst hj
      have hlt : i < ρ.length := by
        have := (List.getElem?_eq_some_iff.mp e).1
        simpa using this
      rw [List.getElem?_set_self hlt] at e
      obtain rfl : c = c' := by simpa using e
      exact ⟨v, List.getElem?_set_self (by rw [← s.len]; exact hlt), r⟩
    · rw [List.getElem?_set_ne hj] at e
      obtain ⟨u, e', q⟩ := s.cell j c' e
      exact ⟨u, by rw [List.getElem?_set_ne hj]; exact e', q⟩
  · have nj : ∀ {j : Nat} {c' : Cell}, (ρ.set i (some c))[j]? = some (some c') → c'.owned = true → i ≠ j := fun {j c'} e o hj => by
      subst hj
      have hlt : i < ρ.length := by
        have := (List.getElem?_eq_some_iff.mp e).1
        simpa using this
      rw [List.getElem?_set_self hlt] at e
      obtain rfl : c = c' := by simpa using e
      rw [ho] at o
      cases o
    have n1 := nj e1 o1
    have n2 := nj e2 o2
    rw [List.getElem?_set_ne n1] at e1 ⊢
    rw [List.getElem?_set_ne n2] at e2 ⊢
    exact s.apart j k cj ck n e1 e2 o1 o2
theorem noExn_ok : ∀ {ρ : Env} {i : Nat} {C : Str} {fs : List (Str × D)}, noExn ρ = true → ρ[i]? = some (some (.exn C fs)) → False
  | [], i, _, _, _, e => by simp at e
  | c :: r, 0, _, _, h, e => by
    obtain rfl : c = _ := by simpa using e
    cases h
  | c :: r, i + 1, _, _, h, e => by
    have h' : noExn r = true := by
      cases c with
      | none => exact h
      | some c =>
        cases c with
        | exn C fs => cases h
        | _ => exact h
    exact noExn_ok h' (by simpa using e)
theorem Sim.toS {K : PySem.W.Frag} {S S' : Hd} {H0 F0 H F : Hp} {ρ : Env} {σ : L2.St} (s : Sim K S H0 F0 ρ σ H F) (h2 : S'.2 = S.2) (h : S.1 = none ∨ noExn ρ = true) : Sim K S' H0 F0 ρ σ H F := by
  refine ⟨s.step, s.len, fun i c e => ?_, s.apart⟩
  obtain ⟨v, ev, r⟩ := s.cell i c e
  refine ⟨v, ev, ?_⟩
  cases c with
  | val d => exact r
  | own ds => exact r
  | oobj C fs =>
    obtain ⟨a, dx, xs, e, h1, h2', h3, r, hS⟩ := r
    exact ⟨a, dx, xs, e, h1, h2', h3, r, by rw [h2]; exact hS⟩
  | oset xs => exact r
  | exn C fs =>
    exfalso
    rcases h with h | h
    · obtain ⟨a, dd, hS, _⟩ := r
      rw [h] at hS
      cases hS
    · exact noExn_ok h e
section
variable {X : Cx} {S : Hd} {W : WX} {k : Nat} {x n : Str} {c : Value} {body suite : List Stmt} {b₀ : Stmt} {np pos pos' : Pos} {g h : SV}
theorem s_try (i : Nat) {sub : Str → Option Bool} (cx : Ctx X W k) (hs : X.stack = X.env :: X.outer) (hf : X.env.frame = some X.env.locals) (hN : X.N.Nodup) (hi : X.N[i]? = some n) (hln : X.env.kindOf n = some .local) (hc : Names X x c) (hS : S.1 = none)
    (hsub : ∀ C b, sub C = some b → PySem.W.exmOne X.K (.ref (He.ga X.K C)) c = some b)
    (hb : ∀ (W : WX) (pn : List (Addr × Obj)) (xe : Value → Shared → Prop), Ctx (X.tr pn xe) W k → DSs (X.tr pn xe) S W body g)
    (hsu : ∀ (a : Addr) (oe : Obj) (cls : Value) (d : Option Addr) (pn : List (Addr × Obj)), Zc cls d oe → (∃ vs, oe.data = .fields vs) → DSs (X.suite a ((a, oe) :: pn)) (some (a, cls, d), S.2) WF (b₀ :: suite) h) :
    DS X S W (.Try body [.ExceptHandler (some (.Name x np)) (some n) (b₀ :: suite) pos'] [] [] pos) (sTry i sub g h) := by
  refine psW (ps_try_as (i := i) (tb := fun W => tS X.K S W g) (ts := fun a cls d => tS X.K (some (a, cls, d), S.2) WF h) hs hf hN hi hln hc cx.tk (fun W pn xe tk po => hb W pn xe ⟨tk, po, cx.hr⟩) hsu) fun D σ H hq => ?_
  obtain ⟨H0, F0, ρ, F, s, p⟩ := hq
  refine ⟨H0, F0, ρ, F, s, ?_⟩
  unfold sTry at p
  cases eg : g ρ with
  | nx ρ1 => rw [eg] at p; exact p
  | bk ρ1 => rw [eg] at p; exact p
  | ct ρ1 => rw [eg] at p; exact p
  | rt d => rw [eg] at p; exact p
  | bad => rw [eg] at p; exact p
  | ex ρ1 C fs =>
    rw [eg] at p
    intro σ' H' F' dd s' l x
    replace p : PoS X.K S W H0 F0 F (match sub C with
      | some true => (match h (ρ1.set i (some (.exn C fs))) with
        | .nx ρ2 => if noExn (ρ2.set i none) = true then .nx (ρ2.set i none) else .bad
        | .rt d => .rt d
        | _ => .bad)
      | some false => .ex ρ1 C fs
      | none => .bad) D := p
    cases es : sub C with
    | none => rw [es] at p; exact p.elim
    | some b =>
      rw [es] at p
      refine ⟨b, hsub C b es, fun hb a ha => ?_, fun hb => ?_⟩
      · subst hb
        have sA := (s'.toS (S' := (some (a, Value.ref (He.ga X.K C), dd), S.2)) rfl (.inl hS)).setN i (c := .exn C fs) (v := .ref a) rfl ⟨a, dd, rfl, rfl, x⟩
        refine ⟨H0, F0, _, F', sA, ?_⟩
        replace p := PoS.mono l p
        cases eh : h (ρ1.set i (some (.exn C fs))) with
        | nx ρ2 =>
          rw [eh] at p
          replace p : PoS X.K S W H0 F0 F' (if noExn (ρ2.set i none) = true then .nx (ρ2.set i none) else .bad) D := p
          by_cases hn : noExn (ρ2.set i none) = true
          · rw [if_pos hn] at p
            exact fun σ2 H2 F2 s2 l2 => p _ H2 F2 ((s2.unset i).toS rfl (.inr hn)) l2
          · rw [if_neg hn] at p
            exact p.elim
        | rt d => rw [eh] at p; exact p
        | bk ρ2 => rw [eh] at p; exact p.elim
        | ct ρ2 => rw [eh] at p; exact p.elim
        | ex ρ2 C fs => rw [eh] at p; exact p.elim
        | bad => rw [eh] at p; exact p.elim
      · subst hb
        exact p σ' H' F' dd s' l x
end

/-! ### raise -/
/-- the stores that an error's __init__ has to do: field, parameter's slot -/
def tX (K : PySem.W.Frag) (us : List (Str × Nat)) : TS := fun D σ H => ∃ (a C : Addr) (vs : List V), σ[(0 : Nat)]? = some (some (.ref a)) ∧ OexC K C ∧ (∀ p ∈ us, PySem.W.findIn K (.ref C) p.1 = some none) ∧ vs.length = us.length ∧ (∀ (k : Nat) (p : Str × Nat) (v : V), us[k]? = some p → vs[k]? = some v → σ[p.2]? = some (some v)) ∧
  ((us ≠ [] ∧ us.length ≤ 800 ∧ H a = some (exo a C none) ∧ ∀ d, H d = none → d ≠ a → D.nx σ (upd (upd H d (exd d ((us.map (·.1)).zip vs).reverse)) a (exo a C (some d)))) ∨
   ∃ d fs, d ≠ a ∧ H a = some (exo a C (some d)) ∧ H d = some (exd d fs) ∧ fs.length + us.length ≤ 900 ∧ D.nx σ (upd H d (exd d (((us.map (·.1)).zip vs).reverse ++ fs))))
theorem upd_id {H : Hp} {a : Addr} {o : HO} (h : H a = some o) : upd H a o = H := by
  funext b
  by_cases hb : b = a
  · rw [hb, upd_same, h]
  · rw [upd_ne hb]
theorem upd_upd {H : Hp} {a : Addr} {o u : HO} : upd (upd H a o) a u = upd H a u := by
  funext b
  by_cases hb : b = a
  · rw [hb, upd_same, upd_same]
  · rw [upd_ne hb, upd_ne hb, upd_ne hb]
theorem upd_comm {H : Hp} {a b : Addr} {o u : HO} (n : a ≠ b) : upd (upd H a o) b u = upd (upd H b u) a o := by
  funext c
  by_cases h1 : c = a
  · subst h1
    rw [upd_ne n, upd_same, upd_same]
  · by_cases h2 : c = b
    · subst h2
      rw [upd_same, upd_ne h1, upd_same]
    · rw [upd_ne h2, upd_ne h1, upd_ne h1, upd_ne h2]
section
variable {X : Cx} {pos p1 p2 p3 : Pos} {rest : List Stmt} {us : List (Str × Nat)} {i : Nat} {f x y : Str}
theorem x_nil : PSs X [] (tX X.K []) := by
  refine pssW pss_nil fun D σ H hq => ?_
  obtain ⟨a, C, vs, h0, T, hno, hl, hv, ⟨h, _⟩ | ⟨d, fs, hda, ha, hd, hz, q⟩⟩ := hq
  · exact absurd rfl h
  · have e : vs = [] := List.eq_nil_of_length_eq_zero hl
    subst e
    rw [show ((([] : List (Str × Nat)).map (·.1)).zip ([] : List V)).reverse ++ fs = fs from rfl, upd_id hd] at q
    exact q
theorem x_cons (h : PSs X rest (tX X.K us)) (hN0 : X.N[(0 : Nat)]? = some x) (hv0 : Vis X.env.scope x) (hN : X.N[i]? = some y) (hv : Vis X.env.scope y) (d1 : (x == ("__debug__" : Str)) = false := by decide) (d2 : (x == ("__classdict__" : Str)) = false := by decide) (d3 : (y == ("__debug__" : Str)) = false := by decide) (d4 : (y == ("__classdict__" : Str)) = false := by decide)
    (hs : swapsWith (.Name y p3) (some (.Attribute (.Name x p1) f p2)) pos.line X.env = pure false := by rfl) : PSs X (.Assign [.Attribute (.Name x p1) f p2] (.Name y p3) pos :: rest) (tX X.K ((f, i) :: us)) := by
  refine pssW (pss_cons (ps_ost (pe_var hN0 hv0 d1 d2) (pe_var hN hv d3 d4) hs) h) fun D σ H hq => ?_
  obtain ⟨a, C, vs, h0, T, hno, hl, hv, hh⟩ := hq
  cases vs with
  | nil => cases hl
  | cons v vs =>
    have hl' : vs.length = us.length := by simpa using hl
    have hv' : ∀ (k : Nat) (p : Str × Nat) (v : V), us[k]? = some p → vs[k]? = some v → σ[p.2]? = some (some v) := fun k p u e1 e2 => hv (k + 1) p u (by simpa using e1) (by simpa using e2)
    have hno' : ∀ p ∈ us, PySem.W.findIn X.K (.ref C) p.1 = some none := fun p hp => hno p (List.mem_cons_of_mem _ hp)
    refine ⟨v, hv 0 (f, i) v rfl rfl, .ref a, h0, a, C, rfl, T, hno (f, i) List.mem_cons_self, ?_⟩
    rcases hh with ⟨_, hz, ha, q⟩ | ⟨d, fs, hda, ha, hd, hz, q⟩
    · refine .inl ⟨ha, fun dx hdx hne => ⟨a, C, vs, h0, T, hno', hl', hv', .inr ⟨dx, [(f, v)], hne, upd_same, by rw [upd_ne hne, upd_same], ?_, ?_⟩⟩⟩
      · rw [List.length_cons] at hz
        simp only [List.length_cons, List.length_nil]
        omega
      · have q' := q dx hdx hne
        have e : (((f, i) :: us).map (·.1)).zip (v :: vs) = (f, v) :: (us.map (·.1)).zip vs := rfl
        rw [e, List.reverse_cons] at q'
        rw [upd_comm (Ne.symm hne), upd_upd]
        exact q'
    · refine .inr ⟨d, fs, ha, hd, by omega, ⟨a, C, vs, h0, T, hno', hl', hv', .inr ⟨d, (f, v) :: fs, hda, ?_, upd_same, ?_, ?_⟩⟩⟩
      · rw [upd_ne (Ne.symm hda)]
        exact ha
      · rw [List.length_cons] at hz ⊢
        omega
      · have e : (((f, i) :: us).map (·.1)).zip (v :: vs) = (f, v) :: (us.map (·.1)).zip vs := rfl
        rw [e, List.reverse_cons, List.append_assoc] at q
        rw [upd_upd]
        exact q
end
/-- what an error's __init__ promises -/
def spX (K : PySem.W.Frag) (C : Addr) (ns : List Str) : Sp := fun vs H Q _ => ∃ (a : Addr) (us : List V), vs = .ref a :: us ∧ us.length = ns.length ∧ H a = some (exo a C none) ∧
  ∀ d, H d = none → d ≠ a → Q .non (upd (upd H d (exd d (ns.zip us).reverse)) a (exo a C (some d)))
section
variable {P : Program} {w : World} {K : PySem.W.Frag} {mg : Str → Option Value} {base : Heap} {x qual : Str} {params : Arguments} {body : List Stmt} {scope : Scope} {dvs : List V} {kws : List (Str × V)} {f : Addr} {fd : FuncData}
theorem start_at {N : List Str} {vs : List V} {i : Nat} {v : V} (h : vs[i]? = some v) : (L2.start N vs)[i]? = some (some v) := by
  have hi : i < vs.length := (List.getElem?_eq_some_iff.mp h).1
  unfold L2.start
  rw [List.getElem?_append_left (by rw [List.length_map]; exact hi), List.getElem?_map, h]
  rfl
/-- an error's __init__: the parameters but self are ps, the fields ns, stored one behind another -/
theorem excOk {y : Str} {N ps ns : List Str} {C : Addr} {k : Nat} (F : FunD K x qual params body scope dvs kws f fd) (S : FnScope (y :: N) (y :: ps) scope) (T : OexC K C) (hno : ∀ n ∈ ns, PySem.W.findIn K (.ref C) n = some none) (hl : ns.length = ps.length) (h0 : ns ≠ []) (h8 : ns.length ≤ 800)
    (hb : ∀ (cdv : Value) (A : Around) (outer : List PySem.Env) (s : Shared) (H : Hp) (E : XK), PSs (cxOf (L2.CX P w) P w K mg base (y :: N) qual scope f cdv A outer s H E) body (tX K (ns.zip (List.range' 1 ns.length)))) :
    FnOk P w K mg base (L2.CX P w) (k + 1) f fd (y :: ps) (spX K C ns) := by
  refine F.ok S (fun vs H Q E h => ?_) fun cdv A outer s H vs Q E hr h => ⟨_, hb cdv A outer s H E, ?_⟩
  · obtain ⟨a, us, rfl, h, _⟩ := h
    rw [List.length_cons, List.length_cons, h, hl]
  · obtain ⟨a, us, rfl, hu, ha, q⟩ := h
    have hlen : (ns.zip (List.range' 1 ns.length)).length = ns.length := by rw [List.length_zip, List.length_range', Nat.min_self]
    have hfst : (ns.zip (List.range' 1 ns.length)).map (·.1) = ns := List.map_fst_zip (by rw [List.length_range']; exact Nat.le_refl _)
    refine ⟨a, C, us, start_at rfl, T, fun p hp => hno p.1 (List.of_mem_zip hp).1, by rw [hu, hlen], fun k p v e1 e2 => ?_, .inl ⟨fun e => h0 ?_, by rw [hlen]; exact h8, ha, fun d hd hne => ?_⟩⟩
    · have hk : k < ns.length := by
        have := (List.getElem?_eq_some_iff.mp e1).1
        rw [hlen] at this
        exact this
      have e3 : p.2 = 1 + k := by
        rw [List.getElem?_zip_eq_some] at e1
        have := e1.2
        rw [List.getElem?_range' hk] at this
        have := Option.some.inj this
        omega
      rw [e3, Nat.add_comm]
      exact start_at (by rw [List.getElem?_cons_succ]; exact e2)
    · rw [← List.length_eq_zero_iff, ← hlen, e]
      rfl
    · rw [hfst]
      exact q d hd hne
end
/-- an error class of the program, its fields ns -/
structure PEx (P : Program) (w : World) (K : PySem.W.Frag) (mg : Str → Option Value) (base : Heap) (k : Nat) (C : Str) (ns : List Str) : Prop where
  ex : ∃ (fi : Addr) (fd : FuncData) (ps : List Str), OexC K (He.ga K C) ∧ PySem.W.findIn K (.ref (He.ga K C)) "__init__" = some (some (.ref fi)) ∧ PySem.W.typeIn K (.ref fi) = some (.type "function") ∧
    FnOk P w K mg base (L2.CX P w) k fi fd ps (spX K (He.ga K C) ns) ∧ Binds K fd ps [] ∧ mg C = some (.ref (He.ga K C)) ∧ ns ≠ [] ∧ ns.length ≤ 800
theorem repF_zip {K : PySem.W.Frag} {H : Hp} : ∀ {ns : List Str} {ds : List D} {vs : List V}, Reps K H ds vs → RepF K H (ns.zip ds) (ns.zip vs)
  | [], _, _, _ => rfl
  | n :: ns, [], _, h => by
    have e : _ = [] := h
    rw [e]
    rfl
  | n :: ns, d :: ds, _, h => by
    obtain ⟨y, ys, rfl, r, t⟩ := h
    exact ⟨(n, y), ns.zip ys, rfl, ⟨rfl, r⟩, repF_zip t⟩
theorem RepF.append {K : PySem.W.Frag} {H : Hp} : ∀ {fs gs : List (Str × D)} {xs ys : List (Str × V)}, RepF K H fs xs → RepF K H gs ys → RepF K H (fs ++ gs) (xs ++ ys)
  | [], _, _, _, h, q => by
    have e : _ = [] := h
    rw [e]
    exact q
  | p :: fs, _, _, _, h, q => by
    obtain ⟨y, ys, rfl, r, t⟩ := h
    exact ⟨y, _, rfl, r, RepF.append t q⟩
theorem RepF.reverse {K : PySem.W.Frag} {H : Hp} : ∀ {fs : List (Str × D)} {xs : List (Str × V)}, RepF K H fs xs → RepF K H fs.reverse xs.reverse
  | [], _, h => by
    have e : _ = [] := h
    rw [e]
    rfl
  | p :: fs, _, h => by
    obtain ⟨y, ys, rfl, r, t⟩ := h
    rw [List.reverse_cons, List.reverse_cons]
    exact RepF.append (RepF.reverse t) ⟨y, [], rfl, r, rfl⟩
section
variable {X : Cx} {S : Hd} {W : WX} {k j : Nat} {C : Str} {ns : List Str} {e : Expr} {es : List Expr} {p pos pos2 : Pos} {a : AV}
theorem s_raise (F : PEx X.prog X.w X.K X.mg X.base j C ns) (hj : j + 1 ≤ k) (c : Ctx X W k) (hc : X.calm = true) (hg : Gl X C) (ha : DA X S W (e :: es) ns.length a)
    (hdb : (C == ("__debug__" : Str)) = false := by decide) (he : starEach (e :: es) X.env = (false, eval e X.env) :: starEach es X.env := by rfl) (hpl : (backTo pos (starEach es X.env)).any (·.1) = false := by rfl) :
    DS X S W (.Raise (some (.Call (.Name C p) (e :: es) [] pos)) none pos2) (sRaise C ns a) := by
  obtain ⟨fi, fd, ps, T, iC, tI, Fk, hb, hm, h0, h8⟩ := F.ex
  refine psW (ps_raise hc c.tk (pmk_oex (ds := []) (dvs := []) T iC tI Fk (c.hr.mono hj) hb .nil passL hg hm ha hdb he hpl)) fun D σ H hq => ?_
  obtain ⟨H0, F0, ρ, F, s, po⟩ := hq
  refine ⟨H0, F0, ρ, F, s, PoS.of_sr (R := rA X.K ns.length) s po fun ds vs H1 F1 t1 z1 r1 s1 p1 => ⟨by rw [r1.2]; omega, fun b hbn => ?_⟩⟩
  have hl : ds.length = ns.length := by rw [← r1.1.length, r1.2]
  rw [if_pos hl] at p1
  rw [List.append_nil]
  refine ⟨b, vs, rfl, r1.2, upd_same, fun d hd hne => ⟨rfl, d, _, upd_same, by rw [upd_ne hne, upd_same], by rw [upd_ne hne] at hd; exact hd, ?_⟩⟩
  have hd1 : H1 d = none := by rw [upd_ne hne] at hd; exact hd
  have keep : ∀ {c : Addr}, c ≠ b → c ≠ d → upd (del (upd (upd (upd H1 b (exo b (He.ga X.K C) none)) d (exd d (ns.zip vs).reverse)) b (exo b (He.ga X.K C) (some d))) b) d (.xd (ns.zip vs).reverse) c = H1 c := fun {c} h1 h2 => by
    rw [upd_ne h2, del_ne h1, upd_ne h1, upd_ne h2, upd_ne h1]
  have hs : Same H1 (upd (del (upd (upd (upd H1 b (exo b (He.ga X.K C) none)) d (exd d (ns.zip vs).reverse)) b (exo b (He.ga X.K C) (some d))) b) d (.xd (ns.zip vs).reverse)) := fun c o e => by
    rw [keep (ne_of_none e hbn) (ne_of_none e hd1)]
    exact e
  have st : Step H1 F1 (upd (del (upd (upd (upd H1 b (exo b (He.ga X.K C) none)) d (exd d (ns.zip vs).reverse)) b (exo b (He.ga X.K C) (some d))) b) d (.xd (ns.zip vs).reverse)) F1 := ⟨Same.refl _, t1.ok.trans hs, hs, fun _ _ e => e⟩
  have hne' : (ns.zip ds).reverse ≠ [] := by
    cases ns with
    | nil => exact absurd rfl h0
    | cons n ns =>
      cases ds with
      | nil => cases hl
      | cons d ds => simp
  exact p1 σ _ F1 (some d) (s1.go st) (Same.refl _) (.inr ⟨hne', d, _, rfl, upd_same, (repF_zip r1.1).reverse⟩)
end
end Pu

/-! Pu, part N: facts about the program's classes; the head's hook. -/
namespace Pu
open PySem PySem.Spec PyProof.Rows L2 He

/-! ### further facts -/
inductive Fp where
  | oex (x : Str)
  | xf (x : Str)
  | exc (x : Str)
  | kit (x y : Str) (b : Bool)
def oexB (K : PySem.W.Frag) (C : Addr) : Bool := match K.lookup C with
  | some ⟨.type "type", _, .cls cd, sl⟩ => (match cd.mro, sl.toList with
    | .ref C' :: bm, [_, _, _, _, some (.builtin n), _] => decide (C' = C) && decide (n = "ValueError.__new__") && !cd.hasDel && cd.hasDict && PySem.HandSPX.refsVE bm
    | _, _ => false)
  | _ => false
theorem oexB_ok {K : PySem.W.Frag} {C : Addr} (q : oexB K C = true) : ∃ nm q N bs bm sn sub ab col dd k0 k1 k2 k3 k5, K.lookup C = some (excClassObj nm q C N bs bm true sn sub ab col dd k0 k1 k2 k3 k5 "ValueError.__new__") ∧ PySem.HandSPX.refsVE bm = true := by
  unfold oexB at q
  split at q
  · rename_i dd cd sl ho
    split at q
    · rename_i C' bm k0 k1 k2 k3 n k5 hm hs
      simp only [Bool.and_eq_true, decide_eq_true_eq, Bool.not_eq_true'] at q
      obtain ⟨⟨⟨⟨rfl, rfl⟩, hdel⟩, hdict⟩, ht⟩ := q
      obtain ⟨nm, bs, mro, ns, qn, hd, sn, sub, ab, col, del⟩ := cd
      dsimp only at hm hdel hdict
      subst hm hdel hdict
      have hsl : sl = #[k0, k1, k2, k3, some (.builtin "ValueError.__new__"), k5] := by
        obtain ⟨l⟩ := sl
        simp only at hs
        rw [hs]
      subst hsl
      exact ⟨nm, qn, ns, bs, bm, sn, sub, ab, col, dd, k0, k1, k2, k3, k5, ho, ht⟩
    · cases q
  · cases q
def Fp.ok (K : PySem.W.Frag) : Fp → Bool
  | .oex x => oexB K (ga K x) && (eqO (PySem.W.findIn K (.ref (ga K x)) "__setattr__") (some (some (.builtin "object.__setattr__"))) && (decide (PySem.W.subIn K (.ref (ga K x)) (.type "BaseException") = some true) && (decide (PySem.W.typeIn K (.ref (ga K x)) = some (.type "type")) && PySem.W.keepIn K (.ref (ga K x)))))
  | .xf x => xfB K (ga K x)
  | .exc x => eqO (PySem.W.findIn K (.ref (ga K x)) "__getattribute__") (some (some (.builtin "BaseException.__getattribute__"))) && (eqO (PySem.W.findIn K (.ref (ga K x)) "__getattr__") (some none) && (decide (PySem.W.subIn K (.ref (ga K x)) (.type "BaseException") = some true) && (PySem.W.hasDictIn K (ga K x) &&
      (eqO (PySem.W.findIn K (.ref (ga K x)) "__class__") (some (some (.builtin "object.__class__"))) && (eqO (PySem.W.specialIn K (.builtin "object.__class__") "__get__") (some (some (.builtin "getset_descriptor.__get__"))) && (decide (PySem.W.takesIn K (.builtin "object.__class__") = some true) && decide (PySem.W.mroIn K (ga K x) (.type "object") = some true)))))))
  | .kit x y b => decide (PySem.W.kitOne K (.ref (ga K x)) (.ref (ga K y)) = some b)
section
variable {K : PySem.W.Frag} {x y : Str} {b : Bool}
theorem oex_ok (c : (Fp.oex x).ok K = true) : OexC K (ga K x) := by
  obtain ⟨c1, c⟩ := ba c
  obtain ⟨c2, c⟩ := ba c
  obtain ⟨c3, c⟩ := ba c
  obtain ⟨c4, c5⟩ := ba c
  exact ⟨oexB_ok c1, eqO_ok c2, of_decide_eq_true c3, of_decide_eq_true c4, c5⟩
theorem xf_ok (c : (Fp.xf x).ok K = true) : XfC K (ga K x) := xfB_ok c
theorem excC_ok (c : (Fp.exc x).ok K = true) : ExcC K (ga K x) := by
  obtain ⟨c1, c⟩ := ba c
  obtain ⟨c2, c⟩ := ba c
  obtain ⟨c3, c⟩ := ba c
  obtain ⟨c4, c⟩ := ba c
  obtain ⟨c5, c⟩ := ba c
  obtain ⟨c6, c⟩ := ba c
  obtain ⟨c7, c8⟩ := ba c
  exact ⟨eqO_ok c1, eqO_ok c2, of_decide_eq_true c3, c4, eqO_ok c5, eqO_ok c6, of_decide_eq_true c7, of_decide_eq_true c8⟩
theorem kit_ok (c : (Fp.kit x y b).ok K = true) : PySem.W.kitOne K (.ref (ga K x)) (.ref (ga K y)) = some b := of_decide_eq_true c
end

/-! ### the hook -/
abbrev AlP : Type := AlD × Bool
def obsP (fa : List Fa) (fn : List DefD) (fp : List Fp) (K : PySem.W.Frag) : AlP := (obsD fa fn K, fp.all fun f => f.ok K)
def valP (fn : List DefD) : AlP := (valD fn, true)
structure SaysP (fa : List Fa) (fn : List DefD) (fp : List Fp) (K : PySem.W.Frag) : Prop where
  d : SaysD fa fn K
  p : ∀ f ∈ fp, f.ok K = true
def obsPG (n : Nat) (fa : List Fa) (fn : List DefD) (fp : List Fp) (g : Addr → Option Obj) : AlP := obsP fa fn fp (frG g (asD g n))
theorem saysP_of {fa : List Fa} {fn : List DefD} {fp : List Fp} {K : PySem.W.Frag} (e : obsP fa fn fp K = valP fn) : SaysP fa fn fp K :=
  ⟨congrArg (fun z : AlP => z.1) e, fun f hf => List.all_eq_true.mp (show (fp.all fun f => f.ok K) = true from congrArg (fun z : AlP => z.2) e) f hf⟩
def hookP (n : Nat) (fa : List Fa) (fn : List DefD) (fp : List Fp) : PySem.W.Hook where
  α := AlP
  obs := fun s => obsPG n fa fn fp s.heap.get?
  val := fun _ => valP fn
  says := fun _ h => ∃ K : PySem.W.Frag, K.In h ∧ SaysP fa fn fp K
  of := fun _ _ e => ⟨_, frG_in, saysP_of e⟩
  keeps := fun _ _ _ ⟨K, hK, c⟩ k => ⟨K, PySem.W.Frag.In.keeps hK k, c⟩
theorem obsPG_eq {n : Nat} {fa : List Fa} {fn : List DefD} {fp : List Fp} {g : Addr → Option Obj} {s : Shared} (h : ∀ a, g a = s.heap.get? a) : obsPG n fa fn fp g = (hookP n fa fn fp).obs s := by
  have e : g = s.heap.get? := funext h
  rw [e] <;> rfl
theorem SaysP.fp {fa : List Fa} {fn : List DefD} {fp : List Fp} {K : PySem.W.Frag} (c : SaysP fa fn fp K) (i : Nat) {f : Fp} (h : fp[i]? = some f := by rfl) : f.ok K = true := c.p f (List.mem_of_getElem? h)

/-- a world in which the program's top stands -/
structure Wd (fa : List Fa) (fn : List DefD) (fp : List Fp) (K : PySem.W.Frag) (mg : Str → Option Value) (base : Heap) : Prop where
  kin : K.In base
  ns : base.Ns mainGlobals mg
  says : SaysP fa fn fp K
section
variable {fa : List Fa} {fn : List DefD} {fp : List Fp} {K : PySem.W.Frag} {mg : Str → Option Value} {base : Heap}
theorem Wd.glo (V : Wd fa fn fp K mg base) (i : Nat) {x : Str} (h : fa[i]? = some (.glo x) := by rfl) : mg x = some (.ref (ga K x)) := glo_ok V.kin V.ns (V.says.d.fact i h)
theorem Wd.free (V : Wd fa fn fp K mg base) (i : Nat) {x : Str} (h : fa[i]? = some (.free x) := by rfl) : mg x = none := free_ok V.kin V.ns (V.says.d.fact i h)
theorem Wd.int (V : Wd fa fn fp K mg base) (i : Nat) {x : Str} {n : Int} (h : fa[i]? = some (.int x n) := by rfl) : ∃ t, mg x = some (.int n t) := int_ok V.kin V.ns (V.says.d.fact i h)
theorem Wd.str (V : Wd fa fn fp K mg base) (i : Nat) {x z : Str} (h : fa[i]? = some (.str x z) := by rfl) : ∃ t, mg x = some (.str z t) := str_ok V.kin V.ns (V.says.d.fact i h)
theorem Wd.cls (V : Wd fa fn fp K mg base) (i : Nat) {x : Str} (h : fa[i]? = some (.cls x) := by rfl) : Cls K (ga K x) := cls_ok (V.says.d.fact i h)
theorem Wd.noat (V : Wd fa fn fp K mg base) (i : Nat) {x f : Str} (h : fa[i]? = some (.noat x f) := by rfl) : NoAttr K (ga K x) f := noat_ok (V.says.d.fact i h)
theorem Wd.meth (V : Wd fa fn fp K mg base) (i : Nat) {x m : Str} (h : fa[i]? = some (.meth x m) := by rfl) : Meth K (ga K x) m (ma K (ga K x) m) := meth_ok (V.says.d.fact i h)
theorem Wd.mkr (V : Wd fa fn fp K mg base) (i : Nat) {x : Str} (h : fa[i]? = some (.mkr x) := by rfl) : Mk K (ga K x) (ma K (ga K x) "__init__") := mkr_ok (V.says.d.fact i h)
theorem Wd.exm (V : Wd fa fn fp K mg base) (i : Nat) {x y : Str} {b : Bool} (h : fa[i]? = some (.exm x y b) := by rfl) : PySem.W.exmOne K (.ref (ga K x)) (.ref (ga K y)) = some b := exm_ok (V.says.d.fact i h)
theorem Wd.oex (V : Wd fa fn fp K mg base) (i : Nat) {x : Str} (h : fp[i]? = some (.oex x) := by rfl) : OexC K (ga K x) := oex_ok (V.says.fp i h)
theorem Wd.xf (V : Wd fa fn fp K mg base) (i : Nat) {x : Str} (h : fp[i]? = some (.xf x) := by rfl) : XfC K (ga K x) := xf_ok (V.says.fp i h)
theorem Wd.exc (V : Wd fa fn fp K mg base) (i : Nat) {x : Str} (h : fp[i]? = some (.exc x) := by rfl) : ExcC K (ga K x) := excC_ok (V.says.fp i h)
theorem Wd.kit (V : Wd fa fn fp K mg base) (i : Nat) {x y : Str} {b : Bool} (h : fp[i]? = some (.kit x y b) := by rfl) : PySem.W.kitOne K (.ref (ga K x)) (.ref (ga K y)) = some b := kit_ok (V.says.fp i h)
theorem Wd.df (V : Wd fa fn fp K mg base) (i : Nat) {d : DefD} (h : fn[i]? = some d := by rfl) : ∃ fd, FunD K d.name d.qual d.params d.body d.scope (d.dvs K) (d.kws K) (fAd K d.at_) fd := V.says.d.def_ i h
end
/-- a class body's statement -/
def inCls (s : Stmt) (j : Nat) : Stmt := match s with
  | .ClassDef _ _ _ b _ _ _ _ _ _ _ => b.getD j (.Pass ⟨0, 0, 0, 0⟩)
  | _ => .Pass ⟨0, 0, 0, 0⟩

/-! ### constants of the module -/
section
variable {X : Cx} {S : Hd} {W : WX} {x : Str} {p : Pos}
theorem d_gint {i : Int} (hg : Gl X x) (hm : ∃ t, X.mg x = some (.int i t)) (hd : (x == ("__debug__" : Str)) = false := by decide) : DE X S W (.Name x p) (eC (.int i)) := by
  obtain ⟨t, hm⟩ := hm
  exact d_cst (pe_glob (v := .int i) hg hm ⟨t, rfl⟩ hd) fun _ => rfl
theorem d_gstr {z : Str} (hg : Gl X x) (hm : ∃ t, X.mg x = some (.str z t)) (hd : (x == ("__debug__" : Str)) = false := by decide) : DE X S W (.Name x p) (eC (.str z)) := by
  obtain ⟨t, hm⟩ := hm
  exact d_cst (pe_glob (v := .str z) hg hm ⟨t, rfl⟩ hd) fun _ => rfl
end
/-- an error's class and its __init__ -/
theorem pex {P : Program} {w : World} {K : PySem.W.Frag} {mg : Str → Option Value} {base : Heap} {C qual : Str} {params : Arguments} {body : List Stmt} {scope : Scope} {fd : FuncData} {y : Str} {N ps ns : List Str} {k : Nat}
    (F : FunD K "__init__" qual params body scope [] [] (ma K (ga K C) "__init__") fd) (M : Meth K (ga K C) "__init__" (ma K (ga K C) "__init__")) (hm : mg C = some (.ref (ga K C))) (S : FnScope (y :: N) (y :: ps) scope) (T : OexC K (ga K C))
    (hno : ∀ n ∈ ns, NoAttr K (ga K C) n) (hl : ns.length = ps.length) (h0 : ns ≠ []) (h8 : ns.length ≤ 800)
    (hbi : ∀ (kV doc pm : Value) (an : Option Addr) (cdv ct : Value) (us : List Value), us.length = (y :: ps).length → bindArgs (PySem.W.fnOf "__init__" qual params body scope .none kV doc pm an cdv ct) ⟨us, []⟩ = pure ((y :: ps).zip us))
    (hb : ∀ (cdv : Value) (A : Around) (outer : List PySem.Env) (s : Shared) (H : Hp) (E : XK), PSs (cxOf (L2.CX P w) P w K mg base (y :: N) qual scope (ma K (ga K C) "__init__") cdv A outer s H E) body (tX K (ns.zip (List.range' 1 ns.length)))) :
    PEx P w K mg base (k + 1) C ns :=
  ⟨_, fd, y :: ps, T, M.at_, beq_iff_eq.mp M.fn, excOk F S T hno hl h0 h8 hb, F.bindsN hbi, hm, h0, h8⟩
/-- a class and its __init__ -/
theorem pcl {P : Program} {w : World} {K : PySem.W.Frag} {mg : Str → Option Value} {base : Heap} {C qual : Str} {params : Arguments} {body : List Stmt} {scope : Scope} {fd : FuncData} {y : Str} {N ps : List Str} {k : Nat} {g : SV}
    (F : FunD K "__init__" qual params body scope [] [] (ma K (ga K C) "__init__") fd) (M : Mk K (ga K C) (ma K (ga K C) "__init__")) (hm : mg C = some (.ref (ga K C))) (S : FnScope (y :: N) (y :: ps) scope)
    (hbi : ∀ (kV doc pm : Value) (an : Option Addr) (cdv ct : Value) (us : List Value), us.length = (y :: ps).length → bindArgs (PySem.W.fnOf "__init__" qual params body scope .none kV doc pm an cdv ct) ⟨us, []⟩ = pure ((y :: ps).zip us))
    (hb : ∀ (S : Hd) (cdv : Value) (A : Around) (outer : List PySem.Env) (s : Shared) (H : Hp) (E : XK) (W : WX), S.1 = none → Ctx (cxOf (L2.CX P w) P w K mg base (y :: N) qual scope (ma K (ga K C) "__init__") cdv A outer s H E) W k → DSs (cxOf (L2.CX P w) P w K mg base (y :: N) qual scope (ma K (ga K C) "__init__") cdv A outer s H E) S W body g) :
    PCl P w K mg base (k + 1) C ps.length [] (initD C ps.length (N.length + 1) g) :=
  ⟨_, fd, y :: ps, [], [], initOk F S hb, M, hm, F.bindsN hbi, .nil, fun _ => rfl⟩
end Pu

/-! Pu, part O: name = [..] on one line. -/
namespace Pu
open PySem PySem.Spec PyProof.Rows L2
section
variable {X : Cx} {S : Hd} {W : WX} {elt tg iter tg1 iter1 : Expr} {ifs ifs1 : List Expr} {scope : Scope} {own : List (Str × Nat)} {vs1 : List Nat} {pos spos py : Pos} {src src1 : AV} {g g1 : GV} {ts ts1 : List Nat} {t t1 : TV} {e : EV} {y : Str}
theorem s_setC (i : Nat) (hyl : X.env.scope.names.lookup y = some .local) (hN : X.N.Nodup) (hy : X.N[i]? = some y) (cx : X.calm = true) (hi : DIB X S W tg iter src) (ok : BlkOk X.N X.env.scope scope own)
    (hg : ∀ (s : Shared) (H : Hp) (C : Addr) (cl : List (Str × Addr)) (fp : List Addr), DG (X.blk s H scope (compEnvC scope cl C X.env) fp) S tg g ts) (hts : ∀ i ∈ ts, i ∈ own.map (·.2))
    (ht : ∀ (s : Shared) (H : Hp) (C : Addr) (cl : List (Str × Addr)) (fp : List Addr), PTs (X.blk s H scope (compEnvC scope cl C X.env) fp) ifs (tG X.K S WF rT t))
    (he : ∀ (s : Shared) (H : Hp) (C : Addr) (cl : List (Str × Addr)) (fp : List Addr), DE (X.blk s H scope (compEnvC scope cl C X.env) fp) S WF elt e)
    (hk : X.env.scope.kind = .function) (hl : (py.line == pos.line) = true) (ha : (scope.names.any fun (n, k) => n == y && (k == .local || k == .cell)) = false) (hs : ∀ x, foldedSetIterable iter X.env x = pure x := by intro _; rfl) :
    DS X S W (.Assign [.Name y py] (.ListComp elt [⟨tg, iter, ifs, 0⟩] scope pos) spos) (sSet i (eL (lComp src g t e (own.map (·.2))))) := by
  refine psW (ps_setLc (wi := tG X.K S W (rItB X.K) src) (g := tT X.K S g ts) (tt := tG X.K S WF rT t) (te := tG X.K S WF (rE X.K) e) cx hN hy hyl (sw_true hk hyl hl ha) hi ok hg ht he hs) fun D σ H hq => ?_
  obtain ⟨H0, F0, ρ, F, s, p⟩ := hq
  have p' : PoS X.K S W H0 F0 F ((lComp src g t e (own.map (·.2)) ρ).sr ρ fun ds => .nx (ρ.set i (some (.val (.lst ds))))) D := by
    unfold sSet eL at p
    cases q : lComp src g t e (own.map (·.2)) ρ with
    | ok ds => rw [q] at p; exact p
    | exc C fs => rw [q] at p; exact p
    | bad => rw [q] at p; exact p
  exact lc_of0 hts s (PoS.of_sr0 (R := rL X.K) s p' fun ds v H1 F1 t1 r1 s1 p1 => frz_ok s t1 r1 p1)
theorem s_ownC (i : Nat) (hyl : X.env.scope.names.lookup y = some .local) (hN : X.N.Nodup) (hy : X.N[i]? = some y) (cx : X.calm = true) (hi : DIB X S W tg iter src) (ok : BlkOk X.N X.env.scope scope own)
    (hg : ∀ (s : Shared) (H : Hp) (C : Addr) (cl : List (Str × Addr)) (fp : List Addr), DG (X.blk s H scope (compEnvC scope cl C X.env) fp) S tg g ts) (hts : ∀ i ∈ ts, i ∈ own.map (·.2))
    (ht : ∀ (s : Shared) (H : Hp) (C : Addr) (cl : List (Str × Addr)) (fp : List Addr), PTs (X.blk s H scope (compEnvC scope cl C X.env) fp) ifs (tG X.K S WF rT t))
    (he : ∀ (s : Shared) (H : Hp) (C : Addr) (cl : List (Str × Addr)) (fp : List Addr), DE (X.blk s H scope (compEnvC scope cl C X.env) fp) S WF elt e)
    (hk : X.env.scope.kind = .function) (hl : (py.line == pos.line) = true) (ha : (scope.names.any fun (n, k) => n == y && (k == .local || k == .cell)) = false) (hs : ∀ x, foldedSetIterable iter X.env x = pure x := by intro _; rfl) :
    DS X S W (.Assign [.Name y py] (.ListComp elt [⟨tg, iter, ifs, 0⟩] scope pos) spos) (sOwn i (lComp src g t e (own.map (·.2)))) := by
  refine psW (ps_setLc (wi := tG X.K S W (rItB X.K) src) (g := tT X.K S g ts) (tt := tG X.K S WF rT t) (te := tG X.K S WF (rE X.K) e) cx hN hy hyl (sw_true hk hyl hl ha) hi ok hg ht he hs) fun D σ H hq => ?_
  obtain ⟨H0, F0, ρ, F, s, p⟩ := hq
  exact lc_of0 hts s (PoS.of_sr0 (R := rL X.K) s p fun ds v H1 F1 t1 r1 s1 p1 => setOwn_ok s t1 r1 p1)
theorem s_setC2 (i : Nat) (hyl : X.env.scope.names.lookup y = some .local) (hN : X.N.Nodup) (hy : X.N[i]? = some y) (cx : X.calm = true) (hi : DIB X S W tg iter src) (ok : BlkOk X.N X.env.scope scope own) (hv : ∀ i ∈ vs1, i ∈ own.map (·.2))
    (hg : ∀ (s : Shared) (H : Hp) (C : Addr) (cl : List (Str × Addr)) (fp : List Addr), DG (X.blk s H scope (compEnvC scope cl C X.env) fp) S tg g ts) (hts : ∀ i ∈ ts, i ∈ own.map (·.2))
    (ht : ∀ (s : Shared) (H : Hp) (C : Addr) (cl : List (Str × Addr)) (fp : List Addr), PTs (X.blk s H scope (compEnvC scope cl C X.env) fp) ifs (tG X.K S WF rT t))
    (hi1 : ∀ (s : Shared) (H : Hp) (C : Addr) (cl : List (Str × Addr)) (fp : List Addr), DI (X.blk s H scope (compEnvC scope cl C X.env) fp) S WF tg1 iter1 src1)
    (hg1 : ∀ (s : Shared) (H : Hp) (C : Addr) (cl : List (Str × Addr)) (fp : List Addr), DG (X.blk s H scope (compEnvC scope cl C X.env) fp) S tg1 g1 ts1) (hts1 : ∀ i ∈ ts1, i ∈ vs1)
    (ht1 : ∀ (s : Shared) (H : Hp) (C : Addr) (cl : List (Str × Addr)) (fp : List Addr), PTs (X.blk s H scope (compEnvC scope cl C X.env) fp) ifs1 (tG X.K S WF rT t1))
    (he : ∀ (s : Shared) (H : Hp) (C : Addr) (cl : List (Str × Addr)) (fp : List Addr), DE (X.blk s H scope (compEnvC scope cl C X.env) fp) S WF elt e)
    (hk : X.env.scope.kind = .function) (hl : (py.line == pos.line) = true) (ha : (scope.names.any fun (n, k) => n == y && (k == .local || k == .cell)) = false) (hs : ∀ x, foldedSetIterable iter X.env x = pure x := by intro _; rfl) (hs1 : ∀ env x, foldedSetIterable iter1 env x = pure x := by intro _ _; rfl) :
    DS X S W (.Assign [.Name y py] (.ListComp elt [⟨tg, iter, ifs, 0⟩, ⟨tg1, iter1, ifs1, 0⟩] scope pos) spos) (sSet i (eL (lComp2 src g t src1 g1 t1 e (own.map (·.2)) vs1))) := by
  refine psW (ps_setLc2 (wi := tG X.K S W (rItB X.K) src) (g := tT X.K S g ts) (tt := tG X.K S WF rT t) (te := tG X.K S WF (rE X.K) e) (wi1 := tG X.K S WF (rIt X.K) src1) (g1 := tT X.K S g1 ts1) (tt1 := tG X.K S WF rT t1) cx hN hy hyl (sw_true hk hyl hl ha) hi ok hv hg ht hi1 hg1 ht1 he hs hs1) fun D σ H hq => ?_
  obtain ⟨H0, F0, ρ, F, s, p⟩ := hq
  have p' : PoS X.K S W H0 F0 F ((lComp2 src g t src1 g1 t1 e (own.map (·.2)) vs1 ρ).sr ρ fun ds => .nx (ρ.set i (some (.val (.lst ds))))) D := by
    unfold sSet eL at p
    cases q : lComp2 src g t src1 g1 t1 e (own.map (·.2)) vs1 ρ with
    | ok ds => rw [q] at p; exact p
    | exc C fs => rw [q] at p; exact p
    | bad => rw [q] at p; exact p
  exact lc2_of0 hts hts1 s (PoS.of_sr0 (R := rL X.K) s p' fun ds v H1 F1 t1 r1 s1 p1 => frz_ok s t1 r1 p1)
theorem s_ownC2 (i : Nat) (hyl : X.env.scope.names.lookup y = some .local) (hN : X.N.Nodup) (hy : X.N[i]? = some y) (cx : X.calm = true) (hi : DIB X S W tg iter src) (ok : BlkOk X.N X.env.scope scope own) (hv : ∀ i ∈ vs1, i ∈ own.map (·.2))
    (hg : ∀ (s : Shared) (H : Hp) (C : Addr) (cl : List (Str × Addr)) (fp : List Addr), DG (X.blk s H scope (compEnvC scope cl C X.env) fp) S tg g ts) (hts : ∀ i ∈ ts, i ∈ own.map (·.2))
    (ht : ∀ (s : Shared) (H : Hp) (C : Addr) (cl : List (Str × Addr)) (fp : List Addr), PTs (X.blk s H scope (compEnvC scope cl C X.env) fp) ifs (tG X.K S WF rT t))
    (hi1 : ∀ (s : Shared) (H : Hp) (C : Addr) (cl : List (Str × Addr)) (fp : List Addr), DI (X.blk s H scope (compEnvC scope cl C X.env) fp) S WF tg1 iter1 src1)
    (hg1 : ∀ (s : Shared) (H : Hp) (C : Addr) (cl : List (Str × Addr)) (fp : List Addr), DG (X.blk s H scope (compEnvC scope cl C X.env) fp) S tg1 g1 ts1) (hts1 : ∀ i ∈ ts1, i ∈ vs1)
    (ht1 : ∀ (s : Shared) (H : Hp) (C : Addr) (cl : List (Str × Addr)) (fp : List Addr), PTs (X.blk s H scope (compEnvC scope cl C X.env) fp) ifs1 (tG X.K S WF rT t1))
    (he : ∀ (s : Shared) (H : Hp) (C : Addr) (cl : List (Str × Addr)) (fp : List Addr), DE (X.blk s H scope (compEnvC scope cl C X.env) fp) S WF elt e)
    (hk : X.env.scope.kind = .function) (hl : (py.line == pos.line) = true) (ha : (scope.names.any fun (n, k) => n == y && (k == .local || k == .cell)) = false) (hs : ∀ x, foldedSetIterable iter X.env x = pure x := by intro _; rfl) (hs1 : ∀ env x, foldedSetIterable iter1 env x = pure x := by intro _ _; rfl) :
    DS X S W (.Assign [.Name y py] (.ListComp elt [⟨tg, iter, ifs, 0⟩, ⟨tg1, iter1, ifs1, 0⟩] scope pos) spos) (sOwn i (lComp2 src g t src1 g1 t1 e (own.map (·.2)) vs1)) := by
  refine psW (ps_setLc2 (wi := tG X.K S W (rItB X.K) src) (g := tT X.K S g ts) (tt := tG X.K S WF rT t) (te := tG X.K S WF (rE X.K) e) (wi1 := tG X.K S WF (rIt X.K) src1) (g1 := tT X.K S g1 ts1) (tt1 := tG X.K S WF rT t1) cx hN hy hyl (sw_true hk hyl hl ha) hi ok hv hg ht hi1 hg1 ht1 he hs hs1) fun D σ H hq => ?_
  obtain ⟨H0, F0, ρ, F, s, p⟩ := hq
  exact lc2_of0 hts hts1 s (PoS.of_sr0 (R := rL X.K) s p fun ds v H1 F1 t1 r1 s1 p1 => setOwn_ok s t1 r1 p1)
end
end Pu

/-! Pu, part P: slices as new lists; lists that are new through and through; a scratch copy that is spoilt. -/
namespace Pu
open PySem PySem.Spec PyProof.Rows L2

/-! ### a slice is a new list -/
section
variable {X : Cx} {S : Hd} {W : WX} {a : Expr} {fa : EV} {pos : Pos}
theorem l_sl {lo hi : Option Expr} {fl fh : Env → Res (Option Int)} {p2 : Pos} (ha : DB X S W a fa) (hl : DO X S W lo fl) (hh : DO X S W hi fh) : DL X S W (.Subscript a (.Slice lo hi none p2) pos) (lSl fa fl fh) := by
  refine peW (pe_slice (slZ sl_list) ha hl hh) fun σ H Q hq => ?_
  obtain ⟨H0, F0, ρ, F, s, p⟩ := hq
  refine ⟨H0, F0, ρ, F, s, Po.of_bind (R := rL X.K) cl_rL p fun x v H1 F1 t1 z1 r1 p1 => ⟨H0, F0, ρ, F1, s.go t1, Po.of_bind (R := rL X.K) cl_rL p1 fun l l' H2 F2 t2 z2 r2 p2 =>
    ⟨H0, F0, ρ, F2, (s.go t1).go t2, Po.of_bind (R := rL X.K) cl_rL p2 fun h h' H3 F3 t3 z3 r3 p3 => ?_⟩⟩⟩
  obtain rfl : l' = l := r2
  obtain rfl : h' = h := r3
  have r1' := RB.mono t3 (RB.mono t2 r1)
  cases x with
  | lst ds =>
    obtain ⟨a', xs, rfl, h1, q1⟩ := RB.lst t3.ok r1'
    refine ⟨a', xs, rfl, SqL.of h1, fun c hc => ?_⟩
    have t := Step.beside (o := .lst (cutV xs l' h')) t3.ok hc
    exact fun _ z' => p3 _ _ _ t z' ⟨c, _, rfl, hc, t3.ok.free hc, upd_same, q1.cut _ _⟩
  | _ => exact p3.elim
end

/-! ### new through and through -/
mutual
def NewRep (K : PySem.W.Frag) (B F : Hp) : D → V → Prop
  | .non, v => v = .non
  | .bl b, v => v = .bl b
  | .int i, v => v = .int i
  | .str x, v => v = .str x
  | .tup ds, v => ∃ a xs, v = .ref a ∧ SqT K F a xs ∧ NewReps K B F ds xs
  | .lst ds, v => ∃ a xs, v = .ref a ∧ F a = some (.lst xs) ∧ B a = none ∧ NewReps K B F ds xs
  | .ext _, _ => False
  | .obj _ _, _ => False
def NewReps (K : PySem.W.Frag) (B F : Hp) : List D → List V → Prop
  | [], xs => xs = []
  | d :: ds, xs => ∃ y ys, xs = y :: ys ∧ NewRep K B F d y ∧ NewReps K B F ds ys
end
section
variable {K : PySem.W.Frag} {B B' F F' : Hp}
mutual
theorem NewRep.mono (s : Same F F') (t : Same B' B) : ∀ (d : D) (v : V), NewRep K B F d v → NewRep K B' F' d v
  | .non, _, h => h
  | .bl _, _, h => h
  | .int _, _, h => h
  | .str _, _, h => h
  | .tup ds, _, h => by
    obtain ⟨a, xs, e, q, r⟩ := h
    exact ⟨a, xs, e, sqT_mono s q, NewReps.mono s t ds xs r⟩
  | .lst ds, _, h => by
    obtain ⟨a, xs, e, q, n, r⟩ := h
    exact ⟨a, xs, e, s _ _ q, t.free n, NewReps.mono s t ds xs r⟩
  | .ext _, _, h => h.elim
  | .obj _ _, _, h => h.elim
theorem NewReps.mono (s : Same F F') (t : Same B' B) : ∀ (ds : List D) (xs : List V), NewReps K B F ds xs → NewReps K B' F' ds xs
  | [], _, h => h
  | d :: ds, _, h => by
    obtain ⟨y, ys, e, q, r⟩ := h
    exact ⟨y, ys, e, NewRep.mono s t d y q, NewReps.mono s t ds ys r⟩
end
mutual
theorem NewRep.rep : ∀ (d : D) (v : V), NewRep K B F d v → Rep K F d v
  | .non, _, h => h
  | .bl _, _, h => h
  | .int _, _, h => h
  | .str _, _, h => h
  | .tup ds, _, h => by
    obtain ⟨a, xs, e, q, r⟩ := h
    exact ⟨a, xs, e, q, NewReps.rep ds xs r⟩
  | .lst ds, _, h => by
    obtain ⟨a, xs, e, q, n, r⟩ := h
    exact ⟨a, xs, e, q, NewReps.rep ds xs r⟩
  | .ext _, _, h => h.elim
  | .obj _ _, _, h => h.elim
theorem NewReps.rep : ∀ (ds : List D) (xs : List V), NewReps K B F ds xs → Reps K F ds xs
  | [], _, h => h
  | d :: ds, _, h => by
    obtain ⟨y, ys, e, q, r⟩ := h
    exact ⟨y, ys, e, NewRep.rep d y q, NewReps.rep ds ys r⟩
end
theorem NewReps.length {ds : List D} {vs : List V} (h : NewReps K B F ds vs) : vs.length = ds.length := (NewReps.rep ds vs h).length
theorem NewReps.append : ∀ {ds es : List D} {vs us : List V}, NewReps K B F ds vs → NewReps K B F es us → NewReps K B F (ds ++ es) (vs ++ us)
  | [], _, _, _, h, q => by
    have e : _ = [] := h
    rw [e]
    exact q
  | d :: ds, _, _, _, h, q => by
    obtain ⟨y, ys, e, r, t⟩ := h
    rw [e]
    exact ⟨y, _, rfl, r, NewReps.append t q⟩
theorem NewReps.getV : ∀ {ds : List D} {vs : List V} {i : Nat} {v : V}, NewReps K B F ds vs → vs[i]? = some v → ∃ d, ds[i]? = some d ∧ NewRep K B F d v
  | [], _, _, _, h, e => by
    have e' : _ = [] := h
    rw [e'] at e
    simp at e
  | d :: ds, _, 0, v, h, e => by
    obtain ⟨y, ys, e', r, t⟩ := h
    rw [e'] at e
    obtain rfl : y = v := by simpa using e
    exact ⟨d, rfl, r⟩
  | d :: ds, _, i + 1, v, h, e => by
    obtain ⟨y, ys, e', r, t⟩ := h
    rw [e'] at e
    obtain ⟨d', hd, r'⟩ := NewReps.getV (i := i) t (by simpa using e)
    exact ⟨d', by simpa using hd, r'⟩
theorem newReps_atoms : ∀ {ds : List D} {vs : List V}, ds.all D.atom = true → Reps K F ds vs → NewReps K B F ds vs
  | [], _, _, h => h
  | d :: ds, _, ha, h => by
    obtain ⟨y, ys, e, r, t⟩ := h
    rw [List.all_cons, Bool.and_eq_true] at ha
    refine ⟨y, ys, e, ?_, newReps_atoms ha.2 t⟩
    cases d with
    | non => exact r
    | bl b => exact r
    | int i => exact r
    | str x => exact r
    | tup ds => cases ha.1
    | lst ds => cases ha.1
    | ext ds => cases ha.1
    | obj C fs => cases ha.1
end
abbrev rN (K : PySem.W.Frag) : RR D V := fun H _ _ F' d v => NewRep K H F' d v
abbrev rAN (K : PySem.W.Frag) (n : Nat) : RR (List D) (List V) := fun H _ _ F' ds vs => NewReps K H F' ds vs ∧ vs.length = n
theorem cl_rN {K : PySem.W.Frag} : Cl (rN K) := fun _ _ _ _ _ _ _ _ t q => NewRep.mono (Same.refl _) t.same _ _ q
theorem cl_rAN {K : PySem.W.Frag} {n : Nat} : Cl (rAN K n) := fun _ _ _ _ _ _ _ _ t q => ⟨NewReps.mono (Same.refl _) t.same _ _ q.1, q.2⟩
abbrev DN (X : Cx) (S : Hd) (W : WX) (e : Expr) (f : EV) : Prop := PE X e (tG X.K S W (rN X.K) f)
abbrev DAN (X : Cx) (S : Hd) (W : WX) (es : List Expr) (n : Nat) (f : AV) : Prop := PA X es (tG X.K S W (rAN X.K n) f)
section
variable {X : Cx} {S : Hd} {W : WX} {e : Expr} {es : List Expr} {f : EV} {l : AV} {pos : Pos}
theorem n_new (h : DL X S W e l) : DN X S W e (eN l) := by
  refine peW h fun σ H Q hq => ?_
  obtain ⟨H0, F0, ρ, F, s, p⟩ := hq
  refine ⟨H0, F0, ρ, F, s, Po.of_bind0 (R := rN X.K) p fun ds v H1 F1 t z r0 k => ?_⟩
  obtain ⟨a, xs, e, hn, hF, hH, r⟩ := r0
  subst e
  intro z
  replace k : Po X.K W σ H F (rN X.K) (if ds.all D.atom = true then .ok (.lst ds) else .bad) Q := k
  by_cases ha : ds.all D.atom = true
  · rw [if_pos ha] at k
    have leF : Same F1 (upd F1 a (.lst xs)) := fun b u e => by rw [upd_ne (ne_of_none e hF)]; exact e
    have st : Step H F H1 (upd F1 a (.lst xs)) := by
      refine ⟨t.le.trans leF, fun b u e => ?_, t.same, fun b hb eb => ?_⟩
      · by_cases z : b = a
        · subst z; rw [upd_same] at e; rw [hH]; exact e
        · rw [upd_ne z] at e; exact t.ok b u e
      · have z : b ≠ a := fun z => hb (z ▸ hn)
        rw [upd_ne z]; exact t.new b hb eb
    exact k _ H1 _ st z ⟨a, xs, rfl, upd_same, hn, newReps_atoms ha (Reps.mono leF _ _ r)⟩
  · rw [if_neg ha] at k
    exact k.elim
theorem an_nil : DAN X S W [] 0 aNil := by
  refine paW pa_nil fun σ H Q hq => ?_
  obtain ⟨H0, F0, ρ, F, s, p⟩ := hq
  exact fun z => p _ H F (Step.refl s.same) z ⟨rfl, rfl⟩
theorem an_cons {n : Nat} {fr : AV} (ha : DN X S W e f) (hr : DAN X S W es n fr) (hs : starEach (e :: es) X.env = (false, eval e X.env) :: starEach es X.env := by rfl) : DAN X S W (e :: es) (n + 1) (aCons f fr) := by
  refine paW (pa_cons ha hr hs) fun σ H Q hq => ?_
  obtain ⟨H0, F0, ρ, F, s, p⟩ := hq
  refine ⟨H0, F0, ρ, F, s, Po.of_bind0 (R := rAN X.K (n + 1)) p fun x v H1 F1 t1 z1 r1 p1 => ⟨H0, F0, ρ, F1, s.go t1, ?_⟩⟩
  cases ef : fr ρ with
  | ok xs =>
    rw [ef] at p1
    intro vs H2 F2 t2 z2 r2 z
    exact p1 (v :: vs) H2 F2 (t1.trans t2) z ⟨⟨v, vs, rfl, NewRep.mono t2.le (Same.refl _) _ _ r1, NewReps.mono (Same.refl _) t1.same _ _ r2.1⟩, by rw [List.length_cons, r2.2]⟩
  | exc C fs =>
    rw [ef] at p1
    exact fun H' F' dd t q => p1 H' F' dd (t1.trans t) q
  | bad => rw [ef] at p1; exact p1.elim
theorem n_lst {n : Nat} {fr : AV} (h : DAN X S W es n fr) (hn : n ≤ sizeLine := by decide) : DN X S W (.List es pos) (eL fr) := by
  refine peW (pe_lst h) fun σ H Q hq => ?_
  obtain ⟨H0, F0, ρ, F, s, p⟩ := hq
  refine ⟨H0, F0, ρ, F, s, Po.of_bind0 (R := rN X.K) p fun xs vs H1 F1 t1 z1 r1 p1 => ⟨by rw [r1.2]; exact hn, fun c hc => ?_⟩⟩
  have t := Step.laid (o := .lst vs) t1.ok hc
  exact fun z' => p1 _ _ _ (t1.trans t) z' ⟨c, _, rfl, upd_same, t1.same.free hc, NewReps.mono t.le (Same.refl _) _ _ r1.1⟩
end
/-! ### a comprehension whose items are new -/
abbrev rLN (K : PySem.W.Frag) : RR (List D) V := fun H _ H' F' ds v => ∃ a xs, v = .ref a ∧ H a = none ∧ F' a = none ∧ H' a = some (.lst xs) ∧ NewReps K H F' ds xs
def GrownN (K : PySem.W.Frag) (B FB : Hp) (Z : Addr) (ys : List D) (H : Hp) : Prop := ∃ F acc, Step B FB H F ∧ H Z = some (.lst acc) ∧ F Z = none ∧ NewReps K B F ys acc
theorem lc_loopN {K : PySem.W.Frag} {J : It} {B FB : Hp} {Z : Addr} {ds done ys : List D} {P : Nat → D → List D → List D → Prop} {END : Hp → Prop} {BODY : V → Hp → (Hp → Prop) → Prop} {H : Hp} (it : IterOk K J B FB ds) (hg : Gath P ds done ys)
    (h0 : GrownN K B FB Z done H) (hend : ∀ H, GrownN K B FB Z ys H → END H)
    (hstep : ∀ i x d H' F' acc a b (Nx : Hp → Prop), ds[i]? = some d → P i d a b → Step B FB H' F' → H' Z = some (.lst acc) → F' Z = none → NewReps K B F' a acc → Rep K F' d x → (∀ H2, GrownN K B FB Z b H2 → Nx H2) → BODY x H' Nx) :
    ∃ W : Nat → Nat → Hp → Prop, (∃ m, W 0 m H) ∧ ∀ i m H, W i m H →
      (J.stop i H ∧ END H) ∨ (J.go i H ∧ ∃ Nx : Hp → Prop, (∀ H', Nx H' → ∃ m', m' < m ∧ W (i + 1) m' H') ∧ ∀ x H', J.yld i H x H' → BODY x H' Nx) := by
  obtain ⟨yl, y0, yn, hs⟩ := hg
  refine ⟨fun i m H => m = ds.length - i ∧ i ≤ ds.length ∧ GrownN K B FB Z (yl i) H, ⟨_, rfl, Nat.zero_le _, by rw [y0]; exact h0⟩, ?_⟩
  rintro i m H ⟨rfl, hi, gr⟩
  by_cases hlt : i < ds.length
  · obtain ⟨F, acc, st, hD, hF, r⟩ := gr
    refine .inr ⟨it.goes i H hlt st.same, GrownN K B FB Z (yl (i + 1)), fun H' g => ⟨_, by omega, rfl, hlt, g⟩, fun x H' y => ?_⟩
    obtain ⟨F2, d, hd, st2, rd⟩ := it.yields i H F x H' hlt st.same st.le st.ok y
    exact hstep i x d H' F2 acc _ _ _ hd (hs i d hd) (st.trans st2) (st2.same _ _ hD) (st2.new Z (some_ne hD) hF) (NewReps.mono st2.le (Same.refl _) _ _ r) rd fun H2 g => g
  · have e : i = ds.length := by omega
    subst e
    have st : Same B H := by obtain ⟨F, acc, st, _⟩ := gr; exact st.same
    exact .inl ⟨it.stops H st, hend H (by rw [← yn]; exact gr)⟩
section
variable {K : PySem.W.Frag} {S : Hd} {H0 F0 B FB : Hp} {ρ : Env} {σ : L2.St} {Z : Addr} {g : GV} {t : TV} {e : EV} {ts : List Nat}
/-- one turn -/
theorem lc_turnN {vs : List Nat} {x : V} {d : D} {H' F' : Hp} {acc : List V} {a b : List D} {Nx : Hp → Prop} {n : Nat} (s : Sim K S H0 F0 ρ (L2.wipe σ vs) B FB) (hB : B Z = none) (hts : ∀ i ∈ ts, i ∈ vs) (p : Turn1 g t e ρ d a b) (hb : b.length ≤ n) (hn : n ≤ sizeLine)
    (st : Step B FB H' F') (hD : H' Z = some (.lst acc)) (hF : F' Z = none) (r : NewReps K B F' a acc) (rd : Rep K F' d x) (k : ∀ H2, GrownN K B FB Z b H2 → Nx H2) :
    tT K S g ts x (L2.wipe σ vs) H' fun σ2 H2 => L2.wipe σ2 vs = L2.wipe σ vs ∧ tG K S WF rT t σ2 H2 fun k H3 =>
      if k = true then tG K S WF (rN K) e σ2 H3 fun y H4 => ∃ acc, H4 Z = some (.lst acc) ∧ acc.length < sizeLine ∧ Nx (upd H4 Z (.lst (acc ++ [y]))) else Nx H3 := by
  obtain ⟨ρ1, hg, hp⟩ := p
  have s1 := s.go st
  refine ⟨H0, F0, ρ, F', d, ρ1, s1, rd, hg, fun σ2 sd => ⟨?_, ?_⟩⟩
  · rw [sd.wipe vs hts, wipe_wipe fun t ht => ht]
  · have s2 := sd.sim H' F' (Same.refl _) s1
    rcases hp with ⟨ht, y, he, rfl⟩ | ⟨ht, rfl⟩
    · refine ⟨H0, F0, ρ1, F', s2, ?_⟩
      rw [ht]
      intro kk H3 F3 st3 z3 e3
      obtain rfl : kk = true := e3
      rw [if_pos rfl]
      refine ⟨H0, F0, ρ1, F3, s2.go st3, ?_⟩
      rw [he]
      intro v H4 F4 st4 z4 ry
      have st34 := st3.trans st4
      refine ⟨acc, st34.same _ _ hD, ?_, k _ ?_⟩
      · have := r.length
        rw [List.length_append, List.length_singleton] at hb
        omega
      · have hF4 := st34.new Z (some_ne hD) hF
        have stB := st.trans st34
        refine ⟨F4, acc ++ [v], ⟨stB.le, fun c u e => ?_, fun c u e => ?_, stB.new⟩, upd_same, hF4, (NewReps.mono st34.le (Same.refl _) _ _ r).append ⟨v, [], rfl, NewRep.mono (Same.refl _) (st.same.trans st3.same) _ _ ry, rfl⟩⟩
        · rw [upd_ne (ne_of_none e hF4)]; exact stB.ok c u e
        · rw [upd_ne (ne_of_none e hB)]; exact stB.same c u e
    · refine ⟨H0, F0, ρ1, F', s2, ?_⟩
      rw [ht]
      intro kk H3 F3 st3 z3 e3
      obtain rfl : kk = false := e3
      rw [if_neg Bool.false_ne_true]
      exact k _ ⟨F3, acc, st.trans st3, st3.same _ _ hD, st3.new Z (some_ne hD) hF, NewReps.mono st3.le (Same.refl _) _ _ r⟩
end
section
variable {X : Cx} {S : Hd} {W : WX} {src : AV} {g : GV} {ts : List Nat} {t : TV} {e : EV}
theorem lc_of0N {σ : L2.St} {H H0 F0 F : Hp} {ρ : Env} {Q : VK} {vs : List Nat} (hts : ∀ i ∈ ts, i ∈ vs) (s : Sim X.K S H0 F0 ρ σ H F) (p : Po0 X.K W σ H F (rLN X.K) (lComp src g t e vs ρ) Q) :
    tLc (tG X.K S W (rItB X.K) src) (tT X.K S g ts) (tG X.K S WF rT t) (tG X.K S WF (rN X.K) e) vs σ H Q := by
  refine ⟨H0, F0, ρ, F, s, ?_⟩
  unfold lComp at p
  cases hsrc : src ρ with
  | exc C fs => rw [hsrc] at p; exact p
  | bad => rw [hsrc] at p; exact p
  | ok ds =>
  rw [hsrc] at p
  replace p : Po0 X.K W σ H F (rLN X.K) (compL g t e (wipeE ρ vs) ds) Q := p
  intro J H1 F1 t1 z1 it Dd hDd
  have s1 := (s.go t1).wipe vs
  cases hc : compL g t e (wipeE ρ vs) ds with
  | exc C fs => exact absurd hc (compL_exc ds)
  | bad => rw [hc] at p; exact p.elim
  | ok ys =>
    rw [hc] at p
    have hF1 : F1 Dd = none := t1.ok.free hDd
    have hl : ys.length ≤ sizeLine := Nat.le_trans (compL_length hc) it.len
    have gt := gath_len (fun _ _ _ _ h => turn1_len h) (compL_gath [] hc)
    rw [List.nil_append] at gt
    refine lc_loopN (Z := Dd) it gt ⟨F1, [], Step.beside t1.ok hDd, upd_same, hF1, rfl⟩ (fun H2 gr => ?_) fun i x d H' F' acc a b Nx hd hp st hD hF r rd k => ?_
    · obtain ⟨F2, acc, st, hD, hF, r⟩ := gr
      exact p (.ref Dd) H2 F2 (t1.trans st) ⟨Dd, acc, rfl, t1.same.free hDd, hF, hD, NewReps.mono (Same.refl _) t1.same _ _ r⟩
    · exact lc_turnN s1 hDd hts hp.1 hp.2 hl st hD hF r rd k
end

/-! ### a scratch copy: made, handed to a call whose answer leads to no list, spoilt -/
/-- F, and of F2 what is no list -/
def ovl (F F2 : Hp) : Hp := fun a => match F a with
  | some o => some o
  | none => match F2 a with
    | some (.lst _) => none
    | o => o
theorem ovl_le {F F2 : Hp} : Same F (ovl F F2) := fun a o e => by
  show (match F a with
    | some o => some o
    | none => match F2 a with
      | some (.lst _) => none
      | o => o) = _
  rw [e]
theorem ovl_at {F F2 : Hp} (s : Same F F2) {a : Addr} {o : HO} (h : F2 a = some o) (hn : ∀ xs, o ≠ .lst xs) : ovl F F2 a = some o := by
  unfold ovl
  cases e : F a with
  | some u =>
    have := s a u e
    rw [h] at this
    exact this.symm
  | none =>
    rw [h]
    cases o with
    | lst xs => exact absurd rfl (hn xs)
    | _ => rfl
theorem ovl_cases {F F2 : Hp} {a : Addr} {o : HO} (h : ovl F F2 a = some o) : F a = some o ∨ (F2 a = some o ∧ ∀ xs, o ≠ .lst xs) := by
  unfold ovl at h
  cases e : F a with
  | some u =>
    rw [e] at h
    exact .inl h
  | none =>
    rw [e] at h
    cases e2 : F2 a with
    | none => rw [e2] at h; cases h
    | some u =>
      rw [e2] at h
      cases u with
      | lst xs => cases h
      | _ =>
        refine .inr ⟨h, fun xs z => ?_⟩
        rw [z] at h
        cases h
section
variable {K : PySem.W.Frag} {F F2 : Hp}
theorem sqT_ovl (s : Same F F2) {a : Addr} {xs : List V} (h : SqT K F2 a xs) : SqT K (ovl F F2) a xs := by
  rcases h with (h | ⟨o, h⟩) | h
  · exact .inl (.inl (ovl_at s h fun xs z => by cases z))
  · exact .inl (.inr ⟨o, ovl_at s h fun xs z => by cases z⟩)
  · exact .inr h
mutual
theorem rep_ovl (s : Same F F2) : ∀ (d : D) (v : V), d.noLst = true → Rep K F2 d v → Rep K (ovl F F2) d v
  | .non, _, _, h => h
  | .bl _, _, _, h => h
  | .int _, _, _, h => h
  | .str _, _, _, h => h
  | .tup ds, _, hd, h => by
    obtain ⟨a, xs, e, q, r⟩ := h
    exact ⟨a, xs, e, sqT_ovl s q, reps_ovl s ds xs hd r⟩
  | .lst _, _, hd, _ => by cases hd
  | .ext _, _, hd, _ => by cases hd
  | .obj C fs, _, hd, h => by
    obtain ⟨a, dx, xs, e, q, r⟩ := h
    exact ⟨a, dx, xs, e, ovl_at s q (fun xs z => by cases z), repF_ovl s fs xs hd r⟩
theorem reps_ovl (s : Same F F2) : ∀ (ds : List D) (xs : List V), D.noLsts ds = true → Reps K F2 ds xs → Reps K (ovl F F2) ds xs
  | [], _, _, h => h
  | d :: ds, _, hd, h => by
    obtain ⟨y, ys, e, r, t⟩ := h
    have hd' : (D.noLst d && D.noLsts ds) = true := hd
    rw [Bool.and_eq_true] at hd'
    exact ⟨y, ys, e, rep_ovl s d y hd'.1 r, reps_ovl s ds ys hd'.2 t⟩
theorem repF_ovl (s : Same F F2) : ∀ (fs : List (Str × D)) (xs : List (Str × V)), D.noLstF fs = true → RepF K F2 fs xs → RepF K (ovl F F2) fs xs
  | [], _, _, h => h
  | p :: fs, _, hd, h => by
    obtain ⟨y, ys, e, r, t⟩ := h
    have hd' : (D.noLstP p && D.noLstF fs) = true := hd
    rw [Bool.and_eq_true] at hd'
    exact ⟨y, ys, e, repP_ovl s p y hd'.1 r, repF_ovl s fs ys hd'.2 t⟩
theorem repP_ovl (s : Same F F2) : ∀ (p : Str × D) (x : Str × V), D.noLstP p = true → RepP K F2 p x → RepP K (ovl F F2) p x
  | (n, d), y, hd, h => ⟨h.1, rep_ovl s d y.2 hd h.2⟩
end
end
theorem scratchOk_at : ∀ {ds : List D} {i : Nat} {d : D}, scratchOk ds = true → ds[i]? = some d → ∃ n xs ys, d = .lst (.lst (.int n :: xs) :: ys)
  | [], _, _, _, e => by simp at e
  | d0 :: ds, i, d, h, e => by
    unfold scratchOk at h
    split at h
    · rename_i heq
      cases heq
    · rename_i n xs ys r heq
      cases heq
      cases i with
      | zero =>
        obtain rfl : _ = d := by simpa using e
        exact ⟨n, xs, ys, rfl⟩
      | succ i => exact scratchOk_at h (by simpa using e)
    · cases h
theorem Sim.agree {K : PySem.W.Frag} {S : Hd} {H0 F0 H F : Hp} {ρ : Env} {σ σ' : L2.St} (s : Sim K S H0 F0 ρ σ H F) (hl : σ'.length = σ.length) (h : ∀ (k : Nat) (c : Cell), ρ[k]? = some (some c) → σ'[k]? = σ[k]?) : Sim K S H0 F0 ρ σ' H F := by
  refine ⟨s.step, by rw [hl, s.len], fun i c e => ?_, fun a b ca cb n e1 e2 o1 o2 => ?_⟩
  · obtain ⟨v, ev, r⟩ := s.cell i c e
    exact ⟨v, by rw [h i c e]; exact ev, r⟩
  · rw [h a ca e1, h b cb e2]
    exact s.apart a b ca cb n e1 e2 o1 o2
theorem ix0 {α : Type} (x : α) (xs : List α) : L2.ixN (x :: xs).length 0 = some 0 := by
  unfold L2.ixN
  rw [if_pos (by decide), if_pos (by rw [List.length_cons]; omega)]
  rfl
theorem at0 (x : V) (xs : List V) : L2.atI (x :: xs) 0 = some x := by
  unfold L2.atI
  rw [ix0]
  rfl
/-- an expression ahead, the frozen part told from further back -/
theorem PoS.of_srG {α β : Type} {K : PySem.W.Frag} {S : Hd} {W : WX} {H0 F0 H F Fp : Hp} {ρ : Env} {σ : L2.St} {D : Ends} {r : Res α} {k : α → SR} {R : RR α β} {Q : β → Hp → Prop} (l : Same Fp F) (s : Sim K S H0 F0 ρ σ H F) (h : PoS K S W H0 F0 Fp (r.sr ρ k) D)
    (kk : ∀ a b H1 F1, Step H F H1 F1 → R H F H1 F1 a b → PoS K S W H0 F0 Fp (k a) D → Q b H1) : Po K W σ H F R r Q := by
  cases r with
  | ok a => exact fun b H' F' t z q => kk a b H' F' t q h
  | exc C fs => exact fun H' F' dd t q => h σ H' F' dd (s.go t) (l.trans t.le) q
  | bad => exact h
theorem PoS.of_srG0 {α β : Type} {K : PySem.W.Frag} {S : Hd} {W : WX} {H0 F0 H F Fp : Hp} {ρ : Env} {σ : L2.St} {D : Ends} {r : Res α} {k : α → SR} {R : RR α β} {Q : β → Hp → Prop} (l : Same Fp F) (s : Sim K S H0 F0 ρ σ H F) (h : PoS K S W H0 F0 Fp (r.sr ρ k) D)
    (kk : ∀ a b H1 F1, Step H F H1 F1 → R H F H1 F1 a b → PoS K S W H0 F0 Fp (k a) D → Q b H1) : Po0 K W σ H F R r Q := by
  cases r with
  | ok a => exact fun b H' F' t q => kk a b H' F' t q h
  | exc C fs => exact fun H' F' dd t q => h σ H' F' dd (s.go t) (l.trans t.le) q
  | bad => exact h
section
variable {X : Cx} {S : Hd} {W : WX} {k : Nat} {elt tg iter e2x : Expr} {scope : Scope} {own : List (Str × Nat)} {pos spos py : Pos} {src : AV} {g : GV} {ts : List Nat} {e e2 : EV} {y z u : Str} {rest : List Stmt} {rg : SV}
  {p1 p2 p3 p4 p5 p6 p7 p8 p9 q1 q2 q3 q4 q5 q6 q7 q8 q9 r1 r2 r3 r4 r5 r6 r7 r8 : Pos} {k1 k2 k3 k4 k5 : Nat}
theorem s_scratch (i j p : Nat) (c : Ctx X W k) (cx : X.calm = true) (hN : X.N.Nodup) (hij : i ≠ j) (hip : i ≠ p) (hjp : j ≠ p)
    (hyl : X.env.scope.names.lookup y = some .local) (hzl : X.env.scope.names.lookup z = some .local) (hul : X.env.scope.names.lookup u = some .local) (hy : X.N[i]? = some y) (hz : X.N[j]? = some z) (hu : X.N[p]? = some u)
    (hi : DIB X S W tg iter src) (ok : BlkOk X.N X.env.scope scope own)
    (hg : ∀ (s : Shared) (H : Hp) (C : Addr) (cl : List (Str × Addr)) (fp : List Addr), DG (X.blk s H scope (compEnvC scope cl C X.env) fp) S tg g ts) (hts : ∀ i ∈ ts, i ∈ own.map (·.2))
    (he : ∀ (s : Shared) (H : Hp) (C : Addr) (cl : List (Str × Addr)) (fp : List Addr), DN (X.blk s H scope (compEnvC scope cl C X.env) fp) S WF elt e)
    (h2 : DE X S W e2x e2) (hr : DSs X S W rest rg)
    (nd1 : (y == ("__debug__" : Str)) = false) (nc1 : (y == ("__classdict__" : Str)) = false) (nd2 : (u == ("__debug__" : Str)) = false) (nc2 : (u == ("__classdict__" : Str)) = false)
    (hk : X.env.scope.kind = .function) (hl : (py.line == pos.line) = true) (ha : (scope.names.any fun (n, k) => n == y && (k == .local || k == .cell)) = false)
    (hs1 : ∀ x, foldedSetIterable iter X.env x = pure x := by intro _; rfl) (hs2 : swapsWith e2x (some (.Name z p1)) p2.line X.env = pure false := by rfl)
    (hs3 : ∀ x, foldedSetIterable (.Name y p4) X.env x = pure x := by intro _; rfl)
    (hw1 : swapsWithSole [.Subscript (.Subscript (.Name u p5) (.Constant (.int 0) k1 p6) p7) (.Constant (.int 0) k2 p8) p9] (.BinOp (.Subscript (.Subscript (.Name u q1) (.Constant (.int 0) k3 q2) q3) (.Constant (.int 0) k4 q4) q5) .Add (.Constant (.int 1) k5 q6) q7) q8.line X.env = pure false := by rfl)
    (hw2 : swappedStores [.Subscript (.Subscript (.Name u p5) (.Constant (.int 0) k1 p6) p7) (.Constant (.int 0) k2 p8) p9] (.BinOp (.Subscript (.Subscript (.Name u q1) (.Constant (.int 0) k3 q2) q3) (.Constant (.int 0) k4 q4) q5) .Add (.Constant (.int 1) k5 q6) q7) X.env = pure none := by rfl)
    (hw3 : (assignEach [.Subscript (.Subscript (.Name u p5) (.Constant (.int 0) k1 p6) p7) (.Constant (.int 0) k2 p8) p9] X.env).map (·.2) = [assign (.Subscript (.Subscript (.Name u p5) (.Constant (.int 0) k1 p6) p7) (.Constant (.int 0) k2 p8) p9) X.env] := by rfl)
    (hw4 : ∀ v, assign (.Subscript (.Subscript (.Name u p5) (.Constant (.int 0) k1 p6) p7) (.Constant (.int 0) k2 p8) p9) X.env v = (do
      let ov ← holding [v] (eval (.Subscript (.Name u p5) (.Constant (.int 0) k1 p6) p7) X.env)
      let iv ← holding [v, ov] (eval (.Constant (.int 0) k2 p8) X.env)
      standAt p9
      holding [v, ov, iv] (setItem ov iv v)
      release [v, ov, iv] []) := by intro _; rfl)
    (hfew : ((backTo r4 (starEach [.List [] r3] X.env)).all (fun x => !x.1) && (backToKw r4 (keywordEach [] X.env)).all (fun x => x.1.isSome) && decide (([.List [] r3] : List Expr).length + ([] : List Keyword).length + (if ([] : List Keyword).isEmpty then 0 else 1) < 30)) = true := by rfl)
    (hline : (r2.endLine == r4.line) = true := by rfl) (hst : starEach [Expr.List [] r3] X.env = (false, eval (.List [] r3) X.env) :: starEach [] X.env := by rfl) (hs4 : swapsWith (.Call (.Attribute (.Name y r1) "append" r2) [.List [] r3] [] r4) none r5.line X.env = pure false := by rfl) :
    DSs X S W (.Assign [.Name y py] (.ListComp elt [⟨tg, iter, [], 0⟩] scope pos) spos :: .Assign [.Name z p1] e2x p2 ::
      .For (.Name u p3) (.Name y p4) [.Assign [.Subscript (.Subscript (.Name u p5) (.Constant (.int 0) k1 p6) p7) (.Constant (.int 0) k2 p8) p9] (.BinOp (.Subscript (.Subscript (.Name u q1) (.Constant (.int 0) k3 q2) q3) (.Constant (.int 0) k4 q4) q5) .Add (.Constant (.int 1) k5 q6) q7) q8] [] q9 ::
      .Expr (.Call (.Attribute (.Name y r1) "append" r2) [.List [] r3] [] r4) r5 :: rest) (sScratch i j p (lComp src g Pu.tYes e (own.map (·.2))) e2 rg) := by
  have vy : ∀ {q : Pos}, PE X (.Name y q) (tVar i) := fun {q} => pe_var hy (.inl hyl) nd1 nc1
  have vu : ∀ {q : Pos}, PE X (.Name u q) (tVar p) := fun {q} => pe_var hu (.inl hul) nd2 nc2
  refine pssW (pss_cons (ps_setLc (wi := tG X.K S W (rItB X.K) src) (g := tT X.K S g ts) (tt := tG X.K S WF rT Pu.tYes) (te := tG X.K S WF (rN X.K) e) cx hN hy hyl (sw_true hk hyl hl ha) hi ok hg (fun _ _ _ _ _ => ts_none) he hs1)
    (pss_cons (ps_set hN hz (.inl hzl) h2 hs2 (.inr hzl))
    (pss_cons (ps_for c.po cx (pi_list vy) (pg_name hN hu (.inl hul) (.inr hul)) (pss_one (ps_asg (pe_op op_add (pe_ix ix_list (pe_ix ix_list vu pe_int fun _ _ => rfl) pe_int fun _ _ => rfl) pe_int) (pg_sub (pe_ix ix_list vu pe_int fun _ _ => rfl) pe_int set_list hw4) hw1 hw2 hw3)) hs3)
    (pss_cons (ps_expr (pe_bm PySem.F.plainAttrs_list PySem.F.slot_list_append PySem.F.type_list_append (r := rAppend) mt_append vy (pa_cons (pe_lst pa_nil) pa_nil hst) rfl hfew hline hst rfl) hs4) hr)))) fun D σ H hq => ?_
  obtain ⟨H0, F0, ρ, F, s, po⟩ := hq
  unfold sScratch at po
  have un1 : ∀ (t u : TS) (D : Ends) (σ : L2.St) (H : Hp), (∃ te, t = tAsg te (gName i) ∧ te σ H fun x H1 => u D (σ.set i (some x)) H1) → tSeq t u D σ H := fun t u D σ H ⟨te, e, h⟩ => by
    subst e
    exact h
  refine un1 _ _ D σ H ⟨_, rfl, ?_⟩
  refine lc_of0N hts s (PoS.of_srG0 (R := rLN X.K) (Same.refl _) s po fun ds v H1 F1 t1 r1 p1 => ?_)
  obtain ⟨a1, xs, rfl, hn1, hF1, hH1, rs⟩ := r1
  -- the copy, as data
  have lea : Same F1 (upd F1 a1 (.lst xs)) := fun b o e => by rw [upd_ne (ne_of_none e hF1)]; exact e
  have st1 : Step H F H1 (upd F1 a1 (.lst xs)) := by
    refine ⟨t1.le.trans lea, fun b u e => ?_, t1.same, fun b hb eb => ?_⟩
    · by_cases z : b = a1
      · subst z; rw [upd_same] at e; rw [hH1]; exact e
      · rw [upd_ne z] at e; exact t1.ok b u e
    · have z : b ≠ a1 := fun z => hb (z ▸ hn1)
      rw [upd_ne z]; exact t1.new b hb eb
  have sA := (s.go st1).set i (d := .lst ds) (v := .ref a1) ⟨a1, xs, rfl, upd_same, Reps.mono lea _ _ (NewReps.rep _ _ rs)⟩
  refine ⟨H0, F0, _, _, sA, PoS.of_srG (R := rE X.K) st1.le sA p1 fun d v2 H2 F2 t2 r2 p2 => ?_⟩
  by_cases hc : (d.noLst = true ∧ scratchOk ds = true ∧ ds.length < line) ∧ i < ρ.length ∧ p < ρ.length
  · rw [if_pos hc] at p2
    obtain ⟨⟨hnl, hso, hlen⟩, hil, hpl⟩ := hc
    rw [s.len] at hil hpl
    have t12 := st1.trans t2
    have hH2 : H2 a1 = some (.lst xs) := t2.same _ _ hH1
    have rs2 : NewReps X.K H F2 ds xs := NewReps.mono (lea.trans t2.le) (Same.refl _) _ _ rs
    have notInt : ∀ n ys, xs ≠ V.int n :: ys := fun n ys e => by
      subst e
      obtain ⟨d0, hd0, r0⟩ := rs2.getV (i := 0) rfl
      obtain ⟨_, _, _, rfl⟩ := scratchOk_at hso hd0
      obtain ⟨_, _, e', _⟩ := r0
      cases e'
    have ei : ((σ.set i (some (V.ref a1))).set j (some v2))[i]? = some (some (.ref a1)) := by
      rw [List.getElem?_set_ne (Ne.symm hij)]
      exact List.getElem?_set_self hil
    refine ⟨.ref a1, ei, a1, rfl, ⟨xs, SqL.of hH2⟩, ?_⟩
    have hl2 : ((σ.set i (some (V.ref a1))).set j (some v2)).length = σ.length := by rw [List.length_set, List.length_set]
    refine for_list (K := X.K) (a := a1) (xs := xs) (Pv := fun _ σ' H' => σ'.length = σ.length ∧ (∀ k : Nat, k ≠ p → σ'[k]? = ((σ.set i (some (V.ref a1))).set j (some v2))[k]?) ∧ ∀ b, H' b = H2 b ∨ ((H b = none ∧ ∃ n ys, H2 b = some (.lst (.int n :: ys))) ∧ ∃ n ys, H' b = some (.lst (.int n :: ys)))) ⟨hl2, fun _ _ => rfl, fun _ => .inl rfl⟩ ?_ ?_ ?_
    · rintro n σ' H' _ ⟨_, _, hr⟩
      rcases hr a1 with e | ⟨⟨_, n, ys, e⟩, _⟩
      · exact SqL.of (e.trans hH2)
      · rw [hH2] at e
        injection e with e
        injection e with e
        exact absurd e (notInt n ys)
    · rintro n x σ' H' hx ⟨hl', hk', hr⟩
      obtain ⟨d0, hd0, r0⟩ := rs2.getV hx
      obtain ⟨m0, xs0, ys0, rfl⟩ := scratchOk_at hso hd0
      obtain ⟨b, bs, rfl, hFb, hHb, y0, bs', rfl, ⟨c0, cs, rfl, hFc, hHc, z0, cs', rfl, rz, _⟩, _⟩ := r0
      obtain rfl : z0 = .int m0 := rz
      have hHb2 : H' b = some (.lst (.ref c0 :: bs')) := by
        have h2b := t2.ok _ _ hFb
        rcases hr b with e | ⟨⟨_, n, ys, e⟩, _⟩
        · exact e.trans h2b
        · rw [h2b] at e
          injection e with e
          injection e with e
          injection e with e _
          cases e
      have hMc : H c0 = none ∧ ∃ n ys, H2 c0 = some (.lst (.int n :: ys)) := ⟨hHc, _, _, t2.ok _ _ hFc⟩
      obtain ⟨m, ms, hHc2⟩ : ∃ m ms, H' c0 = some (.lst (.int m :: ms)) := by
        rcases hr c0 with e | ⟨_, e⟩
        · exact ⟨_, _, e.trans (t2.ok _ _ hFc)⟩
        · exact e
      have eu : (σ'.set p (some (V.ref b)))[p]? = some (some (.ref b)) := List.getElem?_set_self (by rw [hl']; exact hpl)
      refine ⟨.ref b, eu, b, _, 0, .ref c0, rfl, rfl, SqL.of hHb2, at0 _ _, c0, _, 0, .int m, rfl, rfl, SqL.of hHc2, at0 _ _, m, 1, rfl, rfl, .ref b, eu, b, _, 0, .ref c0, rfl, rfl, SqL.of hHb2, at0 _ _, c0, _, 0, 0, rfl, rfl, hHc2, ix0 _ _, ?_⟩
      refine ⟨by rw [List.length_set]; exact hl', fun k hk => by rw [List.getElem?_set_ne (Ne.symm hk)]; exact hk' k hk, fun b' => ?_⟩
      by_cases hb' : b' = c0
      · subst hb'
        exact .inr ⟨hMc, _, _, upd_same⟩
      · rw [upd_ne hb']
        exact hr b'
    · rintro σ' H' ⟨hl', hk', hr⟩
      have hH' : H' a1 = some (.lst xs) := by
        rcases hr a1 with e | ⟨⟨_, n, ys, e⟩, _⟩
        · exact e.trans hH2
        · rw [hH2] at e
          injection e with e
          injection e with e
          exact absurd e (notInt n ys)
      refine ⟨.ref a1, (hk' i hip).trans ei, .inl ⟨rfl, xs, SqL.of hH'⟩, Nat.zero_le _, fun q hq => ?_⟩
      have hqa : a1 ≠ q := ne_of_none hH' hq
      refine ⟨a1, xs, .ref q, rfl, rfl, by rw [upd_ne hqa]; exact hH', by rw [rs2.length, ← lineS]; exact hlen, ?_⟩
      -- all other data stands
      have hsame : Same H (upd (upd H' q (.lst [])) a1 (.lst (xs ++ [.ref q]))) := fun b o e => by
        have h1 : b ≠ a1 := ne_of_none e hn1
        have h2 : H' b = some o := by
          rcases hr b with e' | ⟨⟨e', _⟩, _⟩
          · exact e'.trans (t12.same _ _ e)
          · rw [e] at e'; cases e'
        rw [upd_ne h1, upd_ne (ne_of_none h2 hq)]
        exact h2
      have stf : Step H F (upd (upd H' q (.lst [])) a1 (.lst (xs ++ [.ref q]))) (ovl F F2) := by
        refine ⟨ovl_le, fun b o e => ?_, hsame, fun b hb e => ?_⟩
        · rcases ovl_cases e with e | ⟨e, hnl⟩
          · exact hsame _ _ (s.step.ok _ _ e)
          · have h2 := t2.ok _ _ e
            have h3 : H' b = some o := by
              rcases hr b with e' | ⟨⟨_, n, ys, e'⟩, _⟩
              · exact e'.trans h2
              · rw [h2] at e'
                injection e' with e'
                exact absurd e' (hnl _)
            have h1 : b ≠ a1 := fun z => by
              rw [z, hH2] at h2
              injection h2 with h2
              exact absurd h2.symm (hnl _)
            rw [upd_ne h1, upd_ne (ne_of_none h3 hq)]
            exact h3
        · have h2 := t12.new b hb e
          unfold ovl
          rw [e, h2]
      have r3 := rep_ovl t12.le d v2 hnl r2
      have sF := (((s.go stf).set j r3).unset i).unset p
      refine ⟨H0, F0, _, ovl F F2, sF.agree ?_ fun k ck ek => ?_, PoS.mono ovl_le p2⟩
      · rw [hl', List.length_set, List.length_set, List.length_set]
      · have hkp : k ≠ p := fun z => by
          subst z
          have hlt := (List.getElem?_eq_some_iff.mp ek).1
          rw [List.length_set] at hlt
          rw [List.getElem?_set_self hlt] at ek
          cases ek
        have hki : k ≠ i := fun z => by
          subst z
          rw [List.getElem?_set_ne (Ne.symm hkp)] at ek
          have hlt := (List.getElem?_eq_some_iff.mp ek).1
          rw [List.length_set] at hlt
          rw [List.getElem?_set_self hlt] at ek
          cases ek
        rw [hk' k hkp, List.getElem?_set_ne (Ne.symm hkp), List.getElem?_set_ne (Ne.symm hki)]
        by_cases hkj : j = k
        · subst hkj
          by_cases hjl : j < σ.length
          · rw [List.getElem?_set_self (by rw [List.length_set]; exact hjl), List.getElem?_set_self hjl]
          · rw [List.getElem?_eq_none (by rw [List.length_set, List.length_set]; omega), List.getElem?_eq_none (by rw [List.length_set]; omega)]
        · rw [List.getElem?_set_ne hkj, List.getElem?_set_ne hkj, List.getElem?_set_ne (Ne.symm hki)]
  · rw [if_neg hc] at p2
    exact p2.elim
end
end Pu

/-! Pu, part Q: a law's end. -/
namespace Pu
open PySem PySem.Spec PyProof.Rows L2 He
theorem toCX0 {P : Program} {w : World} {K : PySem.W.Frag} {mg : Str → Option Value} {base : Heap} {k : Nat} {f : Addr} {fd : FuncData} {ps : List Str} {sp : Sp} (F : FnOk P w K mg base (L2.CX P w) k f fd ps sp) : FnOk P w K mg base CX0 k f fd ps (fun vs H Q _ => sp vs H Q fun _ _ _ => False) :=
  ⟨fun vs H Q E h => F.len vs H Q _ h, fun A outer s H args us vs Q E hr he hb hv hs => codeAny_mono (F.run A outer s H args us vs Q (fun _ _ _ => False) hr he hb hv hs) fun r s' hq => by
    cases r with
    | error e =>
      obtain ⟨_, _, _, _, _, _, _, _, _, _, _, _, z⟩ := hq
      exact z.elim
    | ok fl =>
      cases fl with
      | ret u => exact hq
      | next => exact hq
      | brk => exact hq
      | cont => exact hq⟩
theorem rep_script {K : PySem.W.Frag} {H : Hp} : ∀ {ns : List Int}, Reps K H (ns.map D.int) (ns.map V.int)
  | [] => rfl
  | n :: ns => ⟨.int n, ns.map V.int, rfl, rfl, rep_script⟩
theorem law_end {K : PySem.W.Frag} {f : List D → Res D} {H : Hp} {a : Addr} {ns : List Int} (hm : f [.ext (ns.map D.int)] = .ok (.bl true)) (hS : SqL K H a (ns.map V.int)) : spD K 1 f [.ref a] H (fun v _ => v = .bl true) fun _ _ _ => False :=
  ⟨[.ext (ns.map D.int)], H, Same.refl _, ⟨.ref a, [], rfl, ⟨a, _, rfl, hS, rep_script⟩, rfl⟩, rfl, by
    rw [hm]
    exact fun v H' F' _ r => r⟩
end Pu

set_option maxHeartbeats 1000000
/-! Pu, part R: plain lemmas about the denotations (no program, no heap). -/
namespace Pu
open PySem
/-- a list, a tuple of ints -/
abbrev lI (xs : List Int) : D := .lst (xs.map .int)
abbrev tI (xs : List Int) : D := .tup (xs.map .int)
@[simp] theorem bind_ok' {α β : Type} (a : α) (f : α → Res β) : (Res.ok a).bind f = f a := rfl
/-! ### ints in data -/
theorem ints_map : ∀ xs : List Int, ints? (xs.map D.int) = some xs
  | [] => rfl
  | x :: xs => by
    show (ints? (xs.map D.int)).map (x :: ·) = some (x :: xs)
    rw [ints_map xs]
    rfl
theorem dep_ints (n : Nat) (xs : List Int) : (xs.map D.int).all (D.dep n) = true := by
  rw [List.all_eq_true]
  intro d hd
  obtain ⟨x, _, rfl⟩ := List.mem_map.mp hd
  cases n <;> rfl
theorem eqv_ints : ∀ xs ys : List Int, D.eqvAll (xs.map D.int) (ys.map D.int) = (xs == ys)
  | [], [] => rfl
  | [], y :: ys => rfl
  | x :: xs, [] => rfl
  | x :: xs, y :: ys => by
    show (x == y && D.eqvAll (xs.map D.int) (ys.map D.int)) = _
    rw [eqv_ints xs ys]
    rfl
/-! ### comprehensions -/
theorem compL_map {g : GV} {t : TV} {e : EV} {ρ : Env} (f : D → D) : ∀ ds : List D, (∀ d ∈ ds, ∃ ρ1, g d ρ = .ok ρ1 ∧ t ρ1 = .ok true ∧ e ρ1 = .ok (f d)) → compL g t e ρ ds = .ok (ds.map f)
  | [], _ => rfl
  | d :: ds, h => by
    obtain ⟨ρ1, h1, h2, h3⟩ := h d List.mem_cons_self
    unfold compL
    rw [h1]
    show ((quiet (t ρ1)).bind _) = _
    rw [h2]
    show ((quiet (e ρ1)).bind _) = _
    rw [h3]
    show ((compL g t e ρ ds).bind _) = _
    rw [compL_map f ds fun d hd => h d (List.mem_cons_of_mem _ hd)]
    rfl
theorem compL_filter {g : GV} {t : TV} {e : EV} {ρ : Env} (p : D → Bool) (f : D → D) : ∀ ds : List D, (∀ d ∈ ds, ∃ ρ1, g d ρ = .ok ρ1 ∧ t ρ1 = .ok (p d) ∧ (p d = true → e ρ1 = .ok (f d))) → compL g t e ρ ds = .ok ((ds.filter p).map f)
  | [], _ => rfl
  | d :: ds, h => by
    obtain ⟨ρ1, h1, h2, h3⟩ := h d List.mem_cons_self
    have ih := compL_filter p f ds fun d hd => h d (List.mem_cons_of_mem _ hd)
    unfold compL
    rw [h1]
    show ((quiet (t ρ1)).bind _) = _
    rw [h2]
    cases hp : p d with
    | false =>
      rw [List.filter_cons_of_neg (by rw [hp]; simp)]
      exact ih
    | true =>
      show ((quiet (e ρ1)).bind _) = _
      rw [h3 hp]
      show ((compL g t e ρ ds).bind _) = _
      rw [ih, List.filter_cons_of_pos hp]
      rfl
theorem compL2_flat {g : GV} {t : TV} {src1 : AV} {g1 : GV} {t1 : TV} {e : EV} {vs1 : List Nat} {ρ : Env} (f : D → List D) : ∀ ds : List D, (∀ d ∈ ds, ∃ ρ1 es, g d ρ = .ok ρ1 ∧ t ρ1 = .ok true ∧ src1 ρ1 = .ok es ∧ compL g1 t1 e (wipeE ρ1 vs1) es = .ok (f d)) → compL2 g t src1 g1 t1 e vs1 ρ ds = .ok (ds.flatMap f)
  | [], _ => rfl
  | d :: ds, h => by
    obtain ⟨ρ1, es, h1, h2, h3, h4⟩ := h d List.mem_cons_self
    unfold compL2
    rw [h1]
    show ((quiet (t ρ1)).bind _) = _
    rw [h2]
    show ((quiet (src1 ρ1)).bind _) = _
    rw [h3]
    show ((compL g1 t1 e (wipeE ρ1 vs1) es).bind _) = _
    rw [h4]
    show ((compL2 g t src1 g1 t1 e vs1 ρ ds).bind _) = _
    rw [compL2_flat f ds fun d hd => h d (List.mem_cons_of_mem _ hd)]
    rfl
/-! ### loops -/
theorem forL_inv {g : GV} {b : SV} (P : Nat → Env → Prop) : ∀ (ds : List D) (k : Nat) (ρ : Env), P k ρ → (∀ i d ρ, ds[i]? = some d → P (k + i) ρ → ∃ ρ1 ρ2, g d ρ = .ok ρ1 ∧ (b ρ1 = .nx ρ2 ∨ b ρ1 = .ct ρ2) ∧ P (k + i + 1) ρ2) →
    ∃ ρ', forL g b ds ρ = .nx ρ' ∧ P (k + ds.length) ρ'
  | [], k, ρ, h, _ => ⟨ρ, rfl, h⟩
  | d :: ds, k, ρ, h, hs => by
    obtain ⟨ρ1, ρ2, h1, h2, h3⟩ := hs 0 d ρ rfl h
    obtain ⟨ρ', h4, h5⟩ := forL_inv P ds (k + 1) ρ2 h3 fun i d' ρ3 e q => by
      have := hs (i + 1) d' ρ3 (by simpa using e) (by rw [show k + (i + 1) = k + 1 + i by omega]; exact q)
      rw [show k + (i + 1) + 1 = k + 1 + i + 1 by omega] at this
      exact this
    refine ⟨ρ', ?_, by rw [List.length_cons, show k + (ds.length + 1) = k + 1 + ds.length by omega]; exact h5⟩
    unfold forL
    rw [h1]
    show (match b ρ1 with
      | .nx ρ2 => forL g b ds ρ2
      | .ct ρ2 => forL g b ds ρ2
      | .bk ρ2 => .nx ρ2
      | r => r) = _
    rcases h2 with h2 | h2 <;> rw [h2] <;> exact h4
/-- .. from the first turn -/
theorem forL_all {g : GV} {b : SV} (P : Nat → Env → Prop) {ds : List D} {ρ : Env} (h : P 0 ρ) (hs : ∀ i d ρ, ds[i]? = some d → P i ρ → ∃ ρ1 ρ2, g d ρ = .ok ρ1 ∧ (b ρ1 = .nx ρ2 ∨ b ρ1 = .ct ρ2) ∧ P (i + 1) ρ2) : ∃ ρ', forL g b ds ρ = .nx ρ' ∧ P ds.length ρ' := by
  obtain ⟨ρ', h1, h2⟩ := forL_inv P ds 0 ρ h fun i d ρ e q => by
    rw [Nat.zero_add] at q ⊢
    exact hs i d ρ e q
  exact ⟨ρ', h1, by rw [Nat.zero_add] at h2; exact h2⟩
/-- a loop that may leave by r, in R -/
def SR.stops : SR → Prop
  | .nx _ => False
  | .bk _ => False
  | .ct _ => False
  | _ => True
theorem forL_stop {g : GV} {b : SV} (P : Nat → Env → Prop) (R : SR → Prop) : ∀ (ds : List D) (k : Nat) (ρ : Env), P k ρ → (∀ i d ρ, ds[i]? = some d → P (k + i) ρ → ∃ ρ1, g d ρ = .ok ρ1 ∧ ((∃ ρ2, (b ρ1 = .nx ρ2 ∨ b ρ1 = .ct ρ2) ∧ P (k + i + 1) ρ2) ∨ ((b ρ1).stops ∧ R (b ρ1)))) →
    (∃ ρ', forL g b ds ρ = .nx ρ' ∧ P (k + ds.length) ρ') ∨ R (forL g b ds ρ)
  | [], k, ρ, h, _ => .inl ⟨ρ, rfl, h⟩
  | d :: ds, k, ρ, h, hs => by
    obtain ⟨ρ1, h1, ⟨ρ2, h2, h3⟩ | ⟨h2, h3⟩⟩ := hs 0 d ρ rfl h
    · have ih := forL_stop P R ds (k + 1) ρ2 h3 fun i d' ρ3 e q => by
        have := hs (i + 1) d' ρ3 (by simpa using e) (by rw [show k + (i + 1) = k + 1 + i by omega]; exact q)
        rw [show k + (i + 1) + 1 = k + 1 + i + 1 by omega] at this
        exact this
      have e : forL g b (d :: ds) ρ = forL g b ds ρ2 := by
        conv => lhs; unfold forL
        rw [h1]
        show (match b ρ1 with
          | .nx ρ2 => forL g b ds ρ2
          | .ct ρ2 => forL g b ds ρ2
          | .bk ρ2 => .nx ρ2
          | r => r) = _
        rcases h2 with h2 | h2 <;> rw [h2]
      rw [e, List.length_cons, show k + (ds.length + 1) = k + 1 + ds.length by omega]
      exact ih
    · refine .inr ?_
      have e : forL g b (d :: ds) ρ = b ρ1 := by
        conv => lhs; unfold forL
        rw [h1]
        show (match b ρ1 with
          | .nx ρ2 => forL g b ds ρ2
          | .ct ρ2 => forL g b ds ρ2
          | .bk ρ2 => .nx ρ2
          | r => r) = _
        cases hb : b ρ1 with
        | nx ρ => rw [hb] at h2; exact h2.elim
        | bk ρ => rw [hb] at h2; exact h2.elim
        | ct ρ => rw [hb] at h2; exact h2.elim
        | rt d => rfl
        | ex ρ C fs => rfl
        | bad => rfl
      rw [e]
      exact h3
/-! ### statements one by one -/
section
variable {ρ ρ' : Env} {a : EV} {l : AV} {d : D} {i : Nat} {g h : SV} {t : TV} {k : Bool}
theorem seq_nx (e : g ρ = .nx ρ') : sSeq g h ρ = h ρ' := by unfold sSeq; rw [e]
theorem seq_rt (e : g ρ = .rt d) : sSeq g h ρ = .rt d := by unfold sSeq; rw [e]
theorem set_ok (e : a ρ = .ok d) : sSet i a ρ = .nx (ρ.set i (some (.val d))) := by unfold sSet; rw [e]; rfl
theorem own_ok {ds : List D} (e : l ρ = .ok ds) : sOwn i l ρ = .nx (ρ.set i (some (.own ds))) := by unfold sOwn; rw [e]; rfl
theorem ret_ok (e : a ρ = .ok d) : sRet a ρ = .rt d := by unfold sRet; rw [e]; rfl
theorem if_ok (e : t ρ = .ok k) : sIf t g h ρ = if k = true then g ρ else h ρ := by
  unfold sIf
  rw [e]
  cases k <;> rfl
theorem for_ok {s : AV} {gg : GV} {ds : List D} (e : s ρ = .ok ds) : sFor s gg g ρ = forL gg g ds ρ := by unfold sFor; rw [e]; rfl
theorem call_ok {f : List D → Res D} {ds : List D} (e : l ρ = .ok ds) : eCall f l ρ = f ds := by unfold eCall; rw [e]; rfl
theorem cons_ok {ds : List D} {r : AV} (e : a ρ = .ok d) (e' : r ρ = .ok ds) : aCons a r ρ = .ok (d :: ds) := by unfold aCons; rw [e]; show (r ρ).bind _ = _; rw [e']; rfl
theorem e1_ok {f : D → Res D} {c : D} (e : a ρ = .ok d) (e' : f d = .ok c) : e1 f a ρ = .ok c := by unfold e1; rw [e]; exact e'
theorem e2_ok {f : D → D → Res D} {b : EV} {c x : D} (e : a ρ = .ok d) (e' : b ρ = .ok c) (e3 : f d c = .ok x) : e2 f a b ρ = .ok x := by unfold e2; rw [e]; show (b ρ).bind _ = _; rw [e']; exact e3
theorem l_ok {ds : List D} (e : l ρ = .ok ds) : eL l ρ = .ok (.lst ds) := by unfold eL; rw [e]; rfl
theorem comp_ok {s : AV} {gg : GV} {ds ys : List D} {vs : List Nat} (e : s ρ = .ok ds) (e' : compL gg t a (wipeE ρ vs) ds = .ok ys) : lComp s gg t a vs ρ = .ok ys := by unfold lComp; rw [e]; exact e'
end
/-! ### operations -/
theorem mod_ok {i j : Int} (h : 0 < j) : oMod (.int i) (.int j) = .ok (.int (i % j)) := if_pos h
theorem div_ok {i j : Int} (h : 0 < j) (h' : j < 1073741824) : oDiv (.int i) (.int j) = .ok (.int (i / j)) := if_pos ⟨h, h'⟩
theorem mul_ok {i j : Int} (h : mulOk i j = true) : oMul (.int i) (.int j) = .ok (.int (i * j)) := if_pos h
theorem mulOk_l {i j : Int} (h : -18446744073709551616 < i) (h' : i < 18446744073709551616) : mulOk i j = true := by
  unfold mulOk
  rw [decide_eq_true h, decide_eq_true h']
  rfl
theorem mulOk_r {i j : Int} (h : -18446744073709551616 < j) (h' : j < 18446744073709551616) : mulOk i j = true := by
  unfold mulOk
  rw [decide_eq_true h, decide_eq_true h', Bool.or_comm]
  rfl
theorem rng1_ok {a : EV} {ρ : Env} {n : Nat} (e : a ρ = .ok (.int n)) (h : n ≤ 16777216) : iRng1 a ρ = .ok ((List.range n).map fun (i : Nat) => .int i) := by
  unfold iRng1
  rw [e]
  show (if -4611686018427387904 ≤ (n : Int) ∧ (n : Int) ≤ ((line : Nat) : Int) then _ else _) = _
  have h2 : (n : Int) ≤ ((line : Nat) : Int) := by show (n : Int) ≤ 16777216; omega
  rw [if_pos ⟨by omega, h2⟩]
  unfold rng
  have e : ((n : Int) - 0).toNat = n := by omega
  rw [e]
  congr 1
  apply List.map_congr_left
  intro i _
  congr 1
  omega
theorem ixN_nat {n i : Nat} (h : i < n) : ixN n (i : Int) = some i := by
  unfold ixN
  rw [if_pos (by omega), if_pos (by omega)]
  congr 1
theorem atI_nat {α : Type} {xs : List α} {i : Nat} {x : α} (h : xs[i]? = some x) : atI xs (i : Int) = some x := by
  unfold atI
  rw [ixN_nat (List.getElem?_eq_some_iff.mp h).1]
  exact h
theorem ix_lst {xs : List D} {i : Nat} {d : D} (h : xs[i]? = some d) : oIx (.lst xs) (.int i) = .ok d := by
  show optR (atI xs i) = _
  rw [atI_nat h]
  rfl
theorem ix_tup {xs : List D} {i : Nat} {d : D} (h : xs[i]? = some d) : oIx (.tup xs) (.int i) = .ok d := by
  show optR (atI xs i) = _
  rw [atI_nat h]
  rfl
theorem ix_lI {xs : List Int} {i : Nat} {x : Int} (h : xs[i]? = some x) : oIx (lI xs) (.int i) = .ok (.int x) := ix_lst (by rw [List.getElem?_map, h]; rfl)
theorem ix_tI {xs : List Int} {i : Nat} {x : Int} (h : xs[i]? = some x) : oIx (tI xs) (.int i) = .ok (.int x) := ix_tup (by rw [List.getElem?_map, h]; rfl)
theorem all_map_int {p : D → Bool} {q : Int → Bool} (h : ∀ i, p (.int i) = q i) (xs : List Int) : (xs.map D.int).all p = xs.all q := by
  rw [List.all_map]
  congr 1
  funext i
  exact h i

/-! ### over lists that stand for something -/
theorem compL_of {α : Type} {g : GV} {t : TV} {e : EV} {ρ : Env} (c f : α → D) (xs : List α) (h : ∀ x ∈ xs, ∃ ρ1, g (c x) ρ = .ok ρ1 ∧ t ρ1 = .ok true ∧ e ρ1 = .ok (f x)) : compL g t e ρ (xs.map c) = .ok (xs.map f) := by
  induction xs with
  | nil => rfl
  | cons x xs ih =>
    obtain ⟨ρ1, h1, h2, h3⟩ := h x List.mem_cons_self
    rw [List.map_cons, List.map_cons]
    unfold compL
    rw [h1]
    show ((quiet (t ρ1)).bind _) = _
    rw [h2]
    show ((quiet (e ρ1)).bind _) = _
    rw [h3]
    show ((compL g t e ρ (xs.map c)).bind _) = _
    rw [ih fun x hx => h x (List.mem_cons_of_mem _ hx)]
    rfl
theorem compLf_of {α : Type} {g : GV} {t : TV} {e : EV} {ρ : Env} (c f : α → D) (p : α → Bool) (xs : List α) (h : ∀ x ∈ xs, ∃ ρ1, g (c x) ρ = .ok ρ1 ∧ t ρ1 = .ok (p x) ∧ (p x = true → e ρ1 = .ok (f x))) : compL g t e ρ (xs.map c) = .ok ((xs.filter p).map f) := by
  induction xs with
  | nil => rfl
  | cons x xs ih =>
    obtain ⟨ρ1, h1, h2, h3⟩ := h x List.mem_cons_self
    have ih := ih fun x hx => h x (List.mem_cons_of_mem _ hx)
    rw [List.map_cons]
    unfold compL
    rw [h1]
    show ((quiet (t ρ1)).bind _) = _
    rw [h2]
    cases hp : p x with
    | false =>
      rw [List.filter_cons_of_neg (by rw [hp]; simp)]
      exact ih
    | true =>
      show ((quiet (e ρ1)).bind _) = _
      rw [h3 hp]
      show ((compL g t e ρ (xs.map c)).bind _) = _
      rw [ih, List.filter_cons_of_pos hp]
      rfl
theorem compL2_of {α : Type} {g : GV} {t : TV} {src1 : AV} {g1 : GV} {t1 : TV} {e : EV} {vs1 : List Nat} {ρ : Env} (c : α → D) (f : α → List D) (xs : List α)
    (h : ∀ x ∈ xs, ∃ ρ1 es, g (c x) ρ = .ok ρ1 ∧ t ρ1 = .ok true ∧ src1 ρ1 = .ok es ∧ compL g1 t1 e (wipeE ρ1 vs1) es = .ok (f x)) : compL2 g t src1 g1 t1 e vs1 ρ (xs.map c) = .ok (xs.flatMap f) := by
  induction xs with
  | nil => rfl
  | cons x xs ih =>
    obtain ⟨ρ1, es, h1, h2, h3, h4⟩ := h x List.mem_cons_self
    rw [List.map_cons]
    unfold compL2
    rw [h1]
    show ((quiet (t ρ1)).bind _) = _
    rw [h2]
    show ((quiet (src1 ρ1)).bind _) = _
    rw [h3]
    show ((compL g1 t1 e (wipeE ρ1 vs1) es).bind _) = _
    rw [h4]
    show ((compL2 g t src1 g1 t1 e vs1 ρ (xs.map c)).bind _) = _
    rw [ih fun x hx => h x (List.mem_cons_of_mem _ hx)]
    rfl
theorem forL_fold {α β : Type} {g : GV} {b : SV} (c : α → D) (f : β → α → β) (E : β → Env → Prop) (xs : List α) (s : β) (ρ : Env) (h : E s ρ)
    (hs : ∀ x ∈ xs, ∀ s ρ, E s ρ → ∃ ρ1 ρ2, g (c x) ρ = .ok ρ1 ∧ (b ρ1 = .nx ρ2 ∨ b ρ1 = .ct ρ2) ∧ E (f s x) ρ2) : ∃ ρ', forL g b (xs.map c) ρ = .nx ρ' ∧ E (xs.foldl f s) ρ' := by
  induction xs generalizing s ρ with
  | nil => exact ⟨ρ, rfl, h⟩
  | cons x xs ih =>
    obtain ⟨ρ1, ρ2, h1, h2, h3⟩ := hs x List.mem_cons_self s ρ h
    obtain ⟨ρ', h4, h5⟩ := ih (f s x) ρ2 h3 fun x hx => hs x (List.mem_cons_of_mem _ hx)
    refine ⟨ρ', ?_, h5⟩
    rw [List.map_cons]
    unfold forL
    rw [h1]
    show (match b ρ1 with
      | .nx ρ2 => forL g b (xs.map c) ρ2
      | .ct ρ2 => forL g b (xs.map c) ρ2
      | .bk ρ2 => .nx ρ2
      | r => r) = _
    rcases h2 with h2 | h2 <;> rw [h2] <;> exact h4
/-- all turns go on, or one stops -/
theorem forL_try {α : Type} {g : GV} {b : SV} (c : α → D) (E : Env → Prop) (good : α → Prop) (R : SR → Prop) (xs : List α) (ρ : Env) (h : E ρ)
    (hs : ∀ x ∈ xs, ∀ ρ, E ρ → ∃ ρ1, g (c x) ρ = .ok ρ1 ∧ ((good x ∧ ∃ ρ2, (b ρ1 = .nx ρ2 ∨ b ρ1 = .ct ρ2) ∧ E ρ2) ∨ (¬ good x ∧ (b ρ1).stops ∧ R (b ρ1)))) :
    ((∀ x ∈ xs, good x) ∧ ∃ ρ', forL g b (xs.map c) ρ = .nx ρ' ∧ E ρ') ∨ ((¬ ∀ x ∈ xs, good x) ∧ R (forL g b (xs.map c) ρ)) := by
  induction xs generalizing ρ with
  | nil => exact .inl ⟨fun x hx => (by cases hx), ρ, rfl, h⟩
  | cons x xs ih =>
    obtain ⟨ρ1, h1, ⟨hg, ρ2, h2, h3⟩ | ⟨hg, h2, h3⟩⟩ := hs x List.mem_cons_self ρ h
    · have e : forL g b ((x :: xs).map c) ρ = forL g b (xs.map c) ρ2 := by
        rw [List.map_cons]
        conv => lhs; unfold forL
        rw [h1]
        show (match b ρ1 with
          | .nx ρ2 => forL g b (xs.map c) ρ2
          | .ct ρ2 => forL g b (xs.map c) ρ2
          | .bk ρ2 => .nx ρ2
          | r => r) = _
        rcases h2 with h2 | h2 <;> rw [h2]
      rw [e]
      rcases ih ρ2 h3 fun x hx => hs x (List.mem_cons_of_mem _ hx) with ⟨ha, hb⟩ | ⟨ha, hb⟩
      · exact .inl ⟨fun y hy => (List.mem_cons.mp hy).elim (fun e => e ▸ hg) (ha y), hb⟩
      · exact .inr ⟨fun z => ha fun y hy => z y (List.mem_cons_of_mem _ hy), hb⟩
    · refine .inr ⟨fun z => hg (z x List.mem_cons_self), ?_⟩
      have e : forL g b ((x :: xs).map c) ρ = b ρ1 := by
        rw [List.map_cons]
        conv => lhs; unfold forL
        rw [h1]
        show (match b ρ1 with
          | .nx ρ2 => forL g b (xs.map c) ρ2
          | .ct ρ2 => forL g b (xs.map c) ρ2
          | .bk ρ2 => .nx ρ2
          | r => r) = _
        cases hb : b ρ1 with
        | nx ρ => rw [hb] at h2; exact h2.elim
        | bk ρ => rw [hb] at h2; exact h2.elim
        | ct ρ => rw [hb] at h2; exact h2.elim
        | rt d => rfl
        | ex ρ C fs => rfl
        | bad => rfl
      rw [e]
      exact h3
theorem zipD_map {α β : Type} (c : α → D) (c' : β → D) : ∀ (xs : List α) (ys : List β), zipD (xs.map c) (ys.map c') = (xs.zip ys).map fun p => .tup [c p.1, c' p.2]
  | [], _ => by simp [zipD]
  | _ :: _, [] => by simp [zipD]
  | x :: xs, y :: ys => by
    show .tup [c x, c' y] :: zipD (xs.map c) (ys.map c') = _
    rw [zipD_map c c' xs ys]
    rfl
theorem enumD_map {α : Type} (c : α → D) : ∀ (xs : List α) (n : Nat), enumD n (xs.map c) = (xs.zipIdx n).map fun p => .tup [.int p.2, c p.1]
  | [], _ => rfl
  | x :: xs, n => by
    show .tup [.int n, c x] :: enumD (n + 1) (xs.map c) = _
    rw [enumD_map c xs (n + 1)]
    rfl
theorem defD_rt {n N : Nat} {g : SV} {ds : List D} {d : D} (hl : ds.length = n) (h : g (startE N ds) = .rt d) : defD n N g ds = .ok d := by
  unfold defD
  rw [if_pos hl, h]
theorem defD_nx {n N : Nat} {g : SV} {ds : List D} {ρ : Env} (hl : ds.length = n) (h : g (startE N ds) = .nx ρ) : defD n N g ds = .ok .non := by
  unfold defD
  rw [if_pos hl, h]
theorem defD_ex {n N : Nat} {g : SV} {ds : List D} {ρ : Env} {C : Str} {fs : List (Str × D)} (hl : ds.length = n) (h : g (startE N ds) = .ex ρ C fs) : defD n N g ds = .exc C fs := by
  unfold defD
  rw [if_pos hl, h]
/-- a list or a tuple of ints -/
def IsI (d : D) (xs : List Int) : Prop := d = lI xs ∨ d = tI xs
theorem IsI.seq {d : D} {xs : List Int} (h : IsI d xs) : seqD d = .ok (xs.map D.int) := by rcases h with rfl | rfl <;> rfl
theorem iSeq_I {a : EV} {ρ : Env} {d : D} {xs : List Int} (h : IsI d xs) (e : a ρ = .ok d) : iSeq a ρ = .ok (xs.map D.int) := by
  unfold iSeq
  rw [e]
  rcases h with rfl | rfl <;> rfl
theorem IsI.ix {d : D} {xs : List Int} (h : IsI d xs) {i : Nat} {x : Int} (e : xs[i]? = some x) : oIx d (.int i) = .ok (.int x) := by
  rcases h with rfl | rfl
  · exact ix_lI e
  · exact ix_tI e
theorem IsI.len {d : D} {xs : List Int} (h : IsI d xs) : bLen d = .ok (.int xs.length) := by
  rcases h with rfl | rfl
  · show Res.ok (D.int (xs.map D.int).length) = _
    rw [List.length_map]
  · show Res.ok (D.int (xs.map D.int).length) = _
    rw [List.length_map]
theorem iZip_ok {a b : EV} {ρ : Env} {x y : D} {xs ys : List D} (e : a ρ = .ok x) (e' : b ρ = .ok y) (h : seqD x = .ok xs) (h' : seqD y = .ok ys) : iZip a b ρ = .ok (zipD xs ys) := by
  unfold iZip
  rw [e]
  show ((b ρ).bind _) = _
  rw [e']
  show ((seqD x).bind fun xs => (seqD y).bind fun ys => .ok (zipD xs ys)) = _
  rw [h]
  show ((seqD y).bind _) = _
  rw [h']
  rfl
theorem iEnum_ok {a : EV} {ρ : Env} {x : D} {xs : List D} (e : a ρ = .ok x) (h : seqD x = .ok xs) : iEnum a ρ = .ok (enumD 0 xs) := by
  unfold iEnum
  rw [e]
  show ((seqD x).bind _) = _
  rw [h]
  rfl

/-! ### loops over places -/
theorem zipIdx_range {α β : Type} (f : Nat → β) : ∀ (xs : List α) (n : Nat), (xs.zipIdx n).map (fun q => f q.2) = (List.range' n xs.length).map f := fun xs => by
  induction xs with
  | nil => intro n; rfl
  | cons x xs ih =>
    intro n
    rw [List.zipIdx_cons, List.map_cons, ih (n + 1), List.length_cons, List.range'_succ, List.map_cons]
theorem foldl_zipIdx {α β : Type} (f : β → α → β) : ∀ (xs : List α) (n : Nat) (s : β), (xs.zipIdx n).foldl (fun s q => f s q.1) s = xs.foldl f s := fun xs => by
  induction xs with
  | nil => intro n s; rfl
  | cons x xs ih =>
    intro n s
    rw [List.zipIdx_cons, List.foldl_cons, List.foldl_cons, ih]
theorem zipIdx_at {α : Type} {xs : List α} {q : α × Nat} (h : q ∈ xs.zipIdx) : xs[q.2]? = some q.1 := by
  obtain ⟨x, i⟩ := q
  exact List.mem_zipIdx_iff_getElem?.mp h
theorem forL_ix {α β : Type} {g : GV} {b : SV} (f : β → α → β) (E : β → Env → Prop) (xs : List α) (s : β) (ρ : Env) (h : E s ρ)
    (hs : ∀ (i : Nat) (x : α), xs[i]? = some x → ∀ s ρ, E s ρ → ∃ ρ1 ρ2, g (.int i) ρ = .ok ρ1 ∧ (b ρ1 = .nx ρ2 ∨ b ρ1 = .ct ρ2) ∧ E (f s x) ρ2) :
    ∃ ρ', forL g b ((List.range xs.length).map fun (i : Nat) => .int i) ρ = .nx ρ' ∧ E (xs.foldl f s) ρ' := by
  have e := zipIdx_range (fun (i : Nat) => D.int i) xs 0
  rw [← List.range_eq_range'] at e
  rw [← e, ← foldl_zipIdx f xs 0 s]
  exact forL_fold (fun q : α × Nat => .int q.2) (fun s q => f s q.1) E xs.zipIdx s ρ h fun q hq s ρ hE => hs q.2 q.1 (zipIdx_at hq) s ρ hE
/-- .. where a turn may stop -/
theorem forL_ixTry {α : Type} {g : GV} {b : SV} (E : Env → Prop) (good : α → Prop) (R : SR → Prop) (xs : List α) (ρ : Env) (h : E ρ)
    (hs : ∀ (i : Nat) (x : α), xs[i]? = some x → ∀ ρ, E ρ → ∃ ρ1, g (.int i) ρ = .ok ρ1 ∧ ((good x ∧ ∃ ρ2, (b ρ1 = .nx ρ2 ∨ b ρ1 = .ct ρ2) ∧ E ρ2) ∨ (¬ good x ∧ (b ρ1).stops ∧ R (b ρ1)))) :
    ((∀ x ∈ xs, good x) ∧ ∃ ρ', forL g b ((List.range xs.length).map fun (i : Nat) => .int i) ρ = .nx ρ' ∧ E ρ') ∨ ((¬ ∀ x ∈ xs, good x) ∧ R (forL g b ((List.range xs.length).map fun (i : Nat) => .int i) ρ)) := by
  have e := zipIdx_range (fun (i : Nat) => D.int i) xs 0
  rw [← List.range_eq_range'] at e
  rw [← e]
  have hm : ∀ P : α → Prop, (∀ q ∈ xs.zipIdx, P q.1) ↔ ∀ x ∈ xs, P x := fun P => by
    constructor
    · intro h x hx
      obtain ⟨i, hi, e⟩ := List.mem_iff_getElem.mp hx
      exact h (x, i) (List.mem_zipIdx_iff_getElem?.mpr (by rw [List.getElem?_eq_getElem hi, e]))
    · intro h q hq
      exact h q.1 (List.mem_of_getElem? (zipIdx_at hq))
  have key := forL_try (g := g) (b := b) (fun q : α × Nat => .int q.2) E (fun q => good q.1) R xs.zipIdx ρ h fun q hq ρ hE => hs q.2 q.1 (zipIdx_at hq) ρ hE
  rw [hm good] at key
  exact key
theorem getD_of {α : Type} {xs : List α} {i : Nat} {x d : α} (h : xs[i]? = some x) : xs.getD i d = x := by
  rw [List.getD_eq_getElem?_getD, h]
  rfl
theorem getElem?_lt {α : Type} {xs : List α} {i : Nat} (d : α) (h : i < xs.length) : xs[i]? = some (xs.getD i d) := by
  rw [List.getD_eq_getElem?_getD, List.getElem?_eq_getElem h]
  rfl
/-- a loop that gathers one item a turn -/
theorem forL_gather {α : Type} {g : GV} {b : SV} (c f : α → D) (E : List D → Env → Prop) (xs : List α) (ys : List D) (ρ : Env) (h : E ys ρ) (hl : ys.length + xs.length ≤ 16777216)
    (hs : ∀ x ∈ xs, ∀ ys ρ, ys.length < 16777216 → E ys ρ → ∃ ρ1 ρ2, g (c x) ρ = .ok ρ1 ∧ (b ρ1 = .nx ρ2 ∨ b ρ1 = .ct ρ2) ∧ E (ys ++ [f x]) ρ2) : ∃ ρ', forL g b (xs.map c) ρ = .nx ρ' ∧ E (ys ++ xs.map f) ρ' := by
  induction xs generalizing ys ρ with
  | nil => exact ⟨ρ, rfl, by rw [List.map_nil, List.append_nil]; exact h⟩
  | cons x xs ih =>
    rw [List.length_cons] at hl
    obtain ⟨ρ1, ρ2, h1, h2, h3⟩ := hs x List.mem_cons_self ys ρ (by omega) h
    obtain ⟨ρ', h4, h5⟩ := ih (ys ++ [f x]) ρ2 h3 (by rw [List.length_append, List.length_singleton]; omega) fun x hx => hs x (List.mem_cons_of_mem _ hx)
    refine ⟨ρ', ?_, by rw [List.map_cons]; rw [List.append_assoc] at h5; exact h5⟩
    rw [List.map_cons]
    unfold forL
    rw [h1]
    show (match b ρ1 with
      | .nx ρ2 => forL g b (xs.map c) ρ2
      | .ct ρ2 => forL g b (xs.map c) ρ2
      | .bk ρ2 => .nx ρ2
      | r => r) = _
    rcases h2 with h2 | h2 <;> rw [h2] <;> exact h4
theorem app_ok {i : Nat} {a : EV} {ρ : Env} {ds : List D} {d : D} (h : ρ[i]? = some (some (.own ds))) (e : a ρ = .ok d) (hl : ds.length < 16777216) : sApp i a ρ = .nx (ρ.set i (some (.own (ds ++ [d])))) := by
  unfold sApp
  rw [h]
  show ((a ρ).sr ρ _) = _
  rw [e]
  exact if_pos hl
section
variable {ρ ρ' : Env} {a : EV} {l : AV} {d : D} {i : Nat} {g h : SV} {t : TV} {r : SR} {x : Res D}
theorem seq_go (e : g ρ = .nx ρ') (e' : h ρ' = r) : sSeq g h ρ = r := (seq_nx e).trans e'
theorem if_t (e : t ρ = .ok true) (e' : g ρ = r) : sIf t g h ρ = r := (if_ok e).trans e'
theorem if_f (e : t ρ = .ok false) (e' : h ρ = r) : sIf t g h ρ = r := (if_ok e).trans e'
theorem for_go {s : AV} {gg : GV} {ds : List D} (e : s ρ = .ok ds) (e' : forL gg g ds ρ = r) : sFor s gg g ρ = r := (for_ok e).trans e'
theorem callGo {f : List D → Res D} {ds : List D} (e : l ρ = .ok ds) (e' : f ds = x) : eCall f l ρ = x := (call_ok e).trans e'
end
/-- a loop whose first bad turn stops -/
theorem forL_first {α : Type} {g : GV} {b : SV} (c : α × Nat → D) (E : Env → Prop) (good : α → Bool) (R : Nat → SR → Prop) (l : List (α × Nat)) (ρ : Env) (h : E ρ)
    (hs : ∀ q ∈ l, ∀ ρ, E ρ → ∃ ρ1, g (c q) ρ = .ok ρ1 ∧ (good q.1 = true → ∃ ρ2, b ρ1 = .nx ρ2 ∧ E ρ2) ∧ (good q.1 = false → (b ρ1).stops ∧ R q.2 (b ρ1))) :
    (l.find? (fun q => !good q.1) = none ∧ ∃ ρ', forL g b (l.map c) ρ = .nx ρ' ∧ E ρ') ∨ ∃ q, l.find? (fun q => !good q.1) = some q ∧ R q.2 (forL g b (l.map c) ρ) := by
  induction l generalizing ρ with
  | nil => exact .inl ⟨rfl, ρ, rfl, h⟩
  | cons q l ih =>
    obtain ⟨ρ1, h1, h2, h3⟩ := hs q List.mem_cons_self ρ h
    cases hg : good q.1 with
    | true =>
      obtain ⟨ρ2, h4, h5⟩ := h2 hg
      have e : forL g b ((q :: l).map c) ρ = forL g b (l.map c) ρ2 := by
        rw [List.map_cons]
        conv => lhs; unfold forL
        rw [h1]
        show (match b ρ1 with
          | .nx ρ2 => forL g b (l.map c) ρ2
          | .ct ρ2 => forL g b (l.map c) ρ2
          | .bk ρ2 => .nx ρ2
          | r => r) = _
        rw [h4]
      rw [e, List.find?_cons_of_neg (by rw [hg]; simp)]
      exact ih ρ2 h5 fun q' hq' => hs q' (List.mem_cons_of_mem _ hq')
    | false =>
      obtain ⟨h4, h5⟩ := h3 hg
      refine .inr ⟨q, List.find?_cons_of_pos (by rw [hg]; rfl), ?_⟩
      have e : forL g b ((q :: l).map c) ρ = b ρ1 := by
        rw [List.map_cons]
        conv => lhs; unfold forL
        rw [h1]
        show (match b ρ1 with
          | .nx ρ2 => forL g b (l.map c) ρ2
          | .ct ρ2 => forL g b (l.map c) ρ2
          | .bk ρ2 => .nx ρ2
          | r => r) = _
        cases hb : b ρ1 with
        | nx ρ => rw [hb] at h4; exact h4.elim
        | bk ρ => rw [hb] at h4; exact h4.elim
        | ct ρ => rw [hb] at h4; exact h4.elim
        | rt d => rfl
        | ex ρ C fs => rfl
        | bad => rfl
      rw [e]
      exact h5
theorem range_zipIdx {α : Type} (xs : List α) : ((List.range xs.length).map fun (i : Nat) => D.int i) = xs.zipIdx.map fun q => D.int q.2 := by
  have e := zipIdx_range (fun (i : Nat) => D.int i) xs 0
  rw [← List.range_eq_range'] at e
  exact e.symm
theorem fldset_ok {Cs : List Str} {i : Nat} {f C : Str} {a : EV} {ρ : Env} {fs : List (Str × D)} {d : D} (h : ρ[i]? = some (some (.oobj C fs))) (hc : C ∈ Cs) (e : a ρ = .ok d) (hl : fs.length < 900) : Pu.sFld Cs i f a ρ = .nx (ρ.set i (some (.oobj C (putF f d fs)))) := by
  unfold Pu.sFld
  rw [h]
  show (if C ∈ Cs then (a ρ).sr ρ _ else .bad) = _
  rw [if_pos hc, e]
  exact if_pos hl
end Pu

set_option maxHeartbeats 0
/-! printed by gen.py: the defs of the law, what they answer, that they do. -/
namespace Pu
open PySem PySem.Spec PyProof.Rows L2 He
def top (i : Nat) : Stmt := PySem.Challenge.pw_hiredhands_k71_crossed_answers.main.body.getD i (.Pass ⟨0, 0, 0, 0⟩)
theorem forall_cons {α : Type} {p : α → Prop} {a : α} {l : List α} (h : p a) (t : ∀ x ∈ l, p x) : ∀ x ∈ a :: l, p x := fun x hx => (List.mem_cons.mp hx).elim (fun e => e ▸ h) (t x)

def sub_BadPrime (C : Str) : Option Bool := if C = "BadPrime" then some true else if C = "BadRow" then some false else if C = "BadSize" then some false else if C = "HandsError" then some false else if C = "TooManyHands" then some false else none
def sub_BadSize (C : Str) : Option Bool := if C = "BadPrime" then some false else if C = "BadRow" then some false else if C = "BadSize" then some true else if C = "HandsError" then some false else if C = "TooManyHands" then some false else none
def sub_TooManyHands (C : Str) : Option Bool := if C = "BadPrime" then some false else if C = "BadRow" then some false else if C = "BadSize" then some false else if C = "HandsError" then some false else if C = "TooManyHands" then some true else none
def sub_BadRow (C : Str) : Option Bool := if C = "BadPrime" then some false else if C = "BadRow" then some true else if C = "BadSize" then some false else if C = "HandsError" then some false else if C = "TooManyHands" then some false else none
def exm_HandsError (C : Str) : Option Bool := if C = "BadPrime" then some true else if C = "BadRow" then some true else if C = "BadSize" then some true else if C = "HandsError" then some true else if C = "TooManyHands" then some true else none
theorem nd_BadPrime : (("BadPrime" : Str) == ("__debug__" : Str)) = false := by decide
theorem nc_BadPrime : (("BadPrime" : Str) == ("__classdict__" : Str)) = false := by decide
theorem nd_BadRow : (("BadRow" : Str) == ("__debug__" : Str)) = false := by decide
theorem nc_BadRow : (("BadRow" : Str) == ("__classdict__" : Str)) = false := by decide
theorem nd_BadSize : (("BadSize" : Str) == ("__debug__" : Str)) = false := by decide
theorem nc_BadSize : (("BadSize" : Str) == ("__classdict__" : Str)) = false := by decide
theorem nd_HandsError : (("HandsError" : Str) == ("__debug__" : Str)) = false := by decide
theorem nc_HandsError : (("HandsError" : Str) == ("__classdict__" : Str)) = false := by decide
theorem nd_TooManyHands : (("TooManyHands" : Str) == ("__debug__" : Str)) = false := by decide
theorem nc_TooManyHands : (("TooManyHands" : Str) == ("__classdict__" : Str)) = false := by decide
theorem nd_a : (("a" : Str) == ("__debug__" : Str)) = false := by decide
theorem nc_a : (("a" : Str) == ("__classdict__" : Str)) = false := by decide
theorem nd_at : (("at" : Str) == ("__debug__" : Str)) = false := by decide
theorem nc_at : (("at" : Str) == ("__classdict__" : Str)) = false := by decide
theorem nd_b : (("b" : Str) == ("__debug__" : Str)) = false := by decide
theorem nc_b : (("b" : Str) == ("__classdict__" : Str)) = false := by decide
theorem nd_bad : (("bad" : Str) == ("__debug__" : Str)) = false := by decide
theorem nc_bad : (("bad" : Str) == ("__classdict__" : Str)) = false := by decide
theorem nd_cell : (("cell" : Str) == ("__debug__" : Str)) = false := by decide
theorem nc_cell : (("cell" : Str) == ("__classdict__" : Str)) = false := by decide
theorem nd_chosen : (("chosen" : Str) == ("__debug__" : Str)) = false := by decide
theorem nc_chosen : (("chosen" : Str) == ("__classdict__" : Str)) = false := by decide
theorem nd_count : (("count" : Str) == ("__debug__" : Str)) = false := by decide
theorem nc_count : (("count" : Str) == ("__classdict__" : Str)) = false := by decide
theorem nd_digit : (("digit" : Str) == ("__debug__" : Str)) = false := by decide
theorem nc_digit : (("digit" : Str) == ("__classdict__" : Str)) = false := by decide
theorem nd_divisor : (("divisor" : Str) == ("__debug__" : Str)) = false := by decide
theorem nc_divisor : (("divisor" : Str) == ("__classdict__" : Str)) = false := by decide
theorem nd_draw : (("draw" : Str) == ("__debug__" : Str)) = false := by decide
theorem nc_draw : (("draw" : Str) == ("__classdict__" : Str)) = false := by decide
theorem nd_due : (("due" : Str) == ("__debug__" : Str)) = false := by decide
theorem nc_due : (("due" : Str) == ("__classdict__" : Str)) = false := by decide
theorem nd_e : (("e" : Str) == ("__debug__" : Str)) = false := by decide
theorem nc_e : (("e" : Str) == ("__classdict__" : Str)) = false := by decide
theorem nd_factor : (("factor" : Str) == ("__debug__" : Str)) = false := by decide
theorem nc_factor : (("factor" : Str) == ("__classdict__" : Str)) = false := by decide
theorem nd_first : (("first" : Str) == ("__debug__" : Str)) = false := by decide
theorem nc_first : (("first" : Str) == ("__classdict__" : Str)) = false := by decide
theorem nd_firsts : (("firsts" : Str) == ("__debug__" : Str)) = false := by decide
theorem nc_firsts : (("firsts" : Str) == ("__classdict__" : Str)) = false := by decide
theorem nd_found : (("found" : Str) == ("__debug__" : Str)) = false := by decide
theorem nc_found : (("found" : Str) == ("__classdict__" : Str)) = false := by decide
theorem nd_given : (("given" : Str) == ("__debug__" : Str)) = false := by decide
theorem nc_given : (("given" : Str) == ("__classdict__" : Str)) = false := by decide
theorem nd_hand : (("hand" : Str) == ("__debug__" : Str)) = false := by decide
theorem nc_hand : (("hand" : Str) == ("__classdict__" : Str)) = false := by decide
theorem nd_high : (("high" : Str) == ("__debug__" : Str)) = false := by decide
theorem nc_high : (("high" : Str) == ("__classdict__" : Str)) = false := by decide
theorem nd_i : (("i" : Str) == ("__debug__" : Str)) = false := by decide
theorem nc_i : (("i" : Str) == ("__classdict__" : Str)) = false := by decide
theorem nd_index : (("index" : Str) == ("__debug__" : Str)) = false := by decide
theorem nc_index : (("index" : Str) == ("__classdict__" : Str)) = false := by decide
theorem nd_j : (("j" : Str) == ("__debug__" : Str)) = false := by decide
theorem nc_j : (("j" : Str) == ("__classdict__" : Str)) = false := by decide
theorem nd_k : (("k" : Str) == ("__debug__" : Str)) = false := by decide
theorem nc_k : (("k" : Str) == ("__classdict__" : Str)) = false := by decide
theorem nd_last : (("last" : Str) == ("__debug__" : Str)) = false := by decide
theorem nc_last : (("last" : Str) == ("__classdict__" : Str)) = false := by decide
theorem nd_lots : (("lots" : Str) == ("__debug__" : Str)) = false := by decide
theorem nc_lots : (("lots" : Str) == ("__classdict__" : Str)) = false := by decide
theorem nd_matrix : (("matrix" : Str) == ("__debug__" : Str)) = false := by decide
theorem nc_matrix : (("matrix" : Str) == ("__classdict__" : Str)) = false := by decide
theorem nd_more : (("more" : Str) == ("__debug__" : Str)) = false := by decide
theorem nc_more : (("more" : Str) == ("__classdict__" : Str)) = false := by decide
theorem nd_number : (("number" : Str) == ("__debug__" : Str)) = false := by decide
theorem nc_number : (("number" : Str) == ("__classdict__" : Str)) = false := by decide
theorem nd_numbers : (("numbers" : Str) == ("__debug__" : Str)) = false := by decide
theorem nc_numbers : (("numbers" : Str) == ("__classdict__" : Str)) = false := by decide
theorem nd_one : (("one" : Str) == ("__debug__" : Str)) = false := by decide
theorem nc_one : (("one" : Str) == ("__classdict__" : Str)) = false := by decide
theorem nd_others : (("others" : Str) == ("__debug__" : Str)) = false := by decide
theorem nc_others : (("others" : Str) == ("__classdict__" : Str)) = false := by decide
theorem nd_pads : (("pads" : Str) == ("__debug__" : Str)) = false := by decide
theorem nc_pads : (("pads" : Str) == ("__classdict__" : Str)) = false := by decide
theorem nd_pair : (("pair" : Str) == ("__debug__" : Str)) = false := by decide
theorem nc_pair : (("pair" : Str) == ("__classdict__" : Str)) = false := by decide
theorem nd_pairs : (("pairs" : Str) == ("__debug__" : Str)) = false := by decide
theorem nc_pairs : (("pairs" : Str) == ("__classdict__" : Str)) = false := by decide
theorem nd_parts : (("parts" : Str) == ("__debug__" : Str)) = false := by decide
theorem nc_parts : (("parts" : Str) == ("__classdict__" : Str)) = false := by decide
theorem nd_place : (("place" : Str) == ("__debug__" : Str)) = false := by decide
theorem nc_place : (("place" : Str) == ("__classdict__" : Str)) = false := by decide
theorem nd_prime : (("prime" : Str) == ("__debug__" : Str)) = false := by decide
theorem nc_prime : (("prime" : Str) == ("__classdict__" : Str)) = false := by decide
theorem nd_rest : (("rest" : Str) == ("__debug__" : Str)) = false := by decide
theorem nc_rest : (("rest" : Str) == ("__classdict__" : Str)) = false := by decide
theorem nd_row : (("row" : Str) == ("__debug__" : Str)) = false := by decide
theorem nc_row : (("row" : Str) == ("__classdict__" : Str)) = false := by decide
theorem nd_rows : (("rows" : Str) == ("__debug__" : Str)) = false := by decide
theorem nc_rows : (("rows" : Str) == ("__classdict__" : Str)) = false := by decide
theorem nd_script : (("script" : Str) == ("__debug__" : Str)) = false := by decide
theorem nc_script : (("script" : Str) == ("__classdict__" : Str)) = false := by decide
theorem nd_second : (("second" : Str) == ("__debug__" : Str)) = false := by decide
theorem nc_second : (("second" : Str) == ("__classdict__" : Str)) = false := by decide
theorem nd_seconds : (("seconds" : Str) == ("__debug__" : Str)) = false := by decide
theorem nc_seconds : (("seconds" : Str) == ("__classdict__" : Str)) = false := by decide
theorem nd_seed : (("seed" : Str) == ("__debug__" : Str)) = false := by decide
theorem nc_seed : (("seed" : Str) == ("__classdict__" : Str)) = false := by decide
theorem nd_self : (("self" : Str) == ("__debug__" : Str)) = false := by decide
theorem nc_self : (("self" : Str) == ("__classdict__" : Str)) = false := by decide
theorem nd_shape : (("shape" : Str) == ("__debug__" : Str)) = false := by decide
theorem nc_shape : (("shape" : Str) == ("__classdict__" : Str)) = false := by decide
theorem nd_size : (("size" : Str) == ("__debug__" : Str)) = false := by decide
theorem nc_size : (("size" : Str) == ("__classdict__" : Str)) = false := by decide
theorem nd_sizes : (("sizes" : Str) == ("__debug__" : Str)) = false := by decide
theorem nc_sizes : (("sizes" : Str) == ("__classdict__" : Str)) = false := by decide
theorem nd_table : (("table" : Str) == ("__debug__" : Str)) = false := by decide
theorem nc_table : (("table" : Str) == ("__classdict__" : Str)) = false := by decide
theorem nd_told : (("told" : Str) == ("__debug__" : Str)) = false := by decide
theorem nc_told : (("told" : Str) == ("__classdict__" : Str)) = false := by decide
theorem nd_total : (("total" : Str) == ("__debug__" : Str)) = false := by decide
theorem nc_total : (("total" : Str) == ("__classdict__" : Str)) = false := by decide
theorem nd_twice : (("twice" : Str) == ("__debug__" : Str)) = false := by decide
theorem nc_twice : (("twice" : Str) == ("__classdict__" : Str)) = false := by decide
theorem nd_two : (("two" : Str) == ("__debug__" : Str)) = false := by decide
theorem nc_two : (("two" : Str) == ("__classdict__" : Str)) = false := by decide
theorem nd_value : (("value" : Str) == ("__debug__" : Str)) = false := by decide
theorem nc_value : (("value" : Str) == ("__classdict__" : Str)) = false := by decide
theorem nd_weight : (("weight" : Str) == ("__debug__" : Str)) = false := by decide
theorem nc_weight : (("weight" : Str) == ("__classdict__" : Str)) = false := by decide
theorem nd_weights : (("weights" : Str) == ("__debug__" : Str)) = false := by decide
theorem nc_weights : (("weights" : Str) == ("__classdict__" : Str)) = false := by decide
theorem nd_wide : (("wide" : Str) == ("__debug__" : Str)) = false := by decide
theorem nc_wide : (("wide" : Str) == ("__classdict__" : Str)) = false := by decide
theorem nd_width : (("width" : Str) == ("__debug__" : Str)) = false := by decide
theorem nc_width : (("width" : Str) == ("__classdict__" : Str)) = false := by decide
theorem nd_x : (("x" : Str) == ("__debug__" : Str)) = false := by decide
theorem nc_x : (("x" : Str) == ("__classdict__" : Str)) = false := by decide
theorem nd_y : (("y" : Str) == ("__debug__" : Str)) = false := by decide
theorem nc_y : (("y" : Str) == ("__classdict__" : Str)) = false := by decide
abbrev st__law_digits : Stmt := top 26
abbrev N__law_digits : List Str := ["cell", "sizes", "row", "rest", "seed", "k", "size", "twice"]
theorem sc__law_digits : FnScope N__law_digits ["cell", "sizes"] (defScope st__law_digits) := ⟨rfl, rfl, rfl, by decide +kernel, rfl, by decide +kernel, by decide +kernel⟩
def d__law_digits : He.DefD := ⟨("_law_digits", none), "_law_digits", "_law_digits", defArgs st__law_digits, defBody st__law_digits, defScope st__law_digits, [], []⟩
def g__law_digits : SV := sSeq (sOwn 2 (aNil)) (sSeq (sSet 3 (e1 bInt (eVar 0))) (sSeq (sIf (tVal (e2 oGe (eVar 3) (e2 oPow (eC (.int 10)) (eC (.int 18))))) (sSeq (sSet 3 (e2 oSub (eVar 3) (e2 oPow (eC (.int 10)) (eC (.int 18))))) (sSeq (sFor (iSeq (eVar 1)) (gNm 6) (sSeq (sApp 2 (e2 oMod (e1 bInt (eVar 3)) (eVar 6))) (sSet 3 (e2 oDiv (e1 bInt (eVar 3)) (eVar 6))))) (sFrz 2 (sRet (eVar 2))))) (sNil)) (sSeq (sSet 4 (e2 oMod (e1 bInt (eVar 3)) (eC (.int 2147483629)))) (sSeq (sFor (iRng1 (e1 bLen (eVar 1))) (gNm 5) (sSeq (sSet 4 (e2 oMod (e1 bInt (e2 oAdd (e2 oAdd (e2 oMul (eVar 4) (eC (.int 48271))) (e2 oMul (eC (.int 974711)) (eVar 5))) (eC (.int 12345)))) (eC (.int 2147483647)))) (sSeq (sSet 7 (e2 oMod (e1 bInt (e2 oMul (eVar 4) (e2 oAdd (e2 oDiv (eVar 4) (eC (.int 65537))) (eC (.int 3))))) (eC (.int 2147483629)))) (sApp 2 (e2 oMod (e2 oDiv (eVar 7) (eC (.int 19))) (e2 oIx (eVar 1) (eVar 5))))))) (sFrz 2 (sRet (eVar 2)))))))
def f__law_digits : List D → Res D := defD 2 8 g__law_digits
abbrev st__law_cell : Stmt := top 25
abbrev N__law_cell : List Str := ["script", "k", "seed", "cell"]
theorem sc__law_cell : FnScope N__law_cell ["script", "k"] (defScope st__law_cell) := ⟨rfl, rfl, rfl, by decide +kernel, rfl, by decide +kernel, by decide +kernel⟩
def d__law_cell : He.DefD := ⟨("_law_cell", none), "_law_cell", "_law_cell", defArgs st__law_cell, defBody st__law_cell, defScope st__law_cell, [], []⟩
def g__law_cell : SV := sSeq (sIf (tVal (e2 oLt (eVar 1) (e1 bLen (eVar 0)))) (sRet (e2 oIx (eVar 0) (eVar 1))) (sNil)) (sSeq (sSet 2 (eC (.int 17))) (sSeq (sFor (iSeq (eVar 0)) (gNm 3) (sSet 2 (e2 oMod (e1 bInt (e2 oAdd (e2 oMul (eVar 2) (eC (.int 31))) (e2 oMod (e1 bInt (eVar 3)) (eC (.int 1000003))))) (eC (.int 1000003))))) (sRet (e2 oMod (e1 bInt (e2 oMul (e2 oMul (e2 oAdd (eVar 2) (eC (.int 7))) (e2 oAdd (eVar 1) (eC (.int 3)))) (eC (.int 69621)))) (eC (.int 2147483647))))))
def f__law_cell : List D → Res D := defD 2 4 g__law_cell
abbrev st__law_great_prime : Stmt := top 29
abbrev N__law_great_prime : List Str := ["digit"]
theorem sc__law_great_prime : FnScope N__law_great_prime ["digit"] (defScope st__law_great_prime) := ⟨rfl, rfl, rfl, by decide +kernel, rfl, by decide +kernel, by decide +kernel⟩
def d__law_great_prime : He.DefD := ⟨("_law_great_prime", none), "_law_great_prime", "_law_great_prime", defArgs st__law_great_prime, defBody st__law_great_prime, defScope st__law_great_prime, [], []⟩
def g__law_great_prime : SV := sRet (e2 oIx (eL (aCons (eC (.int 13)) (aCons (eC (.int 17)) (aCons (eC (.int 19)) (aCons (eC (.int 23)) (aCons (eC (.int 31)) (aCons (eC (.int 61)) (aCons (eC (.int 97)) (aCons (eC (.int 101)) (aCons (eC (.int 251)) (aCons (eC (.int 499)) (aCons (eC (.int 997)) (aNil))))))))))))) (e2 oMod (e1 bInt (eVar 0)) (eC (.int 11))))
def f__law_great_prime : List D → Res D := defD 1 1 g__law_great_prime
abbrev st__law_is_prime : Stmt := top 30
abbrev N__law_is_prime : List Str := ["value", "k"]
theorem sc__law_is_prime : FnScope N__law_is_prime ["value"] (defScope st__law_is_prime) := ⟨rfl, rfl, rfl, by decide +kernel, rfl, by decide +kernel, by decide +kernel⟩
def d__law_is_prime : He.DefD := ⟨("_law_is_prime", none), "_law_is_prime", "_law_is_prime", defArgs st__law_is_prime, defBody st__law_is_prime, defScope st__law_is_prime, [], []⟩
def g__law_is_prime : SV := sRet (eAnd (e2 oGe (eVar 0) (eC (.int 2))) (e2 oEq (e1 bLen (eL (lComp (iRng2 (eC (.int 2)) (eC (.int 32))) (gNm 1) (Pu.tAnd (tVal (e2 oLt (eVar 1) (eVar 0))) (tVal (e2 oEq (e2 oMod (e1 bInt (eVar 0)) (eVar 1)) (eC (.int 0))))) (eVar 1) [1]))) (eC (.int 0))))
def f__law_is_prime : List D → Res D := defD 1 2 g__law_is_prime
abbrev st__law_due : Stmt := top 31
abbrev N__law_due : List Str := ["prime", "lots", "others", "rows", "k"]
theorem sc__law_due : FnScope N__law_due ["prime", "lots", "others", "rows"] (defScope st__law_due) := ⟨rfl, rfl, rfl, by decide +kernel, rfl, by decide +kernel, by decide +kernel⟩
def d__law_due : He.DefD := ⟨("_law_due", none), "_law_due", "_law_due", defArgs st__law_due, defBody st__law_due, defScope st__law_due, [], []⟩
def g__law_due : SV := sSeq (sIf (Pu.tOr (Pu.tNot (tVal (eChain oLe oLe (eC (.int 2)) (eVar 0) (eC (.int 997))))) (Pu.tNot (tTruth (eCall f__law_is_prime (aCons (eVar 0) (aNil)))))) (sRet (eL (aCons (eC (.str "prime")) (aCons (eVar 0) (aCons (eC (.int 0)) (aNil)))))) (sNil)) (sSeq (sIf (Pu.tOr (Pu.tNot (tVal (eChain oLe oLe (eC (.int 1)) (eVar 1) (eC (.int 3))))) (Pu.tNot (tVal (eChain oLe oLe (eC (.int 1)) (eVar 2) (eC (.int 3)))))) (sRet (eL (aCons (eC (.str "size")) (aCons (eVar 1) (aCons (eVar 2) (aNil)))))) (sNil)) (sSeq (sIf (tVal (e2 oGt (e1 bLen (eVar 3)) (eC (.int 9)))) (sRet (eL (aCons (eC (.str "hands")) (aCons (e1 bLen (eVar 3)) (aCons (eC (.int 0)) (aNil)))))) (sNil)) (sSeq (sFor (iRng1 (e1 bLen (eVar 3))) (gNm 4) (sIf (Pu.tOr (tVal (e2 oNe (e1 bLen (e2 oIx (eVar 3) (eVar 4))) (eC (.int 2)))) (Pu.tOr (tVal (e2 oNe (e1 bLen (e2 oIx (e2 oIx (eVar 3) (eVar 4)) (eC (.int 0)))) (eVar 1))) (tVal (e2 oNe (e1 bLen (e2 oIx (e2 oIx (eVar 3) (eVar 4)) (eC (.int 1)))) (eVar 2))))) (sRet (eL (aCons (eC (.str "row")) (aCons (eVar 4) (aCons (eC (.int 0)) (aNil)))))) (sNil))) (sRet (eL (aNil))))))
def f__law_due : List D → Res D := defD 4 5 g__law_due
abbrev st_is_prime : Stmt := top 8
abbrev N_is_prime : List Str := ["value", "divisor"]
theorem sc_is_prime : FnScope N_is_prime ["value"] (defScope st_is_prime) := ⟨rfl, rfl, rfl, by decide +kernel, rfl, by decide +kernel, by decide +kernel⟩
def d_is_prime : He.DefD := ⟨("is_prime", none), "is_prime", "is_prime", defArgs st_is_prime, defBody st_is_prime, defScope st_is_prime, [], []⟩
def g_is_prime : SV := sSeq (sIf (tVal (e2 oLt (eVar 0) (eC (.int 2)))) (sRet (eC (.bl false))) (sNil)) (sSeq (sSet 1 (eC (.int 2))) (sSeq (sWhile 100000 (tVal (e2 oLe (e2 oMul (eVar 1) (eVar 1)) (eVar 0))) (sSeq (sIf (tVal (e2 oEq (e2 oMod (eVar 0) (eVar 1)) (eC (.int 0)))) (sRet (eC (.bl false))) (sNil)) (sAug 1 oAddI (eC (.int 1))))) (sRet (eC (.bl true)))))
def f_is_prime : List D → Res D := defD 1 2 g_is_prime
abbrev st_BadPrime : Stmt := inCls (top 2) 0
def d_BadPrime : He.DefD := ⟨("BadPrime", some "__init__"), "__init__", "BadPrime.__init__", defArgs st_BadPrime, defBody st_BadPrime, defScope st_BadPrime, [], []⟩
abbrev N_BadPrime : List Str := ["self", "prime"]
theorem sc_BadPrime : FnScope N_BadPrime ["self", "prime"] (defScope st_BadPrime) := ⟨rfl, rfl, rfl, by decide +kernel, rfl, by decide +kernel, by decide +kernel⟩
abbrev st_checked_prime : Stmt := top 9
abbrev N_checked_prime : List Str := ["prime"]
theorem sc_checked_prime : FnScope N_checked_prime ["prime"] (defScope st_checked_prime) := ⟨rfl, rfl, rfl, by decide +kernel, rfl, by decide +kernel, by decide +kernel⟩
def d_checked_prime : He.DefD := ⟨("checked_prime", none), "checked_prime", "checked_prime", defArgs st_checked_prime, defBody st_checked_prime, defScope st_checked_prime, [], []⟩
def g_checked_prime : SV := sSeq (sIf (Pu.tOr (tVal (e2 oLt (eVar 0) (eC (.int 2)))) (Pu.tOr (tVal (e2 oGt (eVar 0) (eC (.int 997)))) (Pu.tNot (tTruth (eCall f_is_prime (aCons (eVar 0) (aNil))))))) (sRaise "BadPrime" ["prime"] (aCons (eVar 0) (aNil))) (sNil)) (sRet (eVar 0))
def f_checked_prime : List D → Res D := defD 1 1 g_checked_prime
abbrev st_BadSize : Stmt := inCls (top 3) 0
def d_BadSize : He.DefD := ⟨("BadSize", some "__init__"), "__init__", "BadSize.__init__", defArgs st_BadSize, defBody st_BadSize, defScope st_BadSize, [], []⟩
abbrev N_BadSize : List Str := ["self", "lots", "pads"]
theorem sc_BadSize : FnScope N_BadSize ["self", "lots", "pads"] (defScope st_BadSize) := ⟨rfl, rfl, rfl, by decide +kernel, rfl, by decide +kernel, by decide +kernel⟩
abbrev st_TooManyHands : Stmt := inCls (top 4) 0
def d_TooManyHands : He.DefD := ⟨("TooManyHands", some "__init__"), "__init__", "TooManyHands.__init__", defArgs st_TooManyHands, defBody st_TooManyHands, defScope st_TooManyHands, [], []⟩
abbrev N_TooManyHands : List Str := ["self", "count"]
theorem sc_TooManyHands : FnScope N_TooManyHands ["self", "count"] (defScope st_TooManyHands) := ⟨rfl, rfl, rfl, by decide +kernel, rfl, by decide +kernel, by decide +kernel⟩
abbrev st_check_crossed : Stmt := top 18
abbrev N_check_crossed : List Str := ["prime", "lots", "others", "count"]
theorem sc_check_crossed : FnScope N_check_crossed ["prime", "lots", "others", "count"] (defScope st_check_crossed) := ⟨rfl, rfl, rfl, by decide +kernel, rfl, by decide +kernel, by decide +kernel⟩
def d_check_crossed : He.DefD := ⟨("check_crossed", none), "check_crossed", "check_crossed", defArgs st_check_crossed, defBody st_check_crossed, defScope st_check_crossed, [], []⟩
def g_check_crossed : SV := sSeq (sExpr (eCall f_checked_prime (aCons (eVar 0) (aNil)))) (sSeq (sIf (Pu.tOr (Pu.tNot (tVal (eChain oLe oLe (eC (.int 1)) (eVar 1) (eC (.int 3))))) (Pu.tNot (tVal (eChain oLe oLe (eC (.int 1)) (eVar 2) (eC (.int 3)))))) (sRaise "BadSize" ["lots", "pads"] (aCons (eVar 1) (aCons (eVar 2) (aNil)))) (sNil)) (sIf (tVal (e2 oGt (eVar 3) (eC (.int 9)))) (sRaise "TooManyHands" ["count"] (aCons (eVar 3) (aNil))) (sNil)))
def f_check_crossed : List D → Res D := defD 4 4 g_check_crossed
abbrev st_BadRow : Stmt := inCls (top 5) 0
def d_BadRow : He.DefD := ⟨("BadRow", some "__init__"), "__init__", "BadRow.__init__", defArgs st_BadRow, defBody st_BadRow, defScope st_BadRow, [], []⟩
abbrev N_BadRow : List Str := ["self", "index"]
theorem sc_BadRow : FnScope N_BadRow ["self", "index"] (defScope st_BadRow) := ⟨rfl, rfl, rfl, by decide +kernel, rfl, by decide +kernel, by decide +kernel⟩
abbrev st_reduced : Stmt := top 10
abbrev N_reduced : List Str := ["prime", "numbers", "number"]
theorem sc_reduced : FnScope N_reduced ["prime", "numbers"] (defScope st_reduced) := ⟨rfl, rfl, rfl, by decide +kernel, rfl, by decide +kernel, by decide +kernel⟩
def d_reduced : He.DefD := ⟨("reduced", none), "reduced", "reduced", defArgs st_reduced, defBody st_reduced, defScope st_reduced, [], []⟩
def g_reduced : SV := sRet (e1 bTuple (eL (lComp (iSeq (eVar 1)) (gNm 2) (tYes) (e2 oMod (eVar 2) (eVar 0)) [2])))
def f_reduced : List D → Res D := defD 2 3 g_reduced
abbrev st_CrossTable : Stmt := inCls (top 19) 0
def d_CrossTable : He.DefD := ⟨("CrossTable", some "__init__"), "__init__", "CrossTable.__init__", defArgs st_CrossTable, defBody st_CrossTable, defScope st_CrossTable, [], []⟩
abbrev N_CrossTable : List Str := ["self", "prime", "lots", "others", "rows", "at", "pair", "one", "two"]
theorem sc_CrossTable : FnScope N_CrossTable ["self", "prime", "lots", "others", "rows"] (defScope st_CrossTable) := ⟨rfl, rfl, rfl, by decide +kernel, rfl, by decide +kernel, by decide +kernel⟩
def g_CrossTable : SV := sSeq (sExpr (eCall f_check_crossed (aCons (eVar 1) (aCons (eVar 2) (aCons (eVar 3) (aCons (e1 bLen (eVar 4)) (aNil))))))) (sSeq (sFor (iEnum (eVar 4)) (gTu (gCn (gNm 5) (gCn (gNm 6) (gNl)))) (sIf (Pu.tOr (tVal (e2 oNe (e1 bLen (eVar 6)) (eC (.int 2)))) (Pu.tOr (tVal (e2 oNe (e1 bLen (e2 oIx (eVar 6) (eC (.int 0)))) (eVar 2))) (tVal (e2 oNe (e1 bLen (e2 oIx (eVar 6) (eC (.int 1)))) (eVar 3))))) (sRaise "BadRow" ["index"] (aCons (eVar 5) (aNil))) (sNil))) (sSeq (Pu.sFld ["CrossTable"] 0 "prime" (eVar 1)) (sSeq (Pu.sFld ["CrossTable"] 0 "lots" (eVar 2)) (sSeq (Pu.sFld ["CrossTable"] 0 "others" (eVar 3)) (sSeq (Pu.sFld ["CrossTable"] 0 "hands" (e1 bLen (eVar 4))) (Pu.sFld ["CrossTable"] 0 "rows" (e1 bTuple (eL (lComp (iSeq (eVar 4)) (gTu (gCn (gNm 7) (gCn (gNm 8) (gNl)))) (tYes) (eTup (aCons (eCall f_reduced (aCons (eVar 1) (aCons (eVar 7) (aNil)))) (aCons (eCall f_reduced (aCons (eVar 1) (aCons (eVar 8) (aNil)))) (aNil)))) [7, 8])))))))))
def f_CrossTable : List D → Res D := initD "CrossTable" 4 9 g_CrossTable
abbrev st__law_built : Stmt := top 32
abbrev N__law_built : List Str := ["prime", "lots", "others", "rows", "due", "e", "k", "table", "pair", "one"]
theorem sc__law_built : FnScope N__law_built ["prime", "lots", "others", "rows"] (defScope st__law_built) := ⟨rfl, rfl, rfl, by decide +kernel, rfl, by decide +kernel, by decide +kernel⟩
def d__law_built : He.DefD := ⟨("_law_built", none), "_law_built", "_law_built", defArgs st__law_built, defBody st__law_built, defScope st__law_built, [], []⟩
def g__law_built : SV := sSeq (sSet 4 (eCall f__law_due (aCons (eVar 0) (aCons (eVar 1) (aCons (eVar 2) (aCons (eVar 3) (aNil))))))) (sSeq (sTry 5 exm_HandsError (sSet 7 (eMake "CrossTable" f_CrossTable (aCons (eVar 0) (aCons (eVar 1) (aCons (eVar 2) (aCons (eVar 3) (aNil))))))) (sSeq (sIf (tVal (e2 oEq (eVar 4) (eL (aNil)))) (sRet (eC (.bl false))) (sNil)) (sSeq (sIf (tVal (e2 oEq (e2 oIx (eVar 4) (eC (.int 0))) (eC (.str "prime")))) (sRet (eAnd (eExnIs 5 sub_BadPrime) (e2 oEq (eExnFld ["BadPrime"] 5 "prime") (e2 oIx (eVar 4) (eC (.int 1)))))) (sNil)) (sSeq (sIf (tVal (e2 oEq (e2 oIx (eVar 4) (eC (.int 0))) (eC (.str "size")))) (sRet (eAnd (eExnIs 5 sub_BadSize) (eAnd (e2 oEq (eExnFld ["BadSize"] 5 "lots") (e2 oIx (eVar 4) (eC (.int 1)))) (e2 oEq (eExnFld ["BadSize"] 5 "pads") (e2 oIx (eVar 4) (eC (.int 2))))))) (sNil)) (sSeq (sIf (tVal (e2 oEq (e2 oIx (eVar 4) (eC (.int 0))) (eC (.str "hands")))) (sRet (eAnd (eExnIs 5 sub_TooManyHands) (e2 oEq (eExnFld ["TooManyHands"] 5 "count") (e2 oIx (eVar 4) (eC (.int 1)))))) (sNil)) (sRet (eAnd (eExnIs 5 sub_BadRow) (e2 oEq (eExnFld ["BadRow"] 5 "index") (e2 oIx (eVar 4) (eC (.int 1))))))))))) (sSeq (sIf (Pu.tOr (tVal (e2 oNe (eVar 4) (eL (aNil)))) (Pu.tOr (tVal (e2 oNe (eFld ["CrossTable"] "prime" (eVar 7)) (eVar 0))) (Pu.tOr (tVal (e2 oNe (eFld ["CrossTable"] "lots" (eVar 7)) (eVar 1))) (tVal (e2 oNe (eFld ["CrossTable"] "others" (eVar 7)) (eVar 2)))))) (sRet (eC (.bl false))) (sNil)) (sSeq (sIf (Pu.tOr (Pu.tNot (tTruth (e1 bIsTuple (eFld ["CrossTable"] "rows" (eVar 7))))) (tVal (e2 oNe (eFld ["CrossTable"] "hands" (eVar 7)) (e1 bLen (eVar 3))))) (sRet (eC (.bl false))) (sNil)) (sSeq (sFor (iRng1 (e1 bLen (eVar 3))) (gNm 6) (sSeq (sSet 8 (eTup (aCons (e1 bTuple (eL (lComp (iSeq (e2 oIx (e2 oIx (eVar 3) (eVar 6)) (eC (.int 0)))) (gNm 9) (tYes) (e2 oMod (e1 bInt (eVar 9)) (eVar 0)) [9]))) (aCons (e1 bTuple (eL (lComp (iSeq (e2 oIx (e2 oIx (eVar 3) (eVar 6)) (eC (.int 1)))) (gNm 9) (tYes) (e2 oMod (e1 bInt (eVar 9)) (eVar 0)) [9]))) (aNil))))) (sIf (tVal (e2 oNe (e2 oIx (eFld ["CrossTable"] "rows" (eVar 7)) (eVar 6)) (eVar 8))) (sRet (eC (.bl false))) (sNil)))) (sRet (eC (.bl true)))))))
def f__law_built : List D → Res D := defD 4 10 g__law_built
abbrev st_zero_row : Stmt := top 14
abbrev N_zero_row : List Str := ["width", "_"]
theorem sc_zero_row : FnScope N_zero_row ["width"] (defScope st_zero_row) := ⟨rfl, rfl, rfl, by decide +kernel, rfl, by decide +kernel, by decide +kernel⟩
def d_zero_row : He.DefD := ⟨("zero_row", none), "zero_row", "zero_row", defArgs st_zero_row, defBody st_zero_row, defScope st_zero_row, [], []⟩
def g_zero_row : SV := sRet (e1 bTuple (eL (lComp (iRng1 (eVar 0)) (gNm 1) (tYes) (eC (.int 0)) [1])))
def f_zero_row : List D → Res D := defD 1 2 g_zero_row
abbrev st_lessened : Stmt := top 12
abbrev N_lessened : List Str := ["prime", "one", "factor", "two", "first", "second"]
theorem sc_lessened : FnScope N_lessened ["prime", "one", "factor", "two"] (defScope st_lessened) := ⟨rfl, rfl, rfl, by decide +kernel, rfl, by decide +kernel, by decide +kernel⟩
def d_lessened : He.DefD := ⟨("lessened", none), "lessened", "lessened", defArgs st_lessened, defBody st_lessened, defScope st_lessened, [], []⟩
def g_lessened : SV := sRet (e1 bTuple (eL (lComp (iZip (eVar 1) (eVar 3)) (gTu (gCn (gNm 4) (gCn (gNm 5) (gNl)))) (tYes) (e2 oMod (e2 oSub (eVar 4) (e2 oMul (eVar 2) (eVar 5))) (eVar 0)) [4, 5])))
def f_lessened : List D → Res D := defD 4 6 g_lessened
abbrev st_combined : Stmt := top 13
abbrev N_combined : List Str := ["prime", "width", "weights", "rows", "total", "weight", "row"]
theorem sc_combined : FnScope N_combined ["prime", "width", "weights", "rows"] (defScope st_combined) := ⟨rfl, rfl, rfl, by decide +kernel, rfl, by decide +kernel, by decide +kernel⟩
def d_combined : He.DefD := ⟨("combined", none), "combined", "combined", defArgs st_combined, defBody st_combined, defScope st_combined, [], []⟩
def g_combined : SV := sSeq (sSet 4 (eCall f_zero_row (aCons (eVar 1) (aNil)))) (sSeq (sFor (iZip (eVar 2) (eVar 3)) (gTu (gCn (gNm 5) (gCn (gNm 6) (gNl)))) (sIf (tVal (e2 oNe (e2 oMod (eVar 5) (eVar 0)) (eC (.int 0)))) (sSet 4 (eCall f_lessened (aCons (eVar 0) (aCons (eVar 4) (aCons (e1 oNeg (eVar 5)) (aCons (eVar 6) (aNil))))))) (sNil))) (sRet (eVar 4)))
def f_combined : List D → Res D := defD 4 7 g_combined
abbrev st_cross_answer : Stmt := top 21
abbrev N_cross_answer : List Str := ["prime", "matrix", "x", "y", "parts", "at", "row", "place", "number"]
theorem sc_cross_answer : FnScope N_cross_answer ["prime", "matrix", "x", "y"] (defScope st_cross_answer) := ⟨rfl, rfl, rfl, by decide +kernel, rfl, by decide +kernel, by decide +kernel⟩
def d_cross_answer : He.DefD := ⟨("cross_answer", none), "cross_answer", "cross_answer", defArgs st_cross_answer, defBody st_cross_answer, defScope st_cross_answer, [], []⟩
def g_cross_answer : SV := sSeq (sSet 4 (eL (lComp2 (iEnum (eVar 1)) (gTu (gCn (gNm 5) (gCn (gNm 6) (gNl)))) (tYes) (iEnum (eVar 6)) (gTu (gCn (gNm 7) (gCn (gNm 8) (gNl)))) (tYes) (e2 oMul (e2 oMul (eVar 8) (e2 oIx (eVar 2) (eVar 5))) (e2 oIx (eVar 3) (eVar 7))) [5, 6, 7, 8] [7, 8]))) (sRet (e2 oMod (e1 bSum (eVar 4)) (eVar 0)))
def f_cross_answer : List D → Res D := defD 4 9 g_cross_answer
abbrev st_cross_answers : Stmt := top 22
abbrev N_cross_answers : List Str := ["table", "matrix", "firsts", "seconds", "found", "one", "two", "x", "y"]
theorem sc_cross_answers : FnScope N_cross_answers ["table", "matrix", "firsts", "seconds"] (defScope st_cross_answers) := ⟨rfl, rfl, rfl, by decide +kernel, rfl, by decide +kernel, by decide +kernel⟩
def d_cross_answers : He.DefD := ⟨("cross_answers", none), "cross_answers", "cross_answers", defArgs st_cross_answers, defBody st_cross_answers, defScope st_cross_answers, [], []⟩
def g_cross_answers : SV := sSeq (sOwn 4 (aNil)) (sSeq (sFor (iSeq (eFld ["CrossTable"] "rows" (eVar 0))) (gTu (gCn (gNm 5) (gCn (gNm 6) (gNl)))) (sSeq (sSet 7 (eCall f_combined (aCons (eFld ["CrossTable"] "prime" (eVar 0)) (aCons (e1 bLen (e2 oIx (eVar 2) (eC (.int 0)))) (aCons (eVar 5) (aCons (eVar 2) (aNil))))))) (sSeq (sSet 8 (eCall f_combined (aCons (eFld ["CrossTable"] "prime" (eVar 0)) (aCons (e1 bLen (e2 oIx (eVar 3) (eC (.int 0)))) (aCons (eVar 6) (aCons (eVar 3) (aNil))))))) (sApp 4 (eCall f_cross_answer (aCons (eFld ["CrossTable"] "prime" (eVar 0)) (aCons (eVar 1) (aCons (eVar 7) (aCons (eVar 8) (aNil)))))))))) (sRet (e1 bTuple (ePeek 4))))
def f_cross_answers : List D → Res D := defD 4 9 g_cross_answers
abbrev st__law_whole : Stmt := top 24
abbrev N__law_whole : List Str := ["value"]
theorem sc__law_whole : FnScope N__law_whole ["value"] (defScope st__law_whole) := ⟨rfl, rfl, rfl, by decide +kernel, rfl, by decide +kernel, by decide +kernel⟩
def d__law_whole : He.DefD := ⟨("_law_whole", none), "_law_whole", "_law_whole", defArgs st__law_whole, defBody st__law_whole, defScope st__law_whole, [], []⟩
def g__law_whole : SV := sRet (eAnd (e1 bIsInt (eVar 0)) (eNot (e1 bIsBool (eVar 0))))
def f__law_whole : List D → Res D := defD 1 1 g__law_whole
abbrev st__law_residues : Stmt := top 27
abbrev N__law_residues : List Str := ["prime", "value", "size", "one"]
theorem sc__law_residues : FnScope N__law_residues ["prime", "value", "size"] (defScope st__law_residues) := ⟨rfl, rfl, rfl, by decide +kernel, rfl, by decide +kernel, by decide +kernel⟩
def d__law_residues : He.DefD := ⟨("_law_residues", none), "_law_residues", "_law_residues", defArgs st__law_residues, defBody st__law_residues, defScope st__law_residues, [], []⟩
def g__law_residues : SV := sSeq (sIf (Pu.tOr (Pu.tNot (tTruth (e1 bIsTuple (eVar 1)))) (tVal (e2 oNe (e1 bLen (eVar 1)) (eVar 2)))) (sRet (eC (.bl false))) (sNil)) (sSeq (sFor (iSeq (eVar 1)) (gNm 3) (sIf (Pu.tOr (Pu.tNot (tTruth (eCall f__law_whole (aCons (eVar 3) (aNil))))) (Pu.tNot (tVal (eChain oLe oLt (eC (.int 0)) (eVar 3) (eVar 0))))) (sRet (eC (.bl false))) (sNil))) (sRet (eC (.bl true))))
def f__law_residues : List D → Res D := defD 3 4 g__law_residues
abbrev st__law_sum : Stmt := top 28
abbrev N__law_sum : List Str := ["prime", "width", "weights", "rows", "total", "at", "k"]
theorem sc__law_sum : FnScope N__law_sum ["prime", "width", "weights", "rows"] (defScope st__law_sum) := ⟨rfl, rfl, rfl, by decide +kernel, rfl, by decide +kernel, by decide +kernel⟩
def d__law_sum : He.DefD := ⟨("_law_sum", none), "_law_sum", "_law_sum", defArgs st__law_sum, defBody st__law_sum, defScope st__law_sum, [], []⟩
def g__law_sum : SV := sSeq (sSet 4 (eL (lComp (iRng1 (eVar 1)) (gNm 6) (tYes) (eC (.int 0)) [6]))) (sSeq (sFor (iRng1 (e1 bLen (eVar 3))) (gNm 5) (sSet 4 (eL (lComp (iRng1 (eVar 1)) (gNm 6) (tYes) (e2 oMod (e1 bInt (e2 oAdd (e2 oIx (eVar 4) (eVar 6)) (e2 oMul (e1 bInt (e2 oIx (eVar 2) (eVar 5))) (e2 oIx (e2 oIx (eVar 3) (eVar 5)) (eVar 6))))) (eVar 0)) [6])))) (sRet (eVar 4)))
def f__law_sum : List D → Res D := defD 4 7 g__law_sum
abbrev st__law_product : Stmt := top 33
abbrev N__law_product : List Str := ["prime", "matrix", "x", "y", "total", "a", "b"]
theorem sc__law_product : FnScope N__law_product ["prime", "matrix", "x", "y"] (defScope st__law_product) := ⟨rfl, rfl, rfl, by decide +kernel, rfl, by decide +kernel, by decide +kernel⟩
def d__law_product : He.DefD := ⟨("_law_product", none), "_law_product", "_law_product", defArgs st__law_product, defBody st__law_product, defScope st__law_product, [], []⟩
def g__law_product : SV := sSeq (sSet 4 (eC (.int 0))) (sSeq (sFor (iRng1 (e1 bLen (eVar 1))) (gNm 5) (sFor (iRng1 (e1 bLen (e2 oIx (eVar 1) (eVar 5)))) (gNm 6) (sSet 4 (e2 oMod (e1 bInt (e2 oAdd (eVar 4) (e2 oMul (e2 oMul (e2 oIx (e2 oIx (eVar 1) (eVar 5)) (eVar 6)) (e2 oIx (eVar 2) (eVar 5))) (e2 oIx (eVar 3) (eVar 6))))) (eVar 0))))) (sRet (eVar 4)))
def f__law_product : List D → Res D := defD 4 7 g__law_product
abbrev st_crossed : Stmt := top 20
abbrev N_crossed : List Str := ["prime", "one", "two", "first", "second"]
theorem sc_crossed : FnScope N_crossed ["prime", "one", "two"] (defScope st_crossed) := ⟨rfl, rfl, rfl, by decide +kernel, rfl, by decide +kernel, by decide +kernel⟩
def d_crossed : He.DefD := ⟨("crossed", none), "crossed", "crossed", defArgs st_crossed, defBody st_crossed, defScope st_crossed, [], []⟩
def g_crossed : SV := sRet (e1 bTuple (eL (lComp2 (iSeq (eVar 1)) (gNm 3) (tYes) (iSeq (eVar 2)) (gNm 4) (tYes) (e2 oMod (e2 oMul (eVar 3) (eVar 4)) (eVar 0)) [3, 4] [4])))
def f_crossed : List D → Res D := defD 3 5 g_crossed
abbrev st_law : Stmt := top 34
abbrev N_law : List Str := (("script" : Str) :: ("draw" : Str) :: ("prime" : Str) :: ("lots" : Str) :: ("others" : Str) :: ("numbers" : Str) :: ("rows" : Str) :: ("hand" : Str) :: ("bad" : Str) :: ("shape" : Str) :: ("chosen" : Str) :: ("given" : Str) :: ("table" : Str) :: ("pair" : Str) :: ("high" : Str) :: ("wide" : Str) :: ("more" : Str) :: ("matrix" : Str) :: ("last" : Str) :: ("firsts" : Str) :: ("seconds" : Str) :: ("told" : Str) :: ("one" : Str) :: ("two" : Str) :: ("x" : Str) :: ("y" : Str) :: ("pairs" : Str) :: ("a" : Str) :: ("b" : Str) :: ("i" : Str) :: ("k" : Str) :: ("j" : Str) :: ("row" : Str) :: [])
theorem sc_law : FnScope N_law ["script"] (defScope st_law) := ⟨rfl, rfl, rfl, by decide +kernel, rfl, by decide +kernel, by decide +kernel⟩
def d_law : He.DefD := ⟨("law", none), "law", "law", defArgs st_law, defBody st_law, defScope st_law, [], []⟩
def g_law : SV := sSeq (sSet 1 (eCall f__law_digits (aCons (eCall f__law_cell (aCons (eVar 0) (aCons (eC (.int 0)) (aNil)))) (aCons (eL (aCons (eC (.int 11)) (aCons (eC (.int 3)) (aCons (eC (.int 3)) (aCons (eC (.int 10)) (aCons (eC (.int 12)) (aCons (eC (.int 6)) (aCons (eC (.int 6)) (aCons (eC (.int 7)) (aCons (eC (.int 9)) (aNil))))))))))) (aNil))))) (sSeq (sSet 2 (eCall f__law_great_prime (aCons (e2 oIx (eVar 1) (eC (.int 0))) (aNil)))) (sSeq (sSet 3 (e2 oAdd (eC (.int 1)) (e2 oIx (eVar 1) (eC (.int 1))))) (sSeq (sSet 4 (e2 oAdd (eC (.int 1)) (e2 oIx (eVar 1) (eC (.int 2))))) (sSeq (sSet 5 (eCall f__law_digits (aCons (eCall f__law_cell (aCons (eVar 0) (aCons (eC (.int 1)) (aNil)))) (aCons (eL (lComp (iRng1 (eC (.int 60))) (gNm 30) (tYes) (eC (.int 1994)) [30])) (aNil))))) (sSeq (sOwn 6 (aNil)) (sSeq (sFor (iRng1 (e2 oIx (eVar 1) (eC (.int 3)))) (gNm 7) (sSeq (sSet 22 (eL (lComp (iRng1 (eVar 3)) (gNm 30) (tYes) (e2 oSub (e2 oIx (eVar 5) (e2 oMod (e2 oAdd (e2 oMul (eC (.int 6)) (eVar 7)) (eVar 30)) (eC (.int 60)))) (eC (.int 997))) [30]))) (sSeq (sSet 23 (eL (lComp (iRng1 (eVar 4)) (gNm 30) (tYes) (e2 oSub (e2 oIx (eVar 5) (e2 oMod (e2 oAdd (e2 oAdd (e2 oMul (eC (.int 6)) (eVar 7)) (eC (.int 3))) (eVar 30)) (eC (.int 60)))) (eC (.int 997))) [30]))) (sApp 6 (eL (aCons (eVar 22) (aCons (eVar 23) (aNil)))))))) (sSeq (sOwn 8 (lComp (iSeq (ePeek 6)) (gNm 13) (tYes) (e1 bList (eVar 13)) [13])) (sSeq (sIf (Pu.tAnd (tVal (e2 oEq (e2 oIx (eVar 1) (eC (.int 7))) (eC (.int 0)))) (tVal (e2 oGt (e1 bLen (ePeek 8)) (eC (.int 0))))) (sSto 8 (e2 oMod (e2 oIx (eVar 1) (eC (.int 8))) (e1 bLen (ePeek 8))) (eL (aCons (e2 oAdd (e2 oIx (e2 oIx (ePeek 8) (eC (.int 0))) (eC (.int 0))) (eL (aCons (eC (.int 1)) (aNil)))) (aCons (e2 oIx (e2 oIx (ePeek 8) (eC (.int 0))) (eC (.int 1))) (aNil))))) (sNil)) (sSeq (sIf (Pu.tAnd (tVal (e2 oEq (e2 oIx (eVar 1) (eC (.int 7))) (eC (.int 1)))) (tVal (e2 oGt (e1 bLen (ePeek 8)) (eC (.int 0))))) (sSto 8 (e2 oMod (e2 oIx (eVar 1) (eC (.int 8))) (e1 bLen (ePeek 8))) (eL (aCons (e2 oIx (e2 oIx (ePeek 8) (eC (.int 0))) (eC (.int 0))) (aCons (eSlice (e2 oIx (e2 oIx (ePeek 8) (eC (.int 0))) (eC (.int 1))) (pSome (eC (.int 1))) (pNone)) (aNil))))) (sNil)) (sSeq (sIf (Pu.tAnd (tVal (e2 oEq (e2 oIx (eVar 1) (eC (.int 7))) (eC (.int 2)))) (tVal (e2 oGt (e1 bLen (ePeek 8)) (eC (.int 0))))) (sSto 8 (e2 oMod (e2 oIx (eVar 1) (eC (.int 8))) (e1 bLen (ePeek 8))) (eL (aCons (e2 oIx (e2 oIx (ePeek 8) (eC (.int 0))) (eC (.int 0))) (aCons (e2 oIx (e2 oIx (ePeek 8) (eC (.int 0))) (eC (.int 1))) (aCons (e2 oIx (e2 oIx (ePeek 8) (eC (.int 0))) (eC (.int 1))) (aNil)))))) (sNil)) (sSeq (sIf (tVal (e2 oEq (e2 oIx (eVar 1) (eC (.int 7))) (eC (.int 3)))) (sOwn 8 (lSl (e2 oAdd (ePeek 8) (e2 oMul (eL (aCons (eL (aCons (eL (lComp (iRng1 (eVar 3)) (gNm 30) (tYes) (eC (.int 1)) [30])) (aCons (eL (lComp (iRng1 (eVar 4)) (gNm 30) (tYes) (eC (.int 1)) [30])) (aNil)))) (aNil))) (eC (.int 10)))) (pNone) (pSome (e2 oAdd (eC (.int 9)) (e2 oMod (e2 oIx (eVar 1) (eC (.int 8))) (eC (.int 3))))))) (sNil)) (sSeq (sSet 9 (eL (aCons (eL (aCons (eVar 2) (aCons (eVar 3) (aCons (eVar 4) (aNil))))) (aCons (eL (aCons (eC (.int 1)) (aCons (eVar 3) (aCons (eVar 4) (aNil))))) (aCons (eL (aCons (eC (.int 999)) (aCons (eVar 3) (aCons (eVar 4) (aNil))))) (aCons (eL (aCons (eVar 2) (aCons (eC (.int 0)) (aCons (eVar 4) (aNil))))) (aCons (eL (aCons (eVar 2) (aCons (eVar 3) (aCons (eC (.int 4)) (aNil))))) (aCons (eL (aCons (eVar 2) (aCons (eC (.int 4)) (aCons (eC (.int 0)) (aNil))))) (aCons (eL (aCons (eC (.int 4)) (aCons (eC (.int 4)) (aCons (eC (.int 4)) (aNil))))) (aNil)))))))))) (sSeq (sSet 10 (e2 oIx (e2 oAdd (eVar 9) (e2 oMul (eL (aCons (eL (aCons (eVar 2) (aCons (eVar 3) (aCons (eVar 4) (aNil))))) (aNil))) (eC (.int 5)))) (e2 oIx (eVar 1) (eC (.int 4))))) (sFrz 6 (sFrz 8 (sSeq (sIf (Pu.tOr (Pu.tNot (tTruth (eCall f__law_built (aCons (e2 oIx (eVar 10) (eC (.int 0))) (aCons (e2 oIx (eVar 10) (eC (.int 1))) (aCons (e2 oIx (eVar 10) (eC (.int 2))) (aCons (eVar 8) (aNil)))))))) (Pu.tNot (tTruth (eCall f__law_built (aCons (eVar 2) (aCons (eVar 3) (aCons (eVar 4) (aCons (eVar 6) (aNil))))))))) (sRet (eC (.bl false))) (sNil)) (sScratch 11 12 13 (lComp (iSeq (ePeek 6)) (gNm 13) (tYes) (eL (aCons (eN (lSeq (e2 oIx (eVar 13) (eC (.int 0))))) (aCons (eN (lSeq (e2 oIx (eVar 13) (eC (.int 1))))) (aNil)))) [13]) (eMake "CrossTable" f_CrossTable (aCons (eVar 2) (aCons (eVar 3) (aCons (eVar 4) (aCons (eVar 11) (aNil)))))) (sSeq (sSet 14 (e2 oAdd (eC (.int 1)) (e2 oIx (eVar 1) (eC (.int 5))))) (sSeq (sSet 15 (e2 oAdd (eC (.int 1)) (e2 oIx (eVar 1) (eC (.int 6))))) (sSeq (sSet 16 (eCall f__law_digits (aCons (eCall f__law_cell (aCons (eVar 0) (aCons (eC (.int 2)) (aNil)))) (aCons (eL (lComp (iRng1 (eC (.int 60))) (gNm 30) (tYes) (eC (.int 1994)) [30])) (aNil))))) (sSeq (sSet 17 (eL (lComp (iRng1 (eVar 14)) (gNm 27) (tYes) (eL (lComp (iRng1 (eVar 15)) (gNm 28) (tYes) (e2 oSub (e2 oIx (eVar 16) (e2 oMod (e2 oAdd (e2 oMul (eVar 15) (eVar 27)) (eVar 28)) (eC (.int 60)))) (eC (.int 997))) [28])) [27]))) (sSeq (sSet 18 (eCall f__law_digits (aCons (eCall f__law_cell (aCons (eVar 0) (aCons (eC (.int 3)) (aNil)))) (aCons (eL (lComp (iRng1 (eC (.int 60))) (gNm 30) (tYes) (eC (.int 1994)) [30])) (aNil))))) (sSeq (sSet 19 (eL (lComp (iRng1 (eVar 3)) (gNm 29) (tYes) (eL (lComp (iRng1 (eVar 14)) (gNm 30) (tYes) (e2 oSub (e2 oIx (eVar 18) (e2 oMod (e2 oAdd (e2 oMul (eVar 14) (eVar 29)) (eVar 30)) (eC (.int 60)))) (eC (.int 997))) [30])) [29]))) (sSeq (sSet 20 (eL (lComp (iRng1 (eVar 4)) (gNm 31) (tYes) (eL (lComp (iRng1 (eVar 15)) (gNm 30) (tYes) (e2 oSub (e2 oIx (eVar 18) (e2 oMod (e2 oSub (e2 oSub (eC (.int 59)) (e2 oMul (eVar 15) (eVar 31))) (eVar 30)) (eC (.int 60)))) (eC (.int 997))) [30])) [31]))) (sSeq (sSet 21 (eCall f_cross_answers (aCons (eVar 12) (aCons (eL (lComp (iSeq (eVar 17)) (gNm 32) (tYes) (e1 bList (eVar 32)) [32])) (aCons (eL (lComp (iSeq (eVar 19)) (gNm 32) (tYes) (e1 bList (eVar 32)) [32])) (aCons (eL (lComp (iSeq (eVar 20)) (gNm 32) (tYes) (e1 bTuple (eVar 32)) [32])) (aNil))))))) (sSeq (sIf (Pu.tNot (tTruth (eCall f__law_residues (aCons (eVar 2) (aCons (eVar 21) (aCons (e1 bLen (ePeek 6)) (aNil))))))) (sRet (eC (.bl false))) (sNil)) (sSeq (sFor (iRng1 (e1 bLen (ePeek 6))) (gNm 7) (sSeq (sSet 24 (eCall f__law_sum (aCons (eVar 2) (aCons (eVar 14) (aCons (e2 oIx (e2 oIx (ePeek 6) (eVar 7)) (eC (.int 0))) (aCons (eVar 19) (aNil))))))) (sSeq (sSet 25 (eCall f__law_sum (aCons (eVar 2) (aCons (eVar 15) (aCons (e2 oIx (e2 oIx (ePeek 6) (eVar 7)) (eC (.int 1))) (aCons (eVar 20) (aNil))))))) (sSeq (sIf (Pu.tOr (tVal (e2 oNe (e2 oIx (eVar 21) (eVar 7)) (eCall f__law_product (aCons (eVar 2) (aCons (eVar 17) (aCons (eVar 24) (aCons (eVar 25) (aNil)))))))) (tVal (e2 oNe (eCall f_cross_answer (aCons (eVar 2) (aCons (eVar 17) (aCons (eVar 24) (aCons (e1 bTuple (eVar 25)) (aNil)))))) (e2 oIx (eVar 21) (eVar 7))))) (sRet (eC (.bl false))) (sNil)) (sSeq (sSet 26 (eCall f_crossed (aCons (eVar 2) (aCons (e2 oIx (e2 oIx (ePeek 6) (eVar 7)) (eC (.int 0))) (aCons (e2 oIx (e2 oIx (ePeek 6) (eVar 7)) (eC (.int 1))) (aNil)))))) (sIf (tVal (e2 oNe (eVar 26) (e1 bTuple (eL (lComp (iRng1 (e2 oMul (eVar 3) (eVar 4))) (gNm 30) (tYes) (e2 oMod (e1 bInt (e2 oMul (e2 oIx (e2 oIx (e2 oIx (ePeek 6) (eVar 7)) (eC (.int 0))) (e2 oDiv (eVar 30) (eVar 4))) (e2 oIx (e2 oIx (e2 oIx (ePeek 6) (eVar 7)) (eC (.int 1))) (e2 oMod (eVar 30) (eVar 4))))) (eVar 2)) [30]))))) (sRet (eC (.bl false))) (sNil))))))) (sRet (eC (.bl true))))))))))))))))))))))))))))))
def f_law : List D → Res D := defD 1 33 g_law
def fa : List He.Fa := [.free "int",
  .free "len",
  .free "range",
  .glo "_law_digits",
  .glo "_law_cell",
  .glo "_law_great_prime",
  .free "list",
  .glo "_law_is_prime",
  .glo "_law_due",
  .int "GREATEST_PRIME" 997,
  .glo "is_prime",
  .noat "BadPrime" "prime",
  .meth "BadPrime" "__init__",
  .glo "BadPrime",
  .glo "checked_prime",
  .int "MOST_CROSSED" 3,
  .noat "BadSize" "pads",
  .noat "BadSize" "lots",
  .meth "BadSize" "__init__",
  .glo "BadSize",
  .int "MOST_HANDS" 9,
  .noat "TooManyHands" "count",
  .meth "TooManyHands" "__init__",
  .glo "TooManyHands",
  .glo "check_crossed",
  .free "enumerate",
  .noat "BadRow" "index",
  .meth "BadRow" "__init__",
  .glo "BadRow",
  .cls "CrossTable",
  .noat "CrossTable" "prime",
  .noat "CrossTable" "lots",
  .noat "CrossTable" "others",
  .noat "CrossTable" "hands",
  .noat "CrossTable" "rows",
  .free "tuple",
  .glo "reduced",
  .mkr "CrossTable",
  .glo "CrossTable",
  .exm "BadPrime" "HandsError" true,
  .exm "BadRow" "HandsError" true,
  .exm "BadSize" "HandsError" true,
  .exm "HandsError" "HandsError" true,
  .exm "TooManyHands" "HandsError" true,
  .glo "HandsError",
  .free "isinstance",
  .glo "_law_built",
  .glo "zero_row",
  .free "zip",
  .glo "lessened",
  .glo "combined",
  .free "sum",
  .glo "cross_answer",
  .glo "cross_answers",
  .free "bool",
  .glo "_law_whole",
  .glo "_law_residues",
  .glo "_law_sum",
  .glo "_law_product",
  .glo "crossed",
  .glo "law"]
def fn : List He.DefD := [d__law_digits, d__law_cell, d__law_great_prime, d__law_is_prime, d__law_due, d_CrossTable, d_is_prime, d_BadPrime, d_checked_prime, d_BadSize, d_TooManyHands, d_check_crossed, d_BadRow, d_reduced, d__law_built, d_zero_row, d_lessened, d_combined, d_cross_answer, d_cross_answers, d__law_whole, d__law_residues, d__law_sum, d__law_product, d_crossed, d_law]
def fp : List Fp := [.oex "BadPrime", .oex "BadSize", .oex "TooManyHands", .oex "BadRow", .exc "BadPrime", .kit "BadPrime" "BadPrime" true, .exc "BadRow", .kit "BadRow" "BadPrime" false, .exc "BadSize", .kit "BadSize" "BadPrime" false, .exc "HandsError", .kit "HandsError" "BadPrime" false, .exc "TooManyHands", .kit "TooManyHands" "BadPrime" false, .xf "BadPrime", .kit "BadPrime" "BadSize" false, .kit "BadRow" "BadSize" false, .kit "BadSize" "BadSize" true, .kit "HandsError" "BadSize" false, .kit "TooManyHands" "BadSize" false, .xf "BadSize", .kit "BadPrime" "TooManyHands" false, .kit "BadRow" "TooManyHands" false, .kit "BadSize" "TooManyHands" false, .kit "HandsError" "TooManyHands" false, .kit "TooManyHands" "TooManyHands" true, .xf "TooManyHands", .kit "BadPrime" "BadRow" false, .kit "BadRow" "BadRow" true, .kit "BadSize" "BadRow" false, .kit "HandsError" "BadRow" false, .kit "TooManyHands" "BadRow" false, .xf "BadRow"]
abbrev WD (K : PySem.W.Frag) (mg : Str → Option Value) (base : Heap) : Prop := Wd fa fn fp K mg base
section
variable {P : Program} {w : World} {K : PySem.W.Frag} {mg : Str → Option Value} {base : Heap}
theorem sub_BadPrime_ok (V : WD K mg base) (C : Str) (b : Bool) (h : sub_BadPrime C = some b) : ExcC K (ga K C) ∧ PySem.W.kitOne K (.ref (ga K C)) (.ref (ga K "BadPrime")) = some b := by
  unfold sub_BadPrime at h
  by_cases e0 : C = "BadPrime"
  · rw [if_pos e0] at h
    cases h
    subst e0
    exact ⟨V.exc 4, V.kit 5⟩
  rw [if_neg e0] at h
  by_cases e1 : C = "BadRow"
  · rw [if_pos e1] at h
    cases h
    subst e1
    exact ⟨V.exc 6, V.kit 7⟩
  rw [if_neg e1] at h
  by_cases e2 : C = "BadSize"
  · rw [if_pos e2] at h
    cases h
    subst e2
    exact ⟨V.exc 8, V.kit 9⟩
  rw [if_neg e2] at h
  by_cases e3 : C = "HandsError"
  · rw [if_pos e3] at h
    cases h
    subst e3
    exact ⟨V.exc 10, V.kit 11⟩
  rw [if_neg e3] at h
  by_cases e4 : C = "TooManyHands"
  · rw [if_pos e4] at h
    cases h
    subst e4
    exact ⟨V.exc 12, V.kit 13⟩
  rw [if_neg e4] at h
  cases h
theorem sub_BadSize_ok (V : WD K mg base) (C : Str) (b : Bool) (h : sub_BadSize C = some b) : ExcC K (ga K C) ∧ PySem.W.kitOne K (.ref (ga K C)) (.ref (ga K "BadSize")) = some b := by
  unfold sub_BadSize at h
  by_cases e0 : C = "BadPrime"
  · rw [if_pos e0] at h
    cases h
    subst e0
    exact ⟨V.exc 4, V.kit 15⟩
  rw [if_neg e0] at h
  by_cases e1 : C = "BadRow"
  · rw [if_pos e1] at h
    cases h
    subst e1
    exact ⟨V.exc 6, V.kit 16⟩
  rw [if_neg e1] at h
  by_cases e2 : C = "BadSize"
  · rw [if_pos e2] at h
    cases h
    subst e2
    exact ⟨V.exc 8, V.kit 17⟩
  rw [if_neg e2] at h
  by_cases e3 : C = "HandsError"
  · rw [if_pos e3] at h
    cases h
    subst e3
    exact ⟨V.exc 10, V.kit 18⟩
  rw [if_neg e3] at h
  by_cases e4 : C = "TooManyHands"
  · rw [if_pos e4] at h
    cases h
    subst e4
    exact ⟨V.exc 12, V.kit 19⟩
  rw [if_neg e4] at h
  cases h
theorem sub_TooManyHands_ok (V : WD K mg base) (C : Str) (b : Bool) (h : sub_TooManyHands C = some b) : ExcC K (ga K C) ∧ PySem.W.kitOne K (.ref (ga K C)) (.ref (ga K "TooManyHands")) = some b := by
  unfold sub_TooManyHands at h
  by_cases e0 : C = "BadPrime"
  · rw [if_pos e0] at h
    cases h
    subst e0
    exact ⟨V.exc 4, V.kit 21⟩
  rw [if_neg e0] at h
  by_cases e1 : C = "BadRow"
  · rw [if_pos e1] at h
    cases h
    subst e1
    exact ⟨V.exc 6, V.kit 22⟩
  rw [if_neg e1] at h
  by_cases e2 : C = "BadSize"
  · rw [if_pos e2] at h
    cases h
    subst e2
    exact ⟨V.exc 8, V.kit 23⟩
  rw [if_neg e2] at h
  by_cases e3 : C = "HandsError"
  · rw [if_pos e3] at h
    cases h
    subst e3
    exact ⟨V.exc 10, V.kit 24⟩
  rw [if_neg e3] at h
  by_cases e4 : C = "TooManyHands"
  · rw [if_pos e4] at h
    cases h
    subst e4
    exact ⟨V.exc 12, V.kit 25⟩
  rw [if_neg e4] at h
  cases h
theorem sub_BadRow_ok (V : WD K mg base) (C : Str) (b : Bool) (h : sub_BadRow C = some b) : ExcC K (ga K C) ∧ PySem.W.kitOne K (.ref (ga K C)) (.ref (ga K "BadRow")) = some b := by
  unfold sub_BadRow at h
  by_cases e0 : C = "BadPrime"
  · rw [if_pos e0] at h
    cases h
    subst e0
    exact ⟨V.exc 4, V.kit 27⟩
  rw [if_neg e0] at h
  by_cases e1 : C = "BadRow"
  · rw [if_pos e1] at h
    cases h
    subst e1
    exact ⟨V.exc 6, V.kit 28⟩
  rw [if_neg e1] at h
  by_cases e2 : C = "BadSize"
  · rw [if_pos e2] at h
    cases h
    subst e2
    exact ⟨V.exc 8, V.kit 29⟩
  rw [if_neg e2] at h
  by_cases e3 : C = "HandsError"
  · rw [if_pos e3] at h
    cases h
    subst e3
    exact ⟨V.exc 10, V.kit 30⟩
  rw [if_neg e3] at h
  by_cases e4 : C = "TooManyHands"
  · rw [if_pos e4] at h
    cases h
    subst e4
    exact ⟨V.exc 12, V.kit 31⟩
  rw [if_neg e4] at h
  cases h
theorem exm_HandsError_ok (V : WD K mg base) (C : Str) (b : Bool) (h : exm_HandsError C = some b) : PySem.W.exmOne K (.ref (ga K C)) (.ref (ga K "HandsError")) = some b := by
  unfold exm_HandsError at h
  by_cases e0 : C = "BadPrime"
  · rw [if_pos e0] at h
    cases h
    subst e0
    exact V.exm 39
  rw [if_neg e0] at h
  by_cases e1 : C = "BadRow"
  · rw [if_pos e1] at h
    cases h
    subst e1
    exact V.exm 40
  rw [if_neg e1] at h
  by_cases e2 : C = "BadSize"
  · rw [if_pos e2] at h
    cases h
    subst e2
    exact V.exm 41
  rw [if_neg e2] at h
  by_cases e3 : C = "HandsError"
  · rw [if_pos e3] at h
    cases h
    subst e3
    exact V.exm 42
  rw [if_neg e3] at h
  by_cases e4 : C = "TooManyHands"
  · rw [if_pos e4] at h
    cases h
    subst e4
    exact V.exm 43
  rw [if_neg e4] at h
  cases h
theorem ok__law_digits (V : WD K mg base) : PFn P w K mg base 1 "_law_digits" 2 [] f__law_digits := by
  obtain ⟨fd, F⟩ := V.df 0 (d := d__law_digits) rfl
  exact pfn (N := N__law_digits) (ps := ["cell", "sizes"]) (k := 0) (g := g__law_digits) F sc__law_digits (V.glo 3) (fun _ _ _ _ _ _ us hl => match us, hl with | [_, _], _ => rfl) fun _ _ _ _ _ _ W c =>
  (s_cons (s_own 2 sc__law_digits.nd rfl (.inl rfl) (l_lst a_nil) rfl (.inl rfl))
  (s_cons (s_set 3 sc__law_digits.nd rfl (.inl rfl) (d_b1 b_int rfl (V.free 0) (d_peek (d_var 0 rfl (.inl rfl) nd_cell nc_cell))) rfl (.inl rfl))
  (s_cons (s_if (d_cT c_ge (d_peek (d_var 3 rfl (.inl rfl) nd_rest nc_rest)) (d_peek (d_pow (d_peek d_int) (d_peek d_int))))
  (s_cons (s_set 3 sc__law_digits.nd rfl (.inl rfl) (d_sub (d_peek (d_var 3 rfl (.inl rfl) nd_rest nc_rest)) (d_peek (d_pow (d_peek d_int) (d_peek d_int)))) rfl (.inl rfl))
  (s_cons (s_for c.po rfl (i_seq (d_var 1 rfl (.inl rfl) nd_sizes nc_sizes)) (g_nm 6 sc__law_digits.nd rfl (.inl rfl) (.inl rfl))
  (s_cons (s_app 2 PySem.F.plainAttrs_list PySem.F.slot_list_append PySem.F.type_list_append rfl (.inl rfl) (d_mod (d_peek (d_b1 b_int rfl (V.free 0) (d_peek (d_var 3 rfl (.inl rfl) nd_rest nc_rest)))) (d_peek (d_var 6 rfl (.inl rfl) nd_size nc_size))) nd_row nc_row)
  (s_one (s_set 3 sc__law_digits.nd rfl (.inl rfl) (d_div (d_peek (d_b1 b_int rfl (V.free 0) (d_peek (d_var 3 rfl (.inl rfl) nd_rest nc_rest)))) (d_peek (d_var 6 rfl (.inl rfl) nd_size nc_size))) rfl (.inl rfl)))))
  (s_frz 2 (s_one (s_ret (d_var 2 rfl (.inl rfl) nd_row nc_row))))))
  s_nil)
  (s_cons (s_set 4 sc__law_digits.nd rfl (.inl rfl) (d_mod (d_peek (d_b1 b_int rfl (V.free 0) (d_peek (d_var 3 rfl (.inl rfl) nd_rest nc_rest)))) (d_peek d_int)) rfl (.inl rfl))
  (s_cons (s_for c.po rfl (i_rng1 (by rfl) (V.free 2) (d_peek (d_b1 b_len rfl (V.free 1) (d_peek (d_var 1 rfl (.inl rfl) nd_sizes nc_sizes))))) (g_nm 5 sc__law_digits.nd rfl (.inl rfl) (.inl rfl))
  (s_cons (s_set 4 sc__law_digits.nd rfl (.inl rfl) (d_mod (d_peek (d_b1 b_int rfl (V.free 0) (d_peek (d_add (d_peek (d_add (d_peek (d_mul (d_peek (d_var 4 rfl (.inl rfl) nd_seed nc_seed)) (d_peek d_int))) (d_peek (d_mul (d_peek d_int) (d_peek (d_var 5 rfl (.inl rfl) nd_k nc_k)))))) (d_peek d_int))))) (d_peek d_int)) rfl (.inl rfl))
  (s_cons (s_set 7 sc__law_digits.nd rfl (.inl rfl) (d_mod (d_peek (d_b1 b_int rfl (V.free 0) (d_peek (d_mul (d_peek (d_var 4 rfl (.inl rfl) nd_seed nc_seed)) (d_peek (d_add (d_peek (d_div (d_peek (d_var 4 rfl (.inl rfl) nd_seed nc_seed)) (d_peek d_int))) (d_peek d_int))))))) (d_peek d_int)) rfl (.inl rfl))
  (s_one (s_app 2 PySem.F.plainAttrs_list PySem.F.slot_list_append PySem.F.type_list_append rfl (.inl rfl) (d_mod (d_peek (d_div (d_peek (d_var 7 rfl (.inl rfl) nd_twice nc_twice)) (d_peek d_int))) (d_peek (d_ix (d_peek (d_var 1 rfl (.inl rfl) nd_sizes nc_sizes)) (d_peek (d_var 5 rfl (.inl rfl) nd_k nc_k))))) nd_row nc_row)))))
  (s_frz 2 (s_one (s_ret (d_var 2 rfl (.inl rfl) nd_row nc_row)))))))))
theorem ok__law_cell (V : WD K mg base) : PFn P w K mg base 1 "_law_cell" 2 [] f__law_cell := by
  obtain ⟨fd, F⟩ := V.df 1 (d := d__law_cell) rfl
  exact pfn (N := N__law_cell) (ps := ["script", "k"]) (k := 0) (g := g__law_cell) F sc__law_cell (V.glo 4) (fun _ _ _ _ _ _ us hl => match us, hl with | [_, _], _ => rfl) fun _ _ _ _ _ _ W c =>
  (s_cons (s_if (d_cT c_lt (d_peek (d_var 1 rfl (.inl rfl) nd_k nc_k)) (d_peek (d_b1 b_len rfl (V.free 1) (d_peek (d_var 0 rfl (.inl rfl) nd_script nc_script)))))
  (s_one (s_ret (d_ix (d_peek (d_var 0 rfl (.inl rfl) nd_script nc_script)) (d_peek (d_var 1 rfl (.inl rfl) nd_k nc_k)))))
  s_nil)
  (s_cons (s_set 2 sc__law_cell.nd rfl (.inl rfl) d_int rfl (.inl rfl))
  (s_cons (s_for c.po rfl (i_seq (d_var 0 rfl (.inl rfl) nd_script nc_script)) (g_nm 3 sc__law_cell.nd rfl (.inl rfl) (.inl rfl))
  (s_one (s_set 2 sc__law_cell.nd rfl (.inl rfl) (d_mod (d_peek (d_b1 b_int rfl (V.free 0) (d_peek (d_add (d_peek (d_mul (d_peek (d_var 2 rfl (.inl rfl) nd_seed nc_seed)) (d_peek d_int))) (d_peek (d_mod (d_peek (d_b1 b_int rfl (V.free 0) (d_peek (d_var 3 rfl (.inl rfl) nd_cell nc_cell)))) (d_peek d_int))))))) (d_peek d_int)) rfl (.inl rfl))))
  (s_one (s_ret (d_mod (d_peek (d_b1 b_int rfl (V.free 0) (d_peek (d_mul (d_peek (d_mul (d_peek (d_add (d_peek (d_var 2 rfl (.inl rfl) nd_seed nc_seed)) (d_peek d_int))) (d_peek (d_add (d_peek (d_var 1 rfl (.inl rfl) nd_k nc_k)) (d_peek d_int))))) (d_peek d_int))))) (d_peek d_int)))))))
theorem ok__law_great_prime (V : WD K mg base) : PFn P w K mg base 1 "_law_great_prime" 1 [] f__law_great_prime := by
  obtain ⟨fd, F⟩ := V.df 2 (d := d__law_great_prime) rfl
  exact pfn (N := N__law_great_prime) (ps := ["digit"]) (k := 0) (g := g__law_great_prime) F sc__law_great_prime (V.glo 5) (fun _ _ _ _ _ _ us hl => match us, hl with | [_], _ => rfl) fun _ _ _ _ _ _ W c =>
  (s_one (s_ret (d_ix (d_peek (d_lstE (l_lst (a_cons d_int (a_cons d_int (a_cons d_int (a_cons d_int (a_cons d_int (a_cons d_int (a_cons d_int (a_cons d_int (a_cons d_int (a_cons d_int (a_cons d_int a_nil)))))))))))))) (d_peek (d_mod (d_peek (d_b1 b_int rfl (V.free 0) (d_peek (d_var 0 rfl (.inl rfl) nd_digit nc_digit)))) (d_peek d_int))))))
theorem ok__law_is_prime (V : WD K mg base) : PFn P w K mg base 1 "_law_is_prime" 1 [] f__law_is_prime := by
  obtain ⟨fd, F⟩ := V.df 3 (d := d__law_is_prime) rfl
  exact pfn (N := N__law_is_prime) (ps := ["value"]) (k := 0) (g := g__law_is_prime) F sc__law_is_prime (V.glo 7) (fun _ _ _ _ _ _ us hl => match us, hl with | [_], _ => rfl) fun _ _ _ _ _ _ W c =>
  (s_one (s_ret (d_and (d_c c_ge (d_peek (d_var 0 rfl (.inr (.inl rfl)) nd_value nc_value)) (d_peek d_int)) (d_one (d_c (c_eq (Ctx.un c)) (d_peek (d_b1 b_len rfl (V.free 1) (d_peek (d_lstE (l_comp rfl sc__law_is_prime.nd (i_rng2 (by rfl) (V.free 2) (d_peek d_int) (d_peek d_int)) (blkOk_by (own := [("k", 1)]) (by rfl)) (fun _ _ _ _ _ => (g_nm 1 sc__law_is_prime.nd rfl (.inl rfl) (.inr rfl))) (by decide) (fun _ _ _ _ _ => (ts_one (t_w (t_and (d_cT c_lt (d_peek (d_var 1 rfl (.inl rfl) nd_k nc_k)) (d_peek (d_var 0 rfl (.inr (.inl rfl)) nd_value nc_value))) (t_and1 (d_cT (c_eq (Ctx.un (ctx_blk c))) (d_peek (d_mod (d_peek (d_b1 b_int rfl (V.free 0) (d_peek (d_var 0 rfl (.inr (.inl rfl)) nd_value nc_value)))) (d_peek (d_var 1 rfl (.inl rfl) nd_k nc_k)))) (d_peek d_int))))))) (fun _ _ _ _ _ => (d_var 1 rfl (.inl rfl) nd_k nc_k))))))) (d_peek d_int))))))
theorem ok__law_due (V : WD K mg base) : PFn P w K mg base 2 "_law_due" 4 [] f__law_due := by
  obtain ⟨fd, F⟩ := V.df 4 (d := d__law_due) rfl
  exact pfn (N := N__law_due) (ps := ["prime", "lots", "others", "rows"]) (k := 1) (g := g__law_due) F sc__law_due (V.glo 8) (fun _ _ _ _ _ _ us hl => match us, hl with | [_, _, _, _], _ => rfl) fun _ _ _ _ _ _ W c =>
  (s_cons (s_if (t_w (t_or (t_not (d_chainT c_le c_le (d_peek d_int) (d_peek (d_var 0 rfl (.inl rfl) nd_prime nc_prime)) (d_peek d_int))) (t_or1 (t_not (d_truth (d_peek (d_call (ok__law_is_prime V) (by decide) c rfl (a_cons (d_var 0 rfl (.inl rfl) nd_prime nc_prime) a_nil))))))))
  (s_one (s_ret (d_lstE (l_lst (a_cons d_str (a_cons (d_var 0 rfl (.inl rfl) nd_prime nc_prime) (a_cons d_int a_nil)))))))
  s_nil)
  (s_cons (s_if (t_w (t_or (t_not (d_chainT c_le c_le (d_peek d_int) (d_peek (d_var 1 rfl (.inl rfl) nd_lots nc_lots)) (d_peek d_int))) (t_or1 (t_not (d_chainT c_le c_le (d_peek d_int) (d_peek (d_var 2 rfl (.inl rfl) nd_others nc_others)) (d_peek d_int))))))
  (s_one (s_ret (d_lstE (l_lst (a_cons d_str (a_cons (d_var 1 rfl (.inl rfl) nd_lots nc_lots) (a_cons (d_var 2 rfl (.inl rfl) nd_others nc_others) a_nil)))))))
  s_nil)
  (s_cons (s_if (d_cT c_gt (d_peek (d_b1 b_len rfl (V.free 1) (d_peek (d_var 3 rfl (.inl rfl) nd_rows nc_rows)))) (d_peek d_int))
  (s_one (s_ret (d_lstE (l_lst (a_cons d_str (a_cons (d_b1 b_len rfl (V.free 1) (d_peek (d_var 3 rfl (.inl rfl) nd_rows nc_rows))) (a_cons d_int a_nil)))))))
  s_nil)
  (s_cons (s_for c.po rfl (i_rng1 (by rfl) (V.free 2) (d_peek (d_b1 b_len rfl (V.free 1) (d_peek (d_var 3 rfl (.inl rfl) nd_rows nc_rows))))) (g_nm 4 sc__law_due.nd rfl (.inl rfl) (.inl rfl))
  (s_one (s_if (t_w (t_or (d_cT (c_ne (Ctx.un c)) (d_peek (d_b1 b_len rfl (V.free 1) (d_peek (d_ix (d_peek (d_var 3 rfl (.inl rfl) nd_rows nc_rows)) (d_peek (d_var 4 rfl (.inl rfl) nd_k nc_k)))))) (d_peek d_int)) (t_or (d_cT (c_ne (Ctx.un c)) (d_peek (d_b1 b_len rfl (V.free 1) (d_peek (d_ix (d_peek (d_ix (d_peek (d_var 3 rfl (.inl rfl) nd_rows nc_rows)) (d_peek (d_var 4 rfl (.inl rfl) nd_k nc_k)))) (d_peek d_int))))) (d_peek (d_var 1 rfl (.inl rfl) nd_lots nc_lots))) (t_or1 (d_cT (c_ne (Ctx.un c)) (d_peek (d_b1 b_len rfl (V.free 1) (d_peek (d_ix (d_peek (d_ix (d_peek (d_var 3 rfl (.inl rfl) nd_rows nc_rows)) (d_peek (d_var 4 rfl (.inl rfl) nd_k nc_k)))) (d_peek d_int))))) (d_peek (d_var 2 rfl (.inl rfl) nd_others nc_others)))))))
  (s_one (s_ret (d_lstE (l_lst (a_cons d_str (a_cons (d_var 4 rfl (.inl rfl) nd_k nc_k) (a_cons d_int a_nil)))))))
  s_nil)))
  (s_one (s_ret (d_lstE (l_lst a_nil))))))))
theorem ok_is_prime (V : WD K mg base) : PFn P w K mg base 1 "is_prime" 1 [] f_is_prime := by
  obtain ⟨fd, F⟩ := V.df 6 (d := d_is_prime) rfl
  exact pfn (N := N_is_prime) (ps := ["value"]) (k := 0) (g := g_is_prime) F sc_is_prime (V.glo 10) (fun _ _ _ _ _ _ us hl => match us, hl with | [_], _ => rfl) fun _ _ _ _ _ _ W c =>
  (s_cons (s_if (d_cT c_lt (d_peek (d_var 0 rfl (.inl rfl) nd_value nc_value)) (d_peek d_int))
  (s_one (s_ret d_bl))
  s_nil)
  (s_cons (s_set 1 sc_is_prime.nd rfl (.inl rfl) d_int rfl (.inl rfl))
  (s_cons (s_while 100000 c.po (d_cT c_le (d_peek (d_mul (d_peek (d_var 1 rfl (.inl rfl) nd_divisor nc_divisor)) (d_peek (d_var 1 rfl (.inl rfl) nd_divisor nc_divisor)))) (d_peek (d_var 0 rfl (.inl rfl) nd_value nc_value)))
  (s_cons (s_if (d_cT (c_eq (Ctx.un c)) (d_peek (d_mod (d_peek (d_var 0 rfl (.inl rfl) nd_value nc_value)) (d_peek (d_var 1 rfl (.inl rfl) nd_divisor nc_divisor)))) (d_peek d_int))
  (s_one (s_ret d_bl))
  s_nil)
  (s_one (s_aug 1 ip_add p_iadd sc_is_prime.nd rfl (.inl rfl) d_int (.inl rfl)))))
  (s_one (s_ret d_bl)))))
theorem ok_BadPrime (V : WD K mg base) : PEx P w K mg base 1 "BadPrime" ["prime"] := by
  obtain ⟨fd, F⟩ := V.df 7 (d := d_BadPrime) rfl
  exact pex (C := "BadPrime") (y := "self") (N := ["prime"]) (ps := ["prime"]) (ns := ["prime"]) (k := 0) F (V.meth 12) (V.glo 13) sc_BadPrime (V.oex 0) (forall_cons (V.noat 11) (fun n h => absurd h List.not_mem_nil)) rfl (by decide) (by decide) (fun _ _ _ _ _ _ us hl => match us, hl with | [_, _], _ => rfl) fun _ _ _ _ _ _ => (x_cons x_nil rfl (.inl rfl) rfl (.inl rfl) nd_self nc_self nd_prime nc_prime)
theorem ok_checked_prime (V : WD K mg base) : PFn P w K mg base 3 "checked_prime" 1 [] f_checked_prime := by
  obtain ⟨fd, F⟩ := V.df 8 (d := d_checked_prime) rfl
  exact pfn (N := N_checked_prime) (ps := ["prime"]) (k := 2) (g := g_checked_prime) F sc_checked_prime (V.glo 14) (fun _ _ _ _ _ _ us hl => match us, hl with | [_], _ => rfl) fun _ _ _ _ _ _ W c =>
  (s_cons (s_if (t_w (t_or (d_cT c_lt (d_peek (d_var 0 rfl (.inl rfl) nd_prime nc_prime)) (d_peek d_int)) (t_or (d_cT c_gt (d_peek (d_var 0 rfl (.inl rfl) nd_prime nc_prime)) (d_peek (d_gint rfl (V.int 9)))) (t_or1 (t_not (d_truth (d_peek (d_call (ok_is_prime V) (by decide) c rfl (a_cons (d_var 0 rfl (.inl rfl) nd_prime nc_prime) a_nil)))))))))
  (s_one (s_raise (ok_BadPrime V) (by decide) c rfl rfl (a_cons (d_var 0 rfl (.inl rfl) nd_prime nc_prime) a_nil)))
  s_nil)
  (s_one (s_ret (d_var 0 rfl (.inl rfl) nd_prime nc_prime))))
theorem ok_BadSize (V : WD K mg base) : PEx P w K mg base 1 "BadSize" ["lots", "pads"] := by
  obtain ⟨fd, F⟩ := V.df 9 (d := d_BadSize) rfl
  exact pex (C := "BadSize") (y := "self") (N := ["lots", "pads"]) (ps := ["lots", "pads"]) (ns := ["lots", "pads"]) (k := 0) F (V.meth 18) (V.glo 19) sc_BadSize (V.oex 1) (forall_cons (V.noat 17) (forall_cons (V.noat 16) (fun n h => absurd h List.not_mem_nil))) rfl (by decide) (by decide) (fun _ _ _ _ _ _ us hl => match us, hl with | [_, _, _], _ => rfl) fun _ _ _ _ _ _ => (x_cons (x_cons x_nil rfl (.inl rfl) rfl (.inl rfl) nd_self nc_self nd_pads nc_pads) rfl (.inl rfl) rfl (.inl rfl) nd_self nc_self nd_lots nc_lots)
theorem ok_TooManyHands (V : WD K mg base) : PEx P w K mg base 1 "TooManyHands" ["count"] := by
  obtain ⟨fd, F⟩ := V.df 10 (d := d_TooManyHands) rfl
  exact pex (C := "TooManyHands") (y := "self") (N := ["count"]) (ps := ["count"]) (ns := ["count"]) (k := 0) F (V.meth 22) (V.glo 23) sc_TooManyHands (V.oex 2) (forall_cons (V.noat 21) (fun n h => absurd h List.not_mem_nil)) rfl (by decide) (by decide) (fun _ _ _ _ _ _ us hl => match us, hl with | [_, _], _ => rfl) fun _ _ _ _ _ _ => (x_cons x_nil rfl (.inl rfl) rfl (.inl rfl) nd_self nc_self nd_count nc_count)
theorem ok_check_crossed (V : WD K mg base) : PFn P w K mg base 4 "check_crossed" 4 [] f_check_crossed := by
  obtain ⟨fd, F⟩ := V.df 11 (d := d_check_crossed) rfl
  exact pfn (N := N_check_crossed) (ps := ["prime", "lots", "others", "count"]) (k := 3) (g := g_check_crossed) F sc_check_crossed (V.glo 24) (fun _ _ _ _ _ _ us hl => match us, hl with | [_, _, _, _], _ => rfl) fun _ _ _ _ _ _ W c =>
  (s_cons (s_expr (d_call (ok_checked_prime V) (by decide) c rfl (a_cons (d_var 0 rfl (.inl rfl) nd_prime nc_prime) a_nil)))
  (s_cons (s_if (t_w (t_or (t_not (d_chainT c_le c_le (d_peek d_int) (d_peek (d_var 1 rfl (.inl rfl) nd_lots nc_lots)) (d_peek (d_gint rfl (V.int 15))))) (t_or1 (t_not (d_chainT c_le c_le (d_peek d_int) (d_peek (d_var 2 rfl (.inl rfl) nd_others nc_others)) (d_peek (d_gint rfl (V.int 15))))))))
  (s_one (s_raise (ok_BadSize V) (by decide) c rfl rfl (a_cons (d_var 1 rfl (.inl rfl) nd_lots nc_lots) (a_cons (d_var 2 rfl (.inl rfl) nd_others nc_others) a_nil))))
  s_nil)
  (s_one (s_if (d_cT c_gt (d_peek (d_var 3 rfl (.inl rfl) nd_count nc_count)) (d_peek (d_gint rfl (V.int 20))))
  (s_one (s_raise (ok_TooManyHands V) (by decide) c rfl rfl (a_cons (d_var 3 rfl (.inl rfl) nd_count nc_count) a_nil)))
  s_nil))))
theorem ok_BadRow (V : WD K mg base) : PEx P w K mg base 1 "BadRow" ["index"] := by
  obtain ⟨fd, F⟩ := V.df 12 (d := d_BadRow) rfl
  exact pex (C := "BadRow") (y := "self") (N := ["index"]) (ps := ["index"]) (ns := ["index"]) (k := 0) F (V.meth 27) (V.glo 28) sc_BadRow (V.oex 3) (forall_cons (V.noat 26) (fun n h => absurd h List.not_mem_nil)) rfl (by decide) (by decide) (fun _ _ _ _ _ _ us hl => match us, hl with | [_, _], _ => rfl) fun _ _ _ _ _ _ => (x_cons x_nil rfl (.inl rfl) rfl (.inl rfl) nd_self nc_self nd_index nc_index)
theorem ok_reduced (V : WD K mg base) : PFn P w K mg base 1 "reduced" 2 [] f_reduced := by
  obtain ⟨fd, F⟩ := V.df 13 (d := d_reduced) rfl
  exact pfn (N := N_reduced) (ps := ["prime", "numbers"]) (k := 0) (g := g_reduced) F sc_reduced (V.glo 36) (fun _ _ _ _ _ _ us hl => match us, hl with | [_, _], _ => rfl) fun _ _ _ _ _ _ W c =>
  (s_one (s_ret (d_b1 b_tuple rfl (V.free 35) (d_peek (d_lstE (l_comp rfl sc_reduced.nd (ib_seq (d_peek (d_var 1 rfl (.inl rfl) nd_numbers nc_numbers))) (blkOk_by (own := [("number", 2)]) (by rfl)) (fun _ _ _ _ _ => (g_nm 2 sc_reduced.nd rfl (.inl rfl) (.inr rfl))) (by decide) (fun _ _ _ _ _ => ts_none) (fun _ _ _ _ _ => (d_mod (d_peek (d_var 2 rfl (.inl rfl) nd_number nc_number)) (d_peek (d_var 0 rfl (.inr (.inl rfl)) nd_prime nc_prime))))))))))
theorem ok_CrossTable (V : WD K mg base) : PCl P w K mg base 5 "CrossTable" 4 [] f_CrossTable := by
  obtain ⟨fd, F⟩ := V.df 5 (d := d_CrossTable) rfl
  exact pcl (C := "CrossTable") (y := "self") (N := ["prime", "lots", "others", "rows", "at", "pair", "one", "two"]) (ps := ["prime", "lots", "others", "rows"]) (k := 4) (g := g_CrossTable) F (V.mkr 37) (V.glo 38) sc_CrossTable (fun _ _ _ _ _ _ us hl => match us, hl with | [_, _, _, _, _], _ => rfl) fun _ _ _ _ _ _ _ W hS c =>
  (s_cons (s_expr (d_call (ok_check_crossed V) (by decide) c rfl (a_cons (d_var 1 rfl (.inr (.inl rfl)) nd_prime nc_prime) (a_cons (d_var 2 rfl (.inl rfl) nd_lots nc_lots) (a_cons (d_var 3 rfl (.inl rfl) nd_others nc_others) (a_cons (d_b1 b_len rfl (V.free 1) (d_peek (d_var 4 rfl (.inl rfl) nd_rows nc_rows))) a_nil))))))
  (s_cons (s_for c.po rfl (i_enum (by rfl) (V.free 25) (d_var 4 rfl (.inl rfl) nd_rows nc_rows)) (g_tu rfl (gs_cons (g_nm 5 sc_CrossTable.nd rfl (.inl rfl) (.inl rfl)) (gs_cons (g_nm 6 sc_CrossTable.nd rfl (.inl rfl) (.inl rfl)) gs_nil)))
  (s_one (s_if (t_w (t_or (d_cT (c_ne (Ctx.un c)) (d_peek (d_b1 b_len rfl (V.free 1) (d_peek (d_var 6 rfl (.inl rfl) nd_pair nc_pair)))) (d_peek d_int)) (t_or (d_cT (c_ne (Ctx.un c)) (d_peek (d_b1 b_len rfl (V.free 1) (d_peek (d_ix (d_peek (d_var 6 rfl (.inl rfl) nd_pair nc_pair)) (d_peek d_int))))) (d_peek (d_var 2 rfl (.inl rfl) nd_lots nc_lots))) (t_or1 (d_cT (c_ne (Ctx.un c)) (d_peek (d_b1 b_len rfl (V.free 1) (d_peek (d_ix (d_peek (d_var 6 rfl (.inl rfl) nd_pair nc_pair)) (d_peek d_int))))) (d_peek (d_var 3 rfl (.inl rfl) nd_others nc_others)))))))
  (s_one (s_raise (ok_BadRow V) (by decide) c rfl rfl (a_cons (d_var 5 rfl (.inl rfl) nd_at nc_at) a_nil)))
  s_nil)))
  (s_cons (s_fld 0 (forall_cons ⟨V.cls 29, V.noat 30⟩ (fun C h => absurd h List.not_mem_nil)) (d_var 1 rfl (.inr (.inl rfl)) nd_prime nc_prime) rfl rfl (.inl rfl) nd_self nc_self)
  (s_cons (s_fld 0 (forall_cons ⟨V.cls 29, V.noat 31⟩ (fun C h => absurd h List.not_mem_nil)) (d_var 2 rfl (.inl rfl) nd_lots nc_lots) rfl rfl (.inl rfl) nd_self nc_self)
  (s_cons (s_fld 0 (forall_cons ⟨V.cls 29, V.noat 32⟩ (fun C h => absurd h List.not_mem_nil)) (d_var 3 rfl (.inl rfl) nd_others nc_others) rfl rfl (.inl rfl) nd_self nc_self)
  (s_cons (s_fld 0 (forall_cons ⟨V.cls 29, V.noat 33⟩ (fun C h => absurd h List.not_mem_nil)) (d_b1 b_len rfl (V.free 1) (d_peek (d_var 4 rfl (.inl rfl) nd_rows nc_rows))) rfl rfl (.inl rfl) nd_self nc_self)
  (s_one (s_fld 0 (forall_cons ⟨V.cls 29, V.noat 34⟩ (fun C h => absurd h List.not_mem_nil)) (d_b1 b_tuple rfl (V.free 35) (d_peek (d_lstE (l_comp rfl sc_CrossTable.nd (ib_seq (d_peek (d_var 4 rfl (.inl rfl) nd_rows nc_rows))) (blkOk_by (own := [("one", 7), ("two", 8)]) (by rfl)) (fun _ _ _ _ _ => (g_tu rfl (gs_cons (g_nm 7 sc_CrossTable.nd rfl (.inl rfl) (.inr rfl)) (gs_cons (g_nm 8 sc_CrossTable.nd rfl (.inl rfl) (.inr rfl)) gs_nil)))) (by decide) (fun _ _ _ _ _ => ts_none) (fun _ _ _ _ _ => (d_tup (a_cons (d_call (ok_reduced V) (by decide) (ctx_blk c) rfl (a_cons (d_var 1 rfl (.inr (.inl rfl)) nd_prime nc_prime) (a_cons (d_var 7 rfl (.inl rfl) nd_one nc_one) a_nil))) (a_cons (d_call (ok_reduced V) (by decide) (ctx_blk c) rfl (a_cons (d_var 1 rfl (.inr (.inl rfl)) nd_prime nc_prime) (a_cons (d_var 8 rfl (.inl rfl) nd_two nc_two) a_nil))) a_nil)))))))) rfl rfl (.inl rfl) nd_self nc_self))))))))
theorem ok__law_built (V : WD K mg base) : PFn P w K mg base 7 "_law_built" 4 [] f__law_built := by
  obtain ⟨fd, F⟩ := V.df 14 (d := d__law_built) rfl
  exact pfn (N := N__law_built) (ps := ["prime", "lots", "others", "rows"]) (k := 6) (g := g__law_built) F sc__law_built (V.glo 46) (fun _ _ _ _ _ _ us hl => match us, hl with | [_, _, _, _], _ => rfl) fun _ _ _ _ _ _ W c =>
  (s_cons (s_set 4 sc__law_built.nd rfl (.inl rfl) (d_call (ok__law_due V) (by decide) c rfl (a_cons (d_var 0 rfl (.inr (.inl rfl)) nd_prime nc_prime) (a_cons (d_var 1 rfl (.inl rfl) nd_lots nc_lots) (a_cons (d_var 2 rfl (.inl rfl) nd_others nc_others) (a_cons (d_var 3 rfl (.inl rfl) nd_rows nc_rows) a_nil))))) rfl (.inl rfl))
  (s_cons (s_try 5 c rfl rfl sc__law_built.nd rfl rfl ⟨rfl, nd_HandsError, .inl (V.glo 44)⟩ rfl (exm_HandsError_ok V)
  (fun _ _ _ c =>
  (s_one (s_set 7 sc__law_built.nd rfl (.inl rfl) (d_make (ok_CrossTable V) (by decide) c rfl (a_cons (d_var 0 rfl (.inr (.inl rfl)) nd_prime nc_prime) (a_cons (d_var 1 rfl (.inl rfl) nd_lots nc_lots) (a_cons (d_var 2 rfl (.inl rfl) nd_others nc_others) (a_cons (d_var 3 rfl (.inl rfl) nd_rows nc_rows) a_nil))))) rfl (.inl rfl))))
  (fun _ _ _ _ _ hz hf =>
  (s_cons (s_if (d_cT (c_eq (un_suite (Ctx.un c))) (d_peek (d_var 4 rfl (.inl rfl) nd_due nc_due)) (d_peek (d_lstE (l_lst a_nil))))
  (s_one (s_ret d_bl))
  s_nil)
  (s_cons (s_if (d_cT (c_eq (un_suite (Ctx.un c))) (d_peek (d_ix (d_peek (d_var 4 rfl (.inl rfl) nd_due nc_due)) (d_peek d_int))) (d_peek d_str))
  (s_one (s_ret (d_and (d_exnIs 5 hz hf (sub_BadPrime_ok V) rfl (V.free 45) rfl (V.glo 13) rfl (.inl rfl) nd_e nc_e nd_BadPrime) (d_one (d_c (c_eq (un_suite (Ctx.un c))) (d_peek (d_exnFld 5 hz hf (forall_cons ⟨V.xf 14, V.noat 11⟩ (fun C h => absurd h List.not_mem_nil)) rfl (.inl rfl) nd_e nc_e)) (d_peek (d_ix (d_peek (d_var 4 rfl (.inl rfl) nd_due nc_due)) (d_peek d_int))))))))
  s_nil)
  (s_cons (s_if (d_cT (c_eq (un_suite (Ctx.un c))) (d_peek (d_ix (d_peek (d_var 4 rfl (.inl rfl) nd_due nc_due)) (d_peek d_int))) (d_peek d_str))
  (s_one (s_ret (d_and (d_exnIs 5 hz hf (sub_BadSize_ok V) rfl (V.free 45) rfl (V.glo 19) rfl (.inl rfl) nd_e nc_e nd_BadSize) (d_and (d_c (c_eq (un_suite (Ctx.un c))) (d_peek (d_exnFld 5 hz hf (forall_cons ⟨V.xf 20, V.noat 17⟩ (fun C h => absurd h List.not_mem_nil)) rfl (.inl rfl) nd_e nc_e)) (d_peek (d_ix (d_peek (d_var 4 rfl (.inl rfl) nd_due nc_due)) (d_peek d_int)))) (d_one (d_c (c_eq (un_suite (Ctx.un c))) (d_peek (d_exnFld 5 hz hf (forall_cons ⟨V.xf 20, V.noat 16⟩ (fun C h => absurd h List.not_mem_nil)) rfl (.inl rfl) nd_e nc_e)) (d_peek (d_ix (d_peek (d_var 4 rfl (.inl rfl) nd_due nc_due)) (d_peek d_int)))))))))
  s_nil)
  (s_cons (s_if (d_cT (c_eq (un_suite (Ctx.un c))) (d_peek (d_ix (d_peek (d_var 4 rfl (.inl rfl) nd_due nc_due)) (d_peek d_int))) (d_peek d_str))
  (s_one (s_ret (d_and (d_exnIs 5 hz hf (sub_TooManyHands_ok V) rfl (V.free 45) rfl (V.glo 23) rfl (.inl rfl) nd_e nc_e nd_TooManyHands) (d_one (d_c (c_eq (un_suite (Ctx.un c))) (d_peek (d_exnFld 5 hz hf (forall_cons ⟨V.xf 26, V.noat 21⟩ (fun C h => absurd h List.not_mem_nil)) rfl (.inl rfl) nd_e nc_e)) (d_peek (d_ix (d_peek (d_var 4 rfl (.inl rfl) nd_due nc_due)) (d_peek d_int))))))))
  s_nil)
  (s_one (s_ret (d_and (d_exnIs 5 hz hf (sub_BadRow_ok V) rfl (V.free 45) rfl (V.glo 28) rfl (.inl rfl) nd_e nc_e nd_BadRow) (d_one (d_c (c_eq (un_suite (Ctx.un c))) (d_peek (d_exnFld 5 hz hf (forall_cons ⟨V.xf 32, V.noat 26⟩ (fun C h => absurd h List.not_mem_nil)) rfl (.inl rfl) nd_e nc_e)) (d_peek (d_ix (d_peek (d_var 4 rfl (.inl rfl) nd_due nc_due)) (d_peek d_int))))))))))))))
  (s_cons (s_if (t_w (t_or (d_cT (c_ne (Ctx.un c)) (d_peek (d_var 4 rfl (.inl rfl) nd_due nc_due)) (d_peek (d_lstE (l_lst a_nil)))) (t_or (d_cT (c_ne (Ctx.un c)) (d_peek (d_fld (forall_cons ⟨V.cls 29, V.noat 30⟩ (fun C h => absurd h List.not_mem_nil)) (d_peek (d_var 7 rfl (.inl rfl) nd_table nc_table)))) (d_peek (d_var 0 rfl (.inr (.inl rfl)) nd_prime nc_prime))) (t_or (d_cT (c_ne (Ctx.un c)) (d_peek (d_fld (forall_cons ⟨V.cls 29, V.noat 31⟩ (fun C h => absurd h List.not_mem_nil)) (d_peek (d_var 7 rfl (.inl rfl) nd_table nc_table)))) (d_peek (d_var 1 rfl (.inl rfl) nd_lots nc_lots))) (t_or1 (d_cT (c_ne (Ctx.un c)) (d_peek (d_fld (forall_cons ⟨V.cls 29, V.noat 32⟩ (fun C h => absurd h List.not_mem_nil)) (d_peek (d_var 7 rfl (.inl rfl) nd_table nc_table)))) (d_peek (d_var 2 rfl (.inl rfl) nd_others nc_others))))))))
  (s_one (s_ret d_bl))
  s_nil)
  (s_cons (s_if (t_w (t_or (t_not (d_truth (d_peek (d_isTuple rfl (V.free 35) rfl (V.free 45) (d_peek (d_fld (forall_cons ⟨V.cls 29, V.noat 34⟩ (fun C h => absurd h List.not_mem_nil)) (d_peek (d_var 7 rfl (.inl rfl) nd_table nc_table)))))))) (t_or1 (d_cT (c_ne (Ctx.un c)) (d_peek (d_fld (forall_cons ⟨V.cls 29, V.noat 33⟩ (fun C h => absurd h List.not_mem_nil)) (d_peek (d_var 7 rfl (.inl rfl) nd_table nc_table)))) (d_peek (d_b1 b_len rfl (V.free 1) (d_peek (d_var 3 rfl (.inl rfl) nd_rows nc_rows))))))))
  (s_one (s_ret d_bl))
  s_nil)
  (s_cons (s_for c.po rfl (i_rng1 (by rfl) (V.free 2) (d_peek (d_b1 b_len rfl (V.free 1) (d_peek (d_var 3 rfl (.inl rfl) nd_rows nc_rows))))) (g_nm 6 sc__law_built.nd rfl (.inl rfl) (.inl rfl))
  (s_cons (s_set 8 sc__law_built.nd rfl (.inl rfl) (d_tup (a_cons (d_b1 b_tuple rfl (V.free 35) (d_peek (d_lstE (l_comp rfl sc__law_built.nd (ib_seq (d_peek (d_ix (d_peek (d_ix (d_peek (d_var 3 rfl (.inl rfl) nd_rows nc_rows)) (d_peek (d_var 6 rfl (.inl rfl) nd_k nc_k)))) (d_peek d_int)))) (blkOk_by (own := [("one", 9)]) (by rfl)) (fun _ _ _ _ _ => (g_nm 9 sc__law_built.nd rfl (.inl rfl) (.inr rfl))) (by decide) (fun _ _ _ _ _ => ts_none) (fun _ _ _ _ _ => (d_mod (d_peek (d_b1 b_int rfl (V.free 0) (d_peek (d_var 9 rfl (.inl rfl) nd_one nc_one)))) (d_peek (d_var 0 rfl (.inr (.inl rfl)) nd_prime nc_prime)))))))) (a_cons (d_b1 b_tuple rfl (V.free 35) (d_peek (d_lstE (l_comp rfl sc__law_built.nd (ib_seq (d_peek (d_ix (d_peek (d_ix (d_peek (d_var 3 rfl (.inl rfl) nd_rows nc_rows)) (d_peek (d_var 6 rfl (.inl rfl) nd_k nc_k)))) (d_peek d_int)))) (blkOk_by (own := [("one", 9)]) (by rfl)) (fun _ _ _ _ _ => (g_nm 9 sc__law_built.nd rfl (.inl rfl) (.inr rfl))) (by decide) (fun _ _ _ _ _ => ts_none) (fun _ _ _ _ _ => (d_mod (d_peek (d_b1 b_int rfl (V.free 0) (d_peek (d_var 9 rfl (.inl rfl) nd_one nc_one)))) (d_peek (d_var 0 rfl (.inr (.inl rfl)) nd_prime nc_prime)))))))) a_nil))) rfl (.inl rfl))
  (s_one (s_if (d_cT (c_ne (Ctx.un c)) (d_peek (d_ix (d_peek (d_fld (forall_cons ⟨V.cls 29, V.noat 34⟩ (fun C h => absurd h List.not_mem_nil)) (d_peek (d_var 7 rfl (.inl rfl) nd_table nc_table)))) (d_peek (d_var 6 rfl (.inl rfl) nd_k nc_k)))) (d_peek (d_var 8 rfl (.inl rfl) nd_pair nc_pair)))
  (s_one (s_ret d_bl))
  s_nil))))
  (s_one (s_ret d_bl)))))))
theorem ok_zero_row (V : WD K mg base) : PFn P w K mg base 1 "zero_row" 1 [] f_zero_row := by
  obtain ⟨fd, F⟩ := V.df 15 (d := d_zero_row) rfl
  exact pfn (N := N_zero_row) (ps := ["width"]) (k := 0) (g := g_zero_row) F sc_zero_row (V.glo 47) (fun _ _ _ _ _ _ us hl => match us, hl with | [_], _ => rfl) fun _ _ _ _ _ _ W c =>
  (s_one (s_ret (d_b1 b_tuple rfl (V.free 35) (d_peek (d_lstE (l_comp rfl sc_zero_row.nd (i_rng1 (by rfl) (V.free 2) (d_peek (d_var 0 rfl (.inl rfl) nd_width nc_width))) (blkOk_by (own := [("_", 1)]) (by rfl)) (fun _ _ _ _ _ => (g_nm 1 sc_zero_row.nd rfl (.inl rfl) (.inr rfl))) (by decide) (fun _ _ _ _ _ => ts_none) (fun _ _ _ _ _ => d_int)))))))
theorem ok_lessened (V : WD K mg base) : PFn P w K mg base 1 "lessened" 4 [] f_lessened := by
  obtain ⟨fd, F⟩ := V.df 16 (d := d_lessened) rfl
  exact pfn (N := N_lessened) (ps := ["prime", "one", "factor", "two"]) (k := 0) (g := g_lessened) F sc_lessened (V.glo 49) (fun _ _ _ _ _ _ us hl => match us, hl with | [_, _, _, _], _ => rfl) fun _ _ _ _ _ _ W c =>
  (s_one (s_ret (d_b1 b_tuple rfl (V.free 35) (d_peek (d_lstE (l_comp rfl sc_lessened.nd (ib_zip (by rfl) (V.free 48) (d_peek (d_var 1 rfl (.inl rfl) nd_one nc_one)) (d_peek (d_var 3 rfl (.inl rfl) nd_two nc_two))) (blkOk_by (own := [("first", 4), ("second", 5)]) (by rfl)) (fun _ _ _ _ _ => (g_tu rfl (gs_cons (g_nm 4 sc_lessened.nd rfl (.inl rfl) (.inr rfl)) (gs_cons (g_nm 5 sc_lessened.nd rfl (.inl rfl) (.inr rfl)) gs_nil)))) (by decide) (fun _ _ _ _ _ => ts_none) (fun _ _ _ _ _ => (d_mod (d_peek (d_sub (d_peek (d_var 4 rfl (.inl rfl) nd_first nc_first)) (d_peek (d_mul (d_peek (d_var 2 rfl (.inr (.inl rfl)) nd_factor nc_factor)) (d_peek (d_var 5 rfl (.inl rfl) nd_second nc_second)))))) (d_peek (d_var 0 rfl (.inr (.inl rfl)) nd_prime nc_prime))))))))))
theorem ok_combined (V : WD K mg base) : PFn P w K mg base 2 "combined" 4 [] f_combined := by
  obtain ⟨fd, F⟩ := V.df 17 (d := d_combined) rfl
  exact pfn (N := N_combined) (ps := ["prime", "width", "weights", "rows"]) (k := 1) (g := g_combined) F sc_combined (V.glo 50) (fun _ _ _ _ _ _ us hl => match us, hl with | [_, _, _, _], _ => rfl) fun _ _ _ _ _ _ W c =>
  (s_cons (s_set 4 sc_combined.nd rfl (.inl rfl) (d_call (ok_zero_row V) (by decide) c rfl (a_cons (d_var 1 rfl (.inl rfl) nd_width nc_width) a_nil)) rfl (.inl rfl))
  (s_cons (s_for c.po rfl (i_zip (by rfl) (V.free 48) (d_var 2 rfl (.inl rfl) nd_weights nc_weights) (d_var 3 rfl (.inl rfl) nd_rows nc_rows)) (g_tu rfl (gs_cons (g_nm 5 sc_combined.nd rfl (.inl rfl) (.inl rfl)) (gs_cons (g_nm 6 sc_combined.nd rfl (.inl rfl) (.inl rfl)) gs_nil)))
  (s_one (s_if (d_cT (c_ne (Ctx.un c)) (d_peek (d_mod (d_peek (d_var 5 rfl (.inl rfl) nd_weight nc_weight)) (d_peek (d_var 0 rfl (.inl rfl) nd_prime nc_prime)))) (d_peek d_int))
  (s_one (s_set 4 sc_combined.nd rfl (.inl rfl) (d_call (ok_lessened V) (by decide) c rfl (a_cons (d_var 0 rfl (.inl rfl) nd_prime nc_prime) (a_cons (d_var 4 rfl (.inl rfl) nd_total nc_total) (a_cons (d_neg (d_peek (d_var 5 rfl (.inl rfl) nd_weight nc_weight))) (a_cons (d_var 6 rfl (.inl rfl) nd_row nc_row) a_nil))))) rfl (.inl rfl)))
  s_nil)))
  (s_one (s_ret (d_var 4 rfl (.inl rfl) nd_total nc_total)))))
theorem ok_cross_answer (V : WD K mg base) : PFn P w K mg base 1 "cross_answer" 4 [] f_cross_answer := by
  obtain ⟨fd, F⟩ := V.df 18 (d := d_cross_answer) rfl
  exact pfn (N := N_cross_answer) (ps := ["prime", "matrix", "x", "y"]) (k := 0) (g := g_cross_answer) F sc_cross_answer (V.glo 52) (fun _ _ _ _ _ _ us hl => match us, hl with | [_, _, _, _], _ => rfl) fun _ _ _ _ _ _ W c =>
  (s_cons (s_setC2 4 rfl sc_cross_answer.nd rfl rfl (ib_enum (by rfl) (V.free 25) (d_peek (d_var 1 rfl (.inl rfl) nd_matrix nc_matrix))) (blkOk_by (own := [("at", 5), ("row", 6), ("place", 7), ("number", 8)]) (by rfl)) (by decide) (fun _ _ _ _ _ => (g_tu rfl (gs_cons (g_nm 5 sc_cross_answer.nd rfl (.inl rfl) (.inr rfl)) (gs_cons (g_nm 6 sc_cross_answer.nd rfl (.inl rfl) (.inr rfl)) gs_nil)))) (by decide) (fun _ _ _ _ _ => ts_none) (fun _ _ _ _ _ => (i_enum (by rfl) (V.free 25) (d_var 6 rfl (.inl rfl) nd_row nc_row))) (fun _ _ _ _ _ => (g_tu rfl (gs_cons (g_nm 7 sc_cross_answer.nd rfl (.inl rfl) (.inr rfl)) (gs_cons (g_nm 8 sc_cross_answer.nd rfl (.inl rfl) (.inr rfl)) gs_nil)))) (by decide) (fun _ _ _ _ _ => ts_none) (fun _ _ _ _ _ => (d_mul (d_peek (d_mul (d_peek (d_var 8 rfl (.inl rfl) nd_number nc_number)) (d_peek (d_ix (d_peek (d_var 2 rfl (.inr (.inl rfl)) nd_x nc_x)) (d_peek (d_var 5 rfl (.inl rfl) nd_at nc_at)))))) (d_peek (d_ix (d_peek (d_var 3 rfl (.inr (.inl rfl)) nd_y nc_y)) (d_peek (d_var 7 rfl (.inl rfl) nd_place nc_place)))))) rfl rfl rfl)
  (s_one (s_ret (d_mod (d_peek (d_b1 (b_sum) rfl (V.free 51) (d_peek (d_var 4 rfl (.inl rfl) nd_parts nc_parts)))) (d_peek (d_var 0 rfl (.inl rfl) nd_prime nc_prime))))))
theorem ok_cross_answers (V : WD K mg base) : PFn P w K mg base 3 "cross_answers" 4 [] f_cross_answers := by
  obtain ⟨fd, F⟩ := V.df 19 (d := d_cross_answers) rfl
  exact pfn (N := N_cross_answers) (ps := ["table", "matrix", "firsts", "seconds"]) (k := 2) (g := g_cross_answers) F sc_cross_answers (V.glo 53) (fun _ _ _ _ _ _ us hl => match us, hl with | [_, _, _, _], _ => rfl) fun _ _ _ _ _ _ W c =>
  (s_cons (s_own 4 sc_cross_answers.nd rfl (.inl rfl) (l_lst a_nil) rfl (.inl rfl))
  (s_cons (s_for c.po rfl (i_seq (d_fld (forall_cons ⟨V.cls 29, V.noat 34⟩ (fun C h => absurd h List.not_mem_nil)) (d_peek (d_var 0 rfl (.inl rfl) nd_table nc_table)))) (g_tu rfl (gs_cons (g_nm 5 sc_cross_answers.nd rfl (.inl rfl) (.inl rfl)) (gs_cons (g_nm 6 sc_cross_answers.nd rfl (.inl rfl) (.inl rfl)) gs_nil)))
  (s_cons (s_set 7 sc_cross_answers.nd rfl (.inl rfl) (d_call (ok_combined V) (by decide) c rfl (a_cons (d_fld (forall_cons ⟨V.cls 29, V.noat 30⟩ (fun C h => absurd h List.not_mem_nil)) (d_peek (d_var 0 rfl (.inl rfl) nd_table nc_table))) (a_cons (d_b1 b_len rfl (V.free 1) (d_peek (d_ix (d_peek (d_var 2 rfl (.inl rfl) nd_firsts nc_firsts)) (d_peek d_int)))) (a_cons (d_var 5 rfl (.inl rfl) nd_one nc_one) (a_cons (d_var 2 rfl (.inl rfl) nd_firsts nc_firsts) a_nil))))) rfl (.inl rfl))
  (s_cons (s_set 8 sc_cross_answers.nd rfl (.inl rfl) (d_call (ok_combined V) (by decide) c rfl (a_cons (d_fld (forall_cons ⟨V.cls 29, V.noat 30⟩ (fun C h => absurd h List.not_mem_nil)) (d_peek (d_var 0 rfl (.inl rfl) nd_table nc_table))) (a_cons (d_b1 b_len rfl (V.free 1) (d_peek (d_ix (d_peek (d_var 3 rfl (.inl rfl) nd_seconds nc_seconds)) (d_peek d_int)))) (a_cons (d_var 6 rfl (.inl rfl) nd_two nc_two) (a_cons (d_var 3 rfl (.inl rfl) nd_seconds nc_seconds) a_nil))))) rfl (.inl rfl))
  (s_one (s_app 4 PySem.F.plainAttrs_list PySem.F.slot_list_append PySem.F.type_list_append rfl (.inl rfl) (d_call (ok_cross_answer V) (by decide) c rfl (a_cons (d_fld (forall_cons ⟨V.cls 29, V.noat 30⟩ (fun C h => absurd h List.not_mem_nil)) (d_peek (d_var 0 rfl (.inl rfl) nd_table nc_table))) (a_cons (d_var 1 rfl (.inl rfl) nd_matrix nc_matrix) (a_cons (d_var 7 rfl (.inl rfl) nd_x nc_x) (a_cons (d_var 8 rfl (.inl rfl) nd_y nc_y) a_nil))))) nd_found nc_found)))))
  (s_one (s_ret (d_b1 b_tuple rfl (V.free 35) (d_peekv 4 rfl (.inl rfl) nd_found nc_found))))))
theorem ok__law_whole (V : WD K mg base) : PFn P w K mg base 1 "_law_whole" 1 [] f__law_whole := by
  obtain ⟨fd, F⟩ := V.df 20 (d := d__law_whole) rfl
  exact pfn (N := N__law_whole) (ps := ["value"]) (k := 0) (g := g__law_whole) F sc__law_whole (V.glo 55) (fun _ _ _ _ _ _ us hl => match us, hl with | [_], _ => rfl) fun _ _ _ _ _ _ W c =>
  (s_one (s_ret (d_and (d_isInt rfl (V.free 0) rfl (V.free 45) (d_peek (d_var 0 rfl (.inl rfl) nd_value nc_value))) (d_one (d_not (d_isBool rfl (V.free 54) rfl (V.free 45) (d_peek (d_var 0 rfl (.inl rfl) nd_value nc_value))))))))
theorem ok__law_residues (V : WD K mg base) : PFn P w K mg base 2 "_law_residues" 3 [] f__law_residues := by
  obtain ⟨fd, F⟩ := V.df 21 (d := d__law_residues) rfl
  exact pfn (N := N__law_residues) (ps := ["prime", "value", "size"]) (k := 1) (g := g__law_residues) F sc__law_residues (V.glo 56) (fun _ _ _ _ _ _ us hl => match us, hl with | [_, _, _], _ => rfl) fun _ _ _ _ _ _ W c =>
  (s_cons (s_if (t_w (t_or (t_not (d_truth (d_peek (d_isTuple rfl (V.free 35) rfl (V.free 45) (d_peek (d_var 1 rfl (.inl rfl) nd_value nc_value)))))) (t_or1 (d_cT (c_ne (Ctx.un c)) (d_peek (d_b1 b_len rfl (V.free 1) (d_peek (d_var 1 rfl (.inl rfl) nd_value nc_value)))) (d_peek (d_var 2 rfl (.inl rfl) nd_size nc_size))))))
  (s_one (s_ret d_bl))
  s_nil)
  (s_cons (s_for c.po rfl (i_seq (d_var 1 rfl (.inl rfl) nd_value nc_value)) (g_nm 3 sc__law_residues.nd rfl (.inl rfl) (.inl rfl))
  (s_one (s_if (t_w (t_or (t_not (d_truth (d_peek (d_call (ok__law_whole V) (by decide) c rfl (a_cons (d_var 3 rfl (.inl rfl) nd_one nc_one) a_nil))))) (t_or1 (t_not (d_chainT c_le c_lt (d_peek d_int) (d_peek (d_var 3 rfl (.inl rfl) nd_one nc_one)) (d_peek (d_var 0 rfl (.inl rfl) nd_prime nc_prime)))))))
  (s_one (s_ret d_bl))
  s_nil)))
  (s_one (s_ret d_bl))))
theorem ok__law_sum (V : WD K mg base) : PFn P w K mg base 1 "_law_sum" 4 [] f__law_sum := by
  obtain ⟨fd, F⟩ := V.df 22 (d := d__law_sum) rfl
  exact pfn (N := N__law_sum) (ps := ["prime", "width", "weights", "rows"]) (k := 0) (g := g__law_sum) F sc__law_sum (V.glo 57) (fun _ _ _ _ _ _ us hl => match us, hl with | [_, _, _, _], _ => rfl) fun _ _ _ _ _ _ W c =>
  (s_cons (s_set 4 sc__law_sum.nd rfl (.inr rfl) (d_lstE (l_comp rfl sc__law_sum.nd (i_rng1 (by rfl) (V.free 2) (d_peek (d_var 1 rfl (.inl rfl) nd_width nc_width))) (blkOk_by (own := [("k", 6)]) (by rfl)) (fun _ _ _ _ _ => (g_nm 6 sc__law_sum.nd rfl (.inl rfl) (.inr rfl))) (by decide) (fun _ _ _ _ _ => ts_none) (fun _ _ _ _ _ => d_int))) rfl (.inl rfl))
  (s_cons (s_for c.po rfl (i_rng1 (by rfl) (V.free 2) (d_peek (d_b1 b_len rfl (V.free 1) (d_peek (d_var 3 rfl (.inr (.inl rfl)) nd_rows nc_rows))))) (g_nm 5 sc__law_sum.nd rfl (.inr rfl) (.inl rfl))
  (s_one (s_set 4 sc__law_sum.nd rfl (.inr rfl) (d_lstE (l_comp rfl sc__law_sum.nd (i_rng1 (by rfl) (V.free 2) (d_peek (d_var 1 rfl (.inl rfl) nd_width nc_width))) (blkOk_by (own := [("k", 6)]) (by rfl)) (fun _ _ _ _ _ => (g_nm 6 sc__law_sum.nd rfl (.inl rfl) (.inr rfl))) (by decide) (fun _ _ _ _ _ => ts_none) (fun _ _ _ _ _ => (d_mod (d_peek (d_b1 b_int rfl (V.free 0) (d_peek (d_add (d_peek (d_ix (d_peek (d_var 4 rfl (.inr (.inl rfl)) nd_total nc_total)) (d_peek (d_var 6 rfl (.inl rfl) nd_k nc_k)))) (d_peek (d_mul (d_peek (d_b1 b_int rfl (V.free 0) (d_peek (d_ix (d_peek (d_var 2 rfl (.inr (.inl rfl)) nd_weights nc_weights)) (d_peek (d_var 5 rfl (.inr (.inl rfl)) nd_at nc_at)))))) (d_peek (d_ix (d_peek (d_ix (d_peek (d_var 3 rfl (.inr (.inl rfl)) nd_rows nc_rows)) (d_peek (d_var 5 rfl (.inr (.inl rfl)) nd_at nc_at)))) (d_peek (d_var 6 rfl (.inl rfl) nd_k nc_k)))))))))) (d_peek (d_var 0 rfl (.inr (.inl rfl)) nd_prime nc_prime)))))) rfl (.inl rfl))))
  (s_one (s_ret (d_var 4 rfl (.inr (.inl rfl)) nd_total nc_total)))))
theorem ok__law_product (V : WD K mg base) : PFn P w K mg base 1 "_law_product" 4 [] f__law_product := by
  obtain ⟨fd, F⟩ := V.df 23 (d := d__law_product) rfl
  exact pfn (N := N__law_product) (ps := ["prime", "matrix", "x", "y"]) (k := 0) (g := g__law_product) F sc__law_product (V.glo 58) (fun _ _ _ _ _ _ us hl => match us, hl with | [_, _, _, _], _ => rfl) fun _ _ _ _ _ _ W c =>
  (s_cons (s_set 4 sc__law_product.nd rfl (.inl rfl) d_int rfl (.inl rfl))
  (s_cons (s_for c.po rfl (i_rng1 (by rfl) (V.free 2) (d_peek (d_b1 b_len rfl (V.free 1) (d_peek (d_var 1 rfl (.inl rfl) nd_matrix nc_matrix))))) (g_nm 5 sc__law_product.nd rfl (.inl rfl) (.inl rfl))
  (s_one (s_for c.po rfl (i_rng1 (by rfl) (V.free 2) (d_peek (d_b1 b_len rfl (V.free 1) (d_peek (d_ix (d_peek (d_var 1 rfl (.inl rfl) nd_matrix nc_matrix)) (d_peek (d_var 5 rfl (.inl rfl) nd_a nc_a))))))) (g_nm 6 sc__law_product.nd rfl (.inl rfl) (.inl rfl))
  (s_one (s_set 4 sc__law_product.nd rfl (.inl rfl) (d_mod (d_peek (d_b1 b_int rfl (V.free 0) (d_peek (d_add (d_peek (d_var 4 rfl (.inl rfl) nd_total nc_total)) (d_peek (d_mul (d_peek (d_mul (d_peek (d_ix (d_peek (d_ix (d_peek (d_var 1 rfl (.inl rfl) nd_matrix nc_matrix)) (d_peek (d_var 5 rfl (.inl rfl) nd_a nc_a)))) (d_peek (d_var 6 rfl (.inl rfl) nd_b nc_b)))) (d_peek (d_ix (d_peek (d_var 2 rfl (.inl rfl) nd_x nc_x)) (d_peek (d_var 5 rfl (.inl rfl) nd_a nc_a)))))) (d_peek (d_ix (d_peek (d_var 3 rfl (.inl rfl) nd_y nc_y)) (d_peek (d_var 6 rfl (.inl rfl) nd_b nc_b)))))))))) (d_peek (d_var 0 rfl (.inl rfl) nd_prime nc_prime))) rfl (.inl rfl))))))
  (s_one (s_ret (d_var 4 rfl (.inl rfl) nd_total nc_total)))))
theorem ok_crossed (V : WD K mg base) : PFn P w K mg base 1 "crossed" 3 [] f_crossed := by
  obtain ⟨fd, F⟩ := V.df 24 (d := d_crossed) rfl
  exact pfn (N := N_crossed) (ps := ["prime", "one", "two"]) (k := 0) (g := g_crossed) F sc_crossed (V.glo 59) (fun _ _ _ _ _ _ us hl => match us, hl with | [_, _, _], _ => rfl) fun _ _ _ _ _ _ W c =>
  (s_one (s_ret (d_b1 b_tuple rfl (V.free 35) (d_peek (d_lstE (l_comp2 rfl sc_crossed.nd (ib_seq (d_peek (d_var 1 rfl (.inl rfl) nd_one nc_one))) (blkOk_by (own := [("first", 3), ("second", 4)]) (by rfl)) (by decide) (fun _ _ _ _ _ => (g_nm 3 sc_crossed.nd rfl (.inl rfl) (.inr rfl))) (by decide) (fun _ _ _ _ _ => ts_none) (fun _ _ _ _ _ => (i_seq (d_var 2 rfl (.inr (.inl rfl)) nd_two nc_two))) (fun _ _ _ _ _ => (g_nm 4 sc_crossed.nd rfl (.inl rfl) (.inr rfl))) (by decide) (fun _ _ _ _ _ => ts_none) (fun _ _ _ _ _ => (d_mod (d_peek (d_mul (d_peek (d_var 3 rfl (.inl rfl) nd_first nc_first)) (d_peek (d_var 4 rfl (.inl rfl) nd_second nc_second)))) (d_peek (d_var 0 rfl (.inr (.inl rfl)) nd_prime nc_prime))))))))))
theorem law0 (V : WD K mg base) {fd : FuncData} (F : FunD K d_law.name d_law.qual d_law.params d_law.body d_law.scope (d_law.dvs K) (d_law.kws K) (fAd K d_law.at_) fd) : FnOk P w K mg base (L2.CX P w) 8 (fAd K d_law.at_) fd ["script"] (spD K 1 f_law) :=
  fnOk (N := N_law) (ps := ["script"]) (k := 7) (g := g_law) F sc_law fun _ _ _ _ _ _ W c =>
  (s_cons (s_set 1 sc_law.nd rfl (.inl rfl) (d_call (ok__law_digits V) (by decide) c rfl (a_cons (d_call (ok__law_cell V) (by decide) c rfl (a_cons (d_var 0 rfl (.inl rfl) nd_script nc_script) (a_cons d_int a_nil))) (a_cons (d_lstE (l_lst (a_cons d_int (a_cons d_int (a_cons d_int (a_cons d_int (a_cons d_int (a_cons d_int (a_cons d_int (a_cons d_int (a_cons d_int a_nil))))))))))) a_nil))) rfl (.inl rfl))
  (s_cons (s_set 2 sc_law.nd rfl (.inr rfl) (d_call (ok__law_great_prime V) (by decide) c rfl (a_cons (d_ix (d_peek (d_var 1 rfl (.inl rfl) nd_draw nc_draw)) (d_peek d_int)) a_nil)) rfl (.inl rfl))
  (s_cons (s_set 3 sc_law.nd rfl (.inl rfl) (d_add (d_peek d_int) (d_peek (d_ix (d_peek (d_var 1 rfl (.inl rfl) nd_draw nc_draw)) (d_peek d_int)))) rfl (.inl rfl))
  (s_cons (s_set 4 sc_law.nd rfl (.inr rfl) (d_add (d_peek d_int) (d_peek (d_ix (d_peek (d_var 1 rfl (.inl rfl) nd_draw nc_draw)) (d_peek d_int)))) rfl (.inl rfl))
  (s_cons (s_set 5 sc_law.nd rfl (.inr rfl) (d_call (ok__law_digits V) (by decide) c rfl (a_cons (d_call (ok__law_cell V) (by decide) c rfl (a_cons (d_var 0 rfl (.inl rfl) nd_script nc_script) (a_cons d_int a_nil))) (a_cons (d_lstE (l_comp rfl sc_law.nd (i_rng1 (by rfl) (V.free 2) (d_peek d_int)) (blkOk_by (own := [("k", 30)]) (by rfl)) (fun _ _ _ _ _ => (g_nm 30 sc_law.nd rfl (.inl rfl) (.inr rfl))) (by decide) (fun _ _ _ _ _ => ts_none) (fun _ _ _ _ _ => d_int))) a_nil))) rfl (.inl rfl))
  (s_cons (s_own 6 sc_law.nd rfl (.inr rfl) (l_lst a_nil) rfl (.inl rfl))
  (s_cons (s_for c.po rfl (i_rng1 (by rfl) (V.free 2) (d_peek (d_ix (d_peek (d_var 1 rfl (.inl rfl) nd_draw nc_draw)) (d_peek d_int)))) (g_nm 7 sc_law.nd rfl (.inr rfl) (.inl rfl))
  (s_cons (s_setC 22 rfl sc_law.nd rfl rfl (i_rng1 (by rfl) (V.free 2) (d_peek (d_var 3 rfl (.inl rfl) nd_lots nc_lots))) (blkOk_by (own := [("k", 30)]) (by rfl)) (fun _ _ _ _ _ => (g_nm 30 sc_law.nd rfl (.inl rfl) (.inr rfl))) (by decide) (fun _ _ _ _ _ => ts_none) (fun _ _ _ _ _ => (d_sub (d_peek (d_ix (d_peek (d_var 5 rfl (.inr (.inl rfl)) nd_numbers nc_numbers)) (d_peek (d_mod (d_peek (d_add (d_peek (d_mul (d_peek d_int) (d_peek (d_var 7 rfl (.inr (.inl rfl)) nd_hand nc_hand)))) (d_peek (d_var 30 rfl (.inl rfl) nd_k nc_k)))) (d_peek d_int))))) (d_peek d_int))) rfl rfl rfl)
  (s_cons (s_setC 23 rfl sc_law.nd rfl rfl (i_rng1 (by rfl) (V.free 2) (d_peek (d_var 4 rfl (.inr (.inl rfl)) nd_others nc_others))) (blkOk_by (own := [("k", 30)]) (by rfl)) (fun _ _ _ _ _ => (g_nm 30 sc_law.nd rfl (.inl rfl) (.inr rfl))) (by decide) (fun _ _ _ _ _ => ts_none) (fun _ _ _ _ _ => (d_sub (d_peek (d_ix (d_peek (d_var 5 rfl (.inr (.inl rfl)) nd_numbers nc_numbers)) (d_peek (d_mod (d_peek (d_add (d_peek (d_add (d_peek (d_mul (d_peek d_int) (d_peek (d_var 7 rfl (.inr (.inl rfl)) nd_hand nc_hand)))) (d_peek d_int))) (d_peek (d_var 30 rfl (.inl rfl) nd_k nc_k)))) (d_peek d_int))))) (d_peek d_int))) rfl rfl rfl)
  (s_one (s_app 6 PySem.F.plainAttrs_list PySem.F.slot_list_append PySem.F.type_list_append rfl (.inr (.inl rfl)) (d_lstE (l_lst (a_cons (d_var 22 rfl (.inl rfl) nd_one nc_one) (a_cons (d_var 23 rfl (.inl rfl) nd_two nc_two) a_nil)))) nd_rows nc_rows)))))
  (s_cons (s_ownC 8 rfl sc_law.nd rfl rfl (ib_seq (d_peekv 6 rfl (.inr (.inl rfl)) nd_rows nc_rows)) (blkOk_by (own := [("pair", 13)]) (by rfl)) (fun _ _ _ _ _ => (g_nm 13 sc_law.nd rfl (.inl rfl) (.inr rfl))) (by decide) (fun _ _ _ _ _ => ts_none) (fun _ _ _ _ _ => (d_b1 b_list rfl (V.free 6) (d_peek (d_var 13 rfl (.inl rfl) nd_pair nc_pair)))) rfl rfl rfl)
  (s_cons (s_if (t_w (t_and (d_cT (c_eq (Ctx.un c)) (d_peek (d_ix (d_peek (d_var 1 rfl (.inl rfl) nd_draw nc_draw)) (d_peek d_int))) (d_peek d_int)) (t_and1 (d_cT c_gt (d_peek (d_b1 b_len rfl (V.free 1) (d_peekv 8 rfl (.inl rfl) nd_bad nc_bad))) (d_peek d_int)))))
  (s_one (s_sto 8 rfl (.inl rfl) (d_lstE (l_lst (a_cons (d_add (d_peek (d_ix (d_peek (d_ix (d_peekv 8 rfl (.inl rfl) nd_bad nc_bad) (d_peek d_int))) (d_peek d_int))) (d_peek (d_lstE (l_lst (a_cons d_int a_nil))))) (a_cons (d_ix (d_peek (d_ix (d_peekv 8 rfl (.inl rfl) nd_bad nc_bad) (d_peek d_int))) (d_peek d_int)) a_nil)))) (d_mod (d_peek (d_ix (d_peek (d_var 1 rfl (.inl rfl) nd_draw nc_draw)) (d_peek d_int))) (d_peek (d_b1 b_len rfl (V.free 1) (d_peekv 8 rfl (.inl rfl) nd_bad nc_bad)))) nd_bad nc_bad))
  s_nil)
  (s_cons (s_if (t_w (t_and (d_cT (c_eq (Ctx.un c)) (d_peek (d_ix (d_peek (d_var 1 rfl (.inl rfl) nd_draw nc_draw)) (d_peek d_int))) (d_peek d_int)) (t_and1 (d_cT c_gt (d_peek (d_b1 b_len rfl (V.free 1) (d_peekv 8 rfl (.inl rfl) nd_bad nc_bad))) (d_peek d_int)))))
  (s_one (s_sto 8 rfl (.inl rfl) (d_lstE (l_lst (a_cons (d_ix (d_peek (d_ix (d_peekv 8 rfl (.inl rfl) nd_bad nc_bad) (d_peek d_int))) (d_peek d_int)) (a_cons (d_sl (d_peek (d_ix (d_peek (d_ix (d_peekv 8 rfl (.inl rfl) nd_bad nc_bad) (d_peek d_int))) (d_peek d_int))) (o_some d_int) o_none) a_nil)))) (d_mod (d_peek (d_ix (d_peek (d_var 1 rfl (.inl rfl) nd_draw nc_draw)) (d_peek d_int))) (d_peek (d_b1 b_len rfl (V.free 1) (d_peekv 8 rfl (.inl rfl) nd_bad nc_bad)))) nd_bad nc_bad))
  s_nil)
  (s_cons (s_if (t_w (t_and (d_cT (c_eq (Ctx.un c)) (d_peek (d_ix (d_peek (d_var 1 rfl (.inl rfl) nd_draw nc_draw)) (d_peek d_int))) (d_peek d_int)) (t_and1 (d_cT c_gt (d_peek (d_b1 b_len rfl (V.free 1) (d_peekv 8 rfl (.inl rfl) nd_bad nc_bad))) (d_peek d_int)))))
  (s_one (s_sto 8 rfl (.inl rfl) (d_lstE (l_lst (a_cons (d_ix (d_peek (d_ix (d_peekv 8 rfl (.inl rfl) nd_bad nc_bad) (d_peek d_int))) (d_peek d_int)) (a_cons (d_ix (d_peek (d_ix (d_peekv 8 rfl (.inl rfl) nd_bad nc_bad) (d_peek d_int))) (d_peek d_int)) (a_cons (d_ix (d_peek (d_ix (d_peekv 8 rfl (.inl rfl) nd_bad nc_bad) (d_peek d_int))) (d_peek d_int)) a_nil))))) (d_mod (d_peek (d_ix (d_peek (d_var 1 rfl (.inl rfl) nd_draw nc_draw)) (d_peek d_int))) (d_peek (d_b1 b_len rfl (V.free 1) (d_peekv 8 rfl (.inl rfl) nd_bad nc_bad)))) nd_bad nc_bad))
  s_nil)
  (s_cons (s_if (d_cT (c_eq (Ctx.un c)) (d_peek (d_ix (d_peek (d_var 1 rfl (.inl rfl) nd_draw nc_draw)) (d_peek d_int))) (d_peek d_int))
  (s_one (s_own 8 sc_law.nd rfl (.inl rfl) (l_sl (d_peek (d_add (d_peekv 8 rfl (.inl rfl) nd_bad nc_bad) (d_peek (d_mul (d_peek (d_lstE (l_lst (a_cons (d_lstE (l_lst (a_cons (d_lstE (l_comp rfl sc_law.nd (i_rng1 (by rfl) (V.free 2) (d_peek (d_var 3 rfl (.inl rfl) nd_lots nc_lots))) (blkOk_by (own := [("k", 30)]) (by rfl)) (fun _ _ _ _ _ => (g_nm 30 sc_law.nd rfl (.inl rfl) (.inr rfl))) (by decide) (fun _ _ _ _ _ => ts_none) (fun _ _ _ _ _ => d_int))) (a_cons (d_lstE (l_comp rfl sc_law.nd (i_rng1 (by rfl) (V.free 2) (d_peek (d_var 4 rfl (.inr (.inl rfl)) nd_others nc_others))) (blkOk_by (own := [("k", 30)]) (by rfl)) (fun _ _ _ _ _ => (g_nm 30 sc_law.nd rfl (.inl rfl) (.inr rfl))) (by decide) (fun _ _ _ _ _ => ts_none) (fun _ _ _ _ _ => d_int))) a_nil)))) a_nil)))) (d_peek d_int))))) o_none (o_some (d_add (d_peek d_int) (d_peek (d_mod (d_peek (d_ix (d_peek (d_var 1 rfl (.inl rfl) nd_draw nc_draw)) (d_peek d_int))) (d_peek d_int)))))) rfl (.inl rfl)))
  s_nil)
  (s_cons (s_set 9 sc_law.nd rfl (.inl rfl) (d_lstE (l_lst (a_cons (d_lstE (l_lst (a_cons (d_var 2 rfl (.inr (.inl rfl)) nd_prime nc_prime) (a_cons (d_var 3 rfl (.inl rfl) nd_lots nc_lots) (a_cons (d_var 4 rfl (.inr (.inl rfl)) nd_others nc_others) a_nil))))) (a_cons (d_lstE (l_lst (a_cons d_int (a_cons (d_var 3 rfl (.inl rfl) nd_lots nc_lots) (a_cons (d_var 4 rfl (.inr (.inl rfl)) nd_others nc_others) a_nil))))) (a_cons (d_lstE (l_lst (a_cons d_int (a_cons (d_var 3 rfl (.inl rfl) nd_lots nc_lots) (a_cons (d_var 4 rfl (.inr (.inl rfl)) nd_others nc_others) a_nil))))) (a_cons (d_lstE (l_lst (a_cons (d_var 2 rfl (.inr (.inl rfl)) nd_prime nc_prime) (a_cons d_int (a_cons (d_var 4 rfl (.inr (.inl rfl)) nd_others nc_others) a_nil))))) (a_cons (d_lstE (l_lst (a_cons (d_var 2 rfl (.inr (.inl rfl)) nd_prime nc_prime) (a_cons (d_var 3 rfl (.inl rfl) nd_lots nc_lots) (a_cons d_int a_nil))))) (a_cons (d_lstE (l_lst (a_cons (d_var 2 rfl (.inr (.inl rfl)) nd_prime nc_prime) (a_cons d_int (a_cons d_int a_nil))))) (a_cons (d_lstE (l_lst (a_cons d_int (a_cons d_int (a_cons d_int a_nil))))) a_nil))))))))) rfl (.inl rfl))
  (s_cons (s_set 10 sc_law.nd rfl (.inl rfl) (d_ix (d_peek (d_add (d_peek (d_var 9 rfl (.inl rfl) nd_shape nc_shape)) (d_peek (d_mul (d_peek (d_lstE (l_lst (a_cons (d_lstE (l_lst (a_cons (d_var 2 rfl (.inr (.inl rfl)) nd_prime nc_prime) (a_cons (d_var 3 rfl (.inl rfl) nd_lots nc_lots) (a_cons (d_var 4 rfl (.inr (.inl rfl)) nd_others nc_others) a_nil))))) a_nil)))) (d_peek d_int))))) (d_peek (d_ix (d_peek (d_var 1 rfl (.inl rfl) nd_draw nc_draw)) (d_peek d_int)))) rfl (.inl rfl))
  (s_frz 6 (s_frz 8 (s_cons (s_if (t_w (t_or (t_not (d_truth (d_peek (d_call (ok__law_built V) (by decide) c rfl (a_cons (d_ix (d_peek (d_var 10 rfl (.inl rfl) nd_chosen nc_chosen)) (d_peek d_int)) (a_cons (d_ix (d_peek (d_var 10 rfl (.inl rfl) nd_chosen nc_chosen)) (d_peek d_int)) (a_cons (d_ix (d_peek (d_var 10 rfl (.inl rfl) nd_chosen nc_chosen)) (d_peek d_int)) (a_cons (d_var 8 rfl (.inl rfl) nd_bad nc_bad) a_nil)))))))) (t_or1 (t_not (d_truth (d_peek (d_call (ok__law_built V) (by decide) c rfl (a_cons (d_var 2 rfl (.inr (.inl rfl)) nd_prime nc_prime) (a_cons (d_var 3 rfl (.inl rfl) nd_lots nc_lots) (a_cons (d_var 4 rfl (.inr (.inl rfl)) nd_others nc_others) (a_cons (d_var 6 rfl (.inr (.inl rfl)) nd_rows nc_rows) a_nil)))))))))))
  (s_one (s_ret d_bl))
  s_nil)
  (s_scratch 11 12 13 c rfl sc_law.nd (by decide) (by decide) (by decide) rfl rfl rfl rfl rfl rfl (ib_seq (d_peekv 6 rfl (.inr (.inl rfl)) nd_rows nc_rows)) (blkOk_by (own := [("pair", 13)]) (by rfl)) (fun _ _ _ _ _ => (g_nm 13 sc_law.nd rfl (.inl rfl) (.inr rfl))) (by decide) (fun _ _ _ _ _ => (n_lst (an_cons (n_new (l_list rfl (V.free 6) (d_peek (d_ix (d_peek (d_var 13 rfl (.inl rfl) nd_pair nc_pair)) (d_peek d_int))))) (an_cons (n_new (l_list rfl (V.free 6) (d_peek (d_ix (d_peek (d_var 13 rfl (.inl rfl) nd_pair nc_pair)) (d_peek d_int))))) an_nil)))) (d_make (ok_CrossTable V) (by decide) c rfl (a_cons (d_var 2 rfl (.inr (.inl rfl)) nd_prime nc_prime) (a_cons (d_var 3 rfl (.inl rfl) nd_lots nc_lots) (a_cons (d_var 4 rfl (.inr (.inl rfl)) nd_others nc_others) (a_cons (d_var 11 rfl (.inl rfl) nd_given nc_given) a_nil)))))
  (s_cons (s_set 14 sc_law.nd rfl (.inr rfl) (d_add (d_peek d_int) (d_peek (d_ix (d_peek (d_var 1 rfl (.inl rfl) nd_draw nc_draw)) (d_peek d_int)))) rfl (.inl rfl))
  (s_cons (s_set 15 sc_law.nd rfl (.inr rfl) (d_add (d_peek d_int) (d_peek (d_ix (d_peek (d_var 1 rfl (.inl rfl) nd_draw nc_draw)) (d_peek d_int)))) rfl (.inl rfl))
  (s_cons (s_set 16 sc_law.nd rfl (.inr rfl) (d_call (ok__law_digits V) (by decide) c rfl (a_cons (d_call (ok__law_cell V) (by decide) c rfl (a_cons (d_var 0 rfl (.inl rfl) nd_script nc_script) (a_cons d_int a_nil))) (a_cons (d_lstE (l_comp rfl sc_law.nd (i_rng1 (by rfl) (V.free 2) (d_peek d_int)) (blkOk_by (own := [("k", 30)]) (by rfl)) (fun _ _ _ _ _ => (g_nm 30 sc_law.nd rfl (.inl rfl) (.inr rfl))) (by decide) (fun _ _ _ _ _ => ts_none) (fun _ _ _ _ _ => d_int))) a_nil))) rfl (.inl rfl))
  (s_cons (s_setC 17 rfl sc_law.nd rfl rfl (i_rng1 (by rfl) (V.free 2) (d_peek (d_var 14 rfl (.inr (.inl rfl)) nd_high nc_high))) (blkOk_by (own := [("a", 27)]) (by rfl)) (fun _ _ _ _ _ => (g_nm 27 sc_law.nd rfl (.inr rfl) (.inl rfl))) (by decide) (fun _ _ _ _ _ => ts_none) (fun _ _ _ _ _ => (d_lstE (l_comp rfl sc_law.nd (i_rng1 (by rfl) (V.free 2) (d_peek (d_var 15 rfl (.inr (.inl rfl)) nd_wide nc_wide))) (blkOk_by (own := [("b", 28)]) (by rfl)) (fun _ _ _ _ _ => (g_nm 28 sc_law.nd rfl (.inl rfl) (.inr rfl))) (by decide) (fun _ _ _ _ _ => ts_none) (fun _ _ _ _ _ => (d_sub (d_peek (d_ix (d_peek (d_var 16 rfl (.inr (.inl rfl)) nd_more nc_more)) (d_peek (d_mod (d_peek (d_add (d_peek (d_mul (d_peek (d_var 15 rfl (.inr (.inl rfl)) nd_wide nc_wide)) (d_peek (d_var 27 rfl (.inr (.inl rfl)) nd_a nc_a)))) (d_peek (d_var 28 rfl (.inl rfl) nd_b nc_b)))) (d_peek d_int))))) (d_peek d_int)))))) rfl rfl rfl)
  (s_cons (s_set 18 sc_law.nd rfl (.inr rfl) (d_call (ok__law_digits V) (by decide) c rfl (a_cons (d_call (ok__law_cell V) (by decide) c rfl (a_cons (d_var 0 rfl (.inl rfl) nd_script nc_script) (a_cons d_int a_nil))) (a_cons (d_lstE (l_comp rfl sc_law.nd (i_rng1 (by rfl) (V.free 2) (d_peek d_int)) (blkOk_by (own := [("k", 30)]) (by rfl)) (fun _ _ _ _ _ => (g_nm 30 sc_law.nd rfl (.inl rfl) (.inr rfl))) (by decide) (fun _ _ _ _ _ => ts_none) (fun _ _ _ _ _ => d_int))) a_nil))) rfl (.inl rfl))
  (s_cons (s_setC 19 rfl sc_law.nd rfl rfl (i_rng1 (by rfl) (V.free 2) (d_peek (d_var 3 rfl (.inl rfl) nd_lots nc_lots))) (blkOk_by (own := [("i", 29)]) (by rfl)) (fun _ _ _ _ _ => (g_nm 29 sc_law.nd rfl (.inr rfl) (.inl rfl))) (by decide) (fun _ _ _ _ _ => ts_none) (fun _ _ _ _ _ => (d_lstE (l_comp rfl sc_law.nd (i_rng1 (by rfl) (V.free 2) (d_peek (d_var 14 rfl (.inr (.inl rfl)) nd_high nc_high))) (blkOk_by (own := [("k", 30)]) (by rfl)) (fun _ _ _ _ _ => (g_nm 30 sc_law.nd rfl (.inl rfl) (.inr rfl))) (by decide) (fun _ _ _ _ _ => ts_none) (fun _ _ _ _ _ => (d_sub (d_peek (d_ix (d_peek (d_var 18 rfl (.inr (.inl rfl)) nd_last nc_last)) (d_peek (d_mod (d_peek (d_add (d_peek (d_mul (d_peek (d_var 14 rfl (.inr (.inl rfl)) nd_high nc_high)) (d_peek (d_var 29 rfl (.inr (.inl rfl)) nd_i nc_i)))) (d_peek (d_var 30 rfl (.inl rfl) nd_k nc_k)))) (d_peek d_int))))) (d_peek d_int)))))) rfl rfl rfl)
  (s_cons (s_setC 20 rfl sc_law.nd rfl rfl (i_rng1 (by rfl) (V.free 2) (d_peek (d_var 4 rfl (.inr (.inl rfl)) nd_others nc_others))) (blkOk_by (own := [("j", 31)]) (by rfl)) (fun _ _ _ _ _ => (g_nm 31 sc_law.nd rfl (.inr rfl) (.inl rfl))) (by decide) (fun _ _ _ _ _ => ts_none) (fun _ _ _ _ _ => (d_lstE (l_comp rfl sc_law.nd (i_rng1 (by rfl) (V.free 2) (d_peek (d_var 15 rfl (.inr (.inl rfl)) nd_wide nc_wide))) (blkOk_by (own := [("k", 30)]) (by rfl)) (fun _ _ _ _ _ => (g_nm 30 sc_law.nd rfl (.inl rfl) (.inr rfl))) (by decide) (fun _ _ _ _ _ => ts_none) (fun _ _ _ _ _ => (d_sub (d_peek (d_ix (d_peek (d_var 18 rfl (.inr (.inl rfl)) nd_last nc_last)) (d_peek (d_mod (d_peek (d_sub (d_peek (d_sub (d_peek d_int) (d_peek (d_mul (d_peek (d_var 15 rfl (.inr (.inl rfl)) nd_wide nc_wide)) (d_peek (d_var 31 rfl (.inr (.inl rfl)) nd_j nc_j)))))) (d_peek (d_var 30 rfl (.inl rfl) nd_k nc_k)))) (d_peek d_int))))) (d_peek d_int)))))) rfl rfl rfl)
  (s_cons (s_set 21 sc_law.nd rfl (.inl rfl) (d_call (ok_cross_answers V) (by decide) c rfl (a_cons (d_var 12 rfl (.inl rfl) nd_table nc_table) (a_cons (d_lstE (l_comp rfl sc_law.nd (ib_seq (d_peek (d_var 17 rfl (.inl rfl) nd_matrix nc_matrix))) (blkOk_by (own := [("row", 32)]) (by rfl)) (fun _ _ _ _ _ => (g_nm 32 sc_law.nd rfl (.inl rfl) (.inr rfl))) (by decide) (fun _ _ _ _ _ => ts_none) (fun _ _ _ _ _ => (d_b1 b_list rfl (V.free 6) (d_peek (d_var 32 rfl (.inl rfl) nd_row nc_row)))))) (a_cons (d_lstE (l_comp rfl sc_law.nd (ib_seq (d_peek (d_var 19 rfl (.inl rfl) nd_firsts nc_firsts))) (blkOk_by (own := [("row", 32)]) (by rfl)) (fun _ _ _ _ _ => (g_nm 32 sc_law.nd rfl (.inl rfl) (.inr rfl))) (by decide) (fun _ _ _ _ _ => ts_none) (fun _ _ _ _ _ => (d_b1 b_list rfl (V.free 6) (d_peek (d_var 32 rfl (.inl rfl) nd_row nc_row)))))) (a_cons (d_lstE (l_comp rfl sc_law.nd (ib_seq (d_peek (d_var 20 rfl (.inl rfl) nd_seconds nc_seconds))) (blkOk_by (own := [("row", 32)]) (by rfl)) (fun _ _ _ _ _ => (g_nm 32 sc_law.nd rfl (.inl rfl) (.inr rfl))) (by decide) (fun _ _ _ _ _ => ts_none) (fun _ _ _ _ _ => (d_b1 b_tuple rfl (V.free 35) (d_peek (d_var 32 rfl (.inl rfl) nd_row nc_row)))))) a_nil))))) rfl (.inl rfl))
  (s_cons (s_if (t_not (d_truth (d_peek (d_call (ok__law_residues V) (by decide) c rfl (a_cons (d_var 2 rfl (.inr (.inl rfl)) nd_prime nc_prime) (a_cons (d_var 21 rfl (.inl rfl) nd_told nc_told) (a_cons (d_b1 b_len rfl (V.free 1) (d_peekv 6 rfl (.inr (.inl rfl)) nd_rows nc_rows)) a_nil)))))))
  (s_one (s_ret d_bl))
  s_nil)
  (s_cons (s_for c.po rfl (i_rng1 (by rfl) (V.free 2) (d_peek (d_b1 b_len rfl (V.free 1) (d_peekv 6 rfl (.inr (.inl rfl)) nd_rows nc_rows)))) (g_nm 7 sc_law.nd rfl (.inr rfl) (.inl rfl))
  (s_cons (s_set 24 sc_law.nd rfl (.inl rfl) (d_call (ok__law_sum V) (by decide) c rfl (a_cons (d_var 2 rfl (.inr (.inl rfl)) nd_prime nc_prime) (a_cons (d_var 14 rfl (.inr (.inl rfl)) nd_high nc_high) (a_cons (d_ix (d_peek (d_ix (d_peekv 6 rfl (.inr (.inl rfl)) nd_rows nc_rows) (d_peek (d_var 7 rfl (.inr (.inl rfl)) nd_hand nc_hand)))) (d_peek d_int)) (a_cons (d_var 19 rfl (.inl rfl) nd_firsts nc_firsts) a_nil))))) rfl (.inl rfl))
  (s_cons (s_set 25 sc_law.nd rfl (.inl rfl) (d_call (ok__law_sum V) (by decide) c rfl (a_cons (d_var 2 rfl (.inr (.inl rfl)) nd_prime nc_prime) (a_cons (d_var 15 rfl (.inr (.inl rfl)) nd_wide nc_wide) (a_cons (d_ix (d_peek (d_ix (d_peekv 6 rfl (.inr (.inl rfl)) nd_rows nc_rows) (d_peek (d_var 7 rfl (.inr (.inl rfl)) nd_hand nc_hand)))) (d_peek d_int)) (a_cons (d_var 20 rfl (.inl rfl) nd_seconds nc_seconds) a_nil))))) rfl (.inl rfl))
  (s_cons (s_if (t_w (t_or (d_cT (c_ne (Ctx.un c)) (d_peek (d_ix (d_peek (d_var 21 rfl (.inl rfl) nd_told nc_told)) (d_peek (d_var 7 rfl (.inr (.inl rfl)) nd_hand nc_hand)))) (d_peek (d_call (ok__law_product V) (by decide) c rfl (a_cons (d_var 2 rfl (.inr (.inl rfl)) nd_prime nc_prime) (a_cons (d_var 17 rfl (.inl rfl) nd_matrix nc_matrix) (a_cons (d_var 24 rfl (.inl rfl) nd_x nc_x) (a_cons (d_var 25 rfl (.inl rfl) nd_y nc_y) a_nil))))))) (t_or1 (d_cT (c_ne (Ctx.un c)) (d_peek (d_call (ok_cross_answer V) (by decide) c rfl (a_cons (d_var 2 rfl (.inr (.inl rfl)) nd_prime nc_prime) (a_cons (d_var 17 rfl (.inl rfl) nd_matrix nc_matrix) (a_cons (d_var 24 rfl (.inl rfl) nd_x nc_x) (a_cons (d_b1 b_tuple rfl (V.free 35) (d_peek (d_var 25 rfl (.inl rfl) nd_y nc_y))) a_nil)))))) (d_peek (d_ix (d_peek (d_var 21 rfl (.inl rfl) nd_told nc_told)) (d_peek (d_var 7 rfl (.inr (.inl rfl)) nd_hand nc_hand))))))))
  (s_one (s_ret d_bl))
  s_nil)
  (s_cons (s_set 26 sc_law.nd rfl (.inl rfl) (d_call (ok_crossed V) (by decide) c rfl (a_cons (d_var 2 rfl (.inr (.inl rfl)) nd_prime nc_prime) (a_cons (d_ix (d_peek (d_ix (d_peekv 6 rfl (.inr (.inl rfl)) nd_rows nc_rows) (d_peek (d_var 7 rfl (.inr (.inl rfl)) nd_hand nc_hand)))) (d_peek d_int)) (a_cons (d_ix (d_peek (d_ix (d_peekv 6 rfl (.inr (.inl rfl)) nd_rows nc_rows) (d_peek (d_var 7 rfl (.inr (.inl rfl)) nd_hand nc_hand)))) (d_peek d_int)) a_nil)))) rfl (.inl rfl))
  (s_one (s_if (d_cT (c_ne (Ctx.un c)) (d_peek (d_var 26 rfl (.inl rfl) nd_pairs nc_pairs)) (d_peek (d_b1 b_tuple rfl (V.free 35) (d_peek (d_lstE (l_comp rfl sc_law.nd (i_rng1 (by rfl) (V.free 2) (d_peek (d_mul (d_peek (d_var 3 rfl (.inl rfl) nd_lots nc_lots)) (d_peek (d_var 4 rfl (.inr (.inl rfl)) nd_others nc_others))))) (blkOk_by (own := [("k", 30)]) (by rfl)) (fun _ _ _ _ _ => (g_nm 30 sc_law.nd rfl (.inl rfl) (.inr rfl))) (by decide) (fun _ _ _ _ _ => ts_none) (fun _ _ _ _ _ => (d_mod (d_peek (d_b1 b_int rfl (V.free 0) (d_peek (d_mul (d_peek (d_ix (d_peek (d_ix (d_peek (d_ix (d_peekv 6 rfl (.inr (.inl rfl)) nd_rows nc_rows) (d_peek (d_var 7 rfl (.inr (.inl rfl)) nd_hand nc_hand)))) (d_peek d_int))) (d_peek (d_div (d_peek (d_var 30 rfl (.inl rfl) nd_k nc_k)) (d_peek (d_var 4 rfl (.inr (.inl rfl)) nd_others nc_others)))))) (d_peek (d_ix (d_peek (d_ix (d_peek (d_ix (d_peekv 6 rfl (.inr (.inl rfl)) nd_rows nc_rows) (d_peek (d_var 7 rfl (.inr (.inl rfl)) nd_hand nc_hand)))) (d_peek d_int))) (d_peek (d_mod (d_peek (d_var 30 rfl (.inl rfl) nd_k nc_k)) (d_peek (d_var 4 rfl (.inr (.inl rfl)) nd_others nc_others)))))))))) (d_peek (d_var 2 rfl (.inr (.inl rfl)) nd_prime nc_prime))))))))))
  (s_one (s_ret d_bl))
  s_nil)))))))
  (s_one (s_ret d_bl)))))))))))) nd_given nc_given nd_pair nc_pair rfl rfl rfl))))))))))))))))))
end
def lawAt : Nat := 34
abbrev R : PySem.W.OpenRow := PySem.W.OpenLaw.row PySem.Challenge.rw_hiredhands_k71_crossed_answers
abbrev loose : List Str := ["__name__", "HandsError", "BadPrime", "BadSize", "TooManyHands", "BadRow", "GREATEST_PRIME", "is_prime", "checked_prime", "reduced", "lessened", "combined", "zero_row", "MOST_CROSSED", "MOST_HANDS", "check_crossed", "CrossTable", "crossed", "cross_answer", "cross_answers", "_law_whole", "_law_cell", "_law_digits", "_law_residues", "_law_sum", "_law_great_prime", "_law_is_prime", "_law_due", "_law_built", "_law_product"]
def lawLevel : Nat := 8
theorem law_df {K : PySem.W.Frag} (V : SaysP fa fn fp K) : ∃ fd, FunD K d_law.name d_law.qual d_law.params d_law.body d_law.scope (d_law.dvs K) (d_law.kws K) (fAd K d_law.at_) fd := V.d.def_ 25 (d := d_law) rfl
theorem law_glo {K : PySem.W.Frag} {mg : Str → Option Value} {base : Heap} (V : WD K mg base) : mg "law" = some (.ref (fAd K d_law.at_)) := V.glo 60
end Pu

set_option maxHeartbeats 1000000
namespace Pu
open PySem
theorem zipWith_map {α β γ : Type} (f : α → β → γ) : ∀ (xs : List α) (ys : List β), List.zipWith f xs ys = (xs.zip ys).map fun q => f q.1 q.2
  | [], _ => by simp
  | _ :: _, [] => by simp
  | x :: xs, y :: ys => by
    rw [List.zipWith_cons_cons, List.zip_cons_cons, List.map_cons, zipWith_map f xs ys]
theorem reduced_ok {p : Int} (hp : 0 < p) {d : D} {xs : List Int} (h : IsI d xs) : f_reduced [.int p, d] = .ok (tI (xs.map (· % p))) := by
  refine defD_rt rfl (ret_ok (e1_ok (l_ok (comp_ok (ds := xs.map D.int) (iSeq_I h rfl) (compL_of D.int (fun x => .int (x % p)) xs fun x _ => ⟨_, rfl, rfl, e2_ok rfl rfl (mod_ok hp)⟩))) ?_))
  show Res.ok (D.tup _) = Res.ok (D.tup ((xs.map (· % p)).map D.int))
  rw [List.map_map]
  rfl
theorem lessened_ok {p f : Int} (hp : 0 < p) (h1 : -18446744073709551616 < f) (h2 : f < 18446744073709551616) {d e : D} {xs ys : List Int} (hd : IsI d xs) (he : IsI e ys) :
    f_lessened [.int p, d, .int f, e] = .ok (tI (List.zipWith (fun a b => (a - f * b) % p) xs ys)) := by
  refine defD_rt rfl (ret_ok (e1_ok (l_ok (comp_ok (ds := zipD (xs.map D.int) (ys.map D.int)) (ys := (xs.zip ys).map fun q => .int ((q.1 - f * q.2) % p)) (iZip_ok rfl rfl hd.seq he.seq) ?_)) ?_))
  · rw [zipD_map]
    exact compL_of _ _ _ fun q _ => ⟨_, rfl, rfl, e2_ok (e2_ok rfl (e2_ok rfl rfl (mul_ok (mulOk_l h1 h2))) rfl) rfl (mod_ok hp)⟩
  · show Res.ok (D.tup _) = Res.ok (D.tup ((List.zipWith (fun a b => (a - f * b) % p) xs ys).map D.int))
    rw [zipWith_map, List.map_map]
    rfl
theorem zero_row_ok {n : Nat} (h : n ≤ 16777216) : f_zero_row [.int n] = .ok (tI (List.replicate n 0)) := by
  refine defD_rt rfl (ret_ok (e1_ok (l_ok (comp_ok (ys := (List.range n).map fun _ => .int 0) (rng1_ok rfl h) (compL_of (fun (i : Nat) => .int i) (fun _ => .int 0) _ fun x _ => ⟨_, rfl, rfl, rfl⟩))) ?_))
  show Res.ok (D.tup _) = Res.ok (D.tup ((List.replicate n (0 : Int)).map D.int))
  rw [List.map_replicate]
  congr 2
  rw [List.map_const', List.length_range]
/-- one step of a sum of rows -/
def addRow (p : Int) (tot : List Int) (w : Int) (r : List Int) : List Int := List.zipWith (fun a b => (a + w * b) % p) tot r
def sumRows (p : Int) (width : Nat) (ws : List Int) (rows : List (List Int)) : List Int := (ws.zip rows).foldl (fun t q => addRow p t q.1 q.2) (List.replicate width 0)
def Small (x : Int) : Prop := -18446744073709551616 < x ∧ x < 18446744073709551616
def Res01 (p : Int) (xs : List Int) : Prop := ∀ x ∈ xs, 0 ≤ x ∧ x < p
theorem addRow_len {p : Int} {tot : List Int} {w : Int} {r : List Int} (h : r.length = tot.length) : (addRow p tot w r).length = tot.length := by
  unfold addRow
  rw [List.length_zipWith, h, Nat.min_self]
theorem addRow_res {p : Int} (hp : 0 < p) (tot : List Int) (w : Int) (r : List Int) : Res01 p (addRow p tot w r) := fun x hx => by
  unfold addRow at hx
  rw [zipWith_map] at hx
  obtain ⟨q, _, rfl⟩ := List.mem_map.mp hx
  exact ⟨Int.emod_nonneg _ (by omega), Int.emod_lt_of_pos _ hp⟩
theorem addRow_zero {p : Int} (hp : 0 < p) {w : Int} (hw : w % p = 0) : ∀ {tot r : List Int}, r.length = tot.length → Res01 p tot → addRow p tot w r = tot
  | [], r, h, _ => by
    unfold addRow
    simp
  | a :: tot, [], h, _ => by cases h
  | a :: tot, b :: r, h, hr => by
    have ih := addRow_zero hp hw (tot := tot) (r := r) (by simpa using h) fun x hx => hr x (List.mem_cons_of_mem _ hx)
    unfold addRow at ih ⊢
    rw [List.zipWith_cons_cons, ih]
    have ha := hr a List.mem_cons_self
    have e : (a + w * b) % p = a := by
      obtain ⟨k, hk⟩ := Int.dvd_of_emod_eq_zero hw
      rw [hk, Int.mul_assoc, Int.add_mul_emod_self_left]
      exact Int.emod_eq_of_lt ha.1 ha.2
    rw [e]
theorem addRow_mod {p w : Int} {tot r : List Int} : addRow p tot (w % p) r = addRow p tot w r := by
  unfold addRow
  congr 1
  funext a b
  rw [Int.add_emod, Int.mul_emod, Int.emod_emod_of_dvd _ (Int.dvd_refl p), ← Int.mul_emod, ← Int.add_emod]
theorem combined_ok {p : Int} (hp : 0 < p) (hp2 : p < 1000000) {width : Nat} (hw : width ≤ 16777216) {ws : List Int} {rows : List (List Int)} {mk : List Int → D} (hmk : ∀ xs, IsI (mk xs) xs) {W R : D} (hW : IsI W ws) (hR : seqD R = .ok (rows.map mk)) (hs : ∀ w ∈ ws, Small (-w)) (hl : ∀ r ∈ rows, r.length = width) :
    f_combined [.int p, .int width, W, R] = .ok (tI (sumRows p width ws rows)) := by
  have e0 : sSet 4 (eCall f_zero_row (aCons (eVar 1) aNil)) (startE 7 [.int p, .int width, W, R]) = .nx [some (.val (.int p)), some (.val (.int width)), some (.val W), some (.val R), some (.val (tI (List.replicate width 0))), none, none] := set_ok ((call_ok (ds := [.int width]) rfl).trans (zero_row_ok hw))
  have key := forL_fold (g := gTu (gCn (gNm 5) (gCn (gNm 6) gNl))) (b := sIf (tVal (e2 oNe (e2 oMod (eVar 5) (eVar 0)) (eC (.int 0)))) (sSet 4 (eCall f_lessened (aCons (eVar 0) (aCons (eVar 4) (aCons (e1 oNeg (eVar 5)) (aCons (eVar 6) aNil)))))) sNil)
    (fun q : Int × List Int => .tup [.int q.1, mk q.2]) (fun t q => addRow p t q.1 q.2) (fun t ρ => (∃ a b, ρ = [some (.val (.int p)), some (.val (.int width)), some (.val W), some (.val R), some (.val (tI t)), a, b]) ∧ t.length = width ∧ Res01 p t) (ws.zip rows) (List.replicate width 0)
    [some (.val (.int p)), some (.val (.int width)), some (.val W), some (.val R), some (.val (tI (List.replicate width 0))), none, none] ⟨⟨none, none, rfl⟩, List.length_replicate, fun x hx => by rw [List.eq_of_mem_replicate hx]; exact ⟨Int.le_refl _, hp⟩⟩
  obtain ⟨ρ', h1, ⟨a, b, rfl⟩, h3, h4⟩ := key (by
    rintro ⟨w, r⟩ hq t ρ ⟨⟨a, b, rfl⟩, ht, hr⟩
    have hq' := List.of_mem_zip hq
    have hlr : r.length = t.length := by rw [hl r hq'.2, ht]
    refine ⟨[some (.val (.int p)), some (.val (.int width)), some (.val W), some (.val R), some (.val (tI t)), some (.val (.int w)), some (.val (mk r))], [some (.val (.int p)), some (.val (.int width)), some (.val W), some (.val R), some (.val (tI (addRow p t w r))), some (.val (.int w)), some (.val (mk r))], rfl, .inl ?_, ⟨_, _, rfl⟩, by rw [addRow_len hlr, ht], addRow_res hp _ _ _⟩
    have et : tVal (e2 oNe (e2 oMod (eVar 5) (eVar 0)) (eC (.int 0))) [some (.val (.int p)), some (.val (.int width)), some (.val W), some (.val R), some (.val (tI t)), some (.val (.int w)), some (.val (mk r))] = .ok (!(w % p == 0)) := by
      unfold tVal
      rw [e2_ok (c := .int 0) (x := .bl (!(w % p == 0))) (e2_ok rfl rfl (mod_ok hp)) rfl rfl]
      rfl
    rw [if_ok et]
    by_cases hz : w % p = 0
    · have : (!(w % p == 0)) = false := by rw [hz]; rfl
      rw [this, if_neg (by decide), addRow_zero hp hz hlr hr]
      rfl
    · have : (!(w % p == 0)) = true := by
        have : (w % p == 0) = false := by rw [beq_eq_false_iff_ne]; exact hz
        rw [this]
        rfl
      rw [this, if_pos rfl]
      have hsw := hs w hq'.1
      refine set_ok ((call_ok (ds := [.int p, tI t, .int (-w), mk r]) rfl).trans ((lessened_ok hp hsw.1 hsw.2 (.inr rfl) (hmk r)).trans ?_))
      unfold addRow
      congr 4
      funext a b
      congr 1
      rw [Int.neg_mul]
      omega)
  refine defD_rt rfl ((seq_nx e0).trans ((seq_nx (ρ' := _) ((for_ok (ds := zipD (ws.map D.int) (rows.map mk)) (iZip_ok rfl rfl hW.seq hR)).trans (by rw [zipD_map]; exact h1))).trans (ret_ok rfl)))

theorem sumRows_len {p : Int} {width : Nat} {ws : List Int} {rows : List (List Int)} (hl : ∀ r ∈ rows, r.length = width) : (sumRows p width ws rows).length = width := by
  unfold sumRows
  have key : ∀ (l : List (Int × List Int)) (t : List Int), (∀ q ∈ l, q.2.length = width) → t.length = width → (l.foldl (fun t q => addRow p t q.1 q.2) t).length = width := fun l => by
    induction l with
    | nil => intro t _ h; exact h
    | cons q l ih =>
      intro t h ht
      rw [List.foldl_cons]
      exact ih _ (fun q' hq' => h q' (List.mem_cons_of_mem _ hq')) (by rw [addRow_len (by rw [h q List.mem_cons_self, ht]), ht])
  exact key _ _ (fun q hq => hl q.2 (List.of_mem_zip hq).2) List.length_replicate
theorem addRow_range {p w : Int} {tot r : List Int} {width : Nat} (h1 : tot.length = width) (h2 : r.length = width) : (List.range width).map (fun (k : Nat) => D.int ((tot.getD k 0 + w * r.getD k 0) % p)) = (addRow p tot w r).map D.int := by
  apply List.ext_getElem
  · rw [List.length_map, List.length_map, List.length_range, addRow_len (by rw [h1, h2]), h1]
  · intro i hi1 hi2
    rw [List.length_map, List.length_range] at hi1
    rw [List.getElem_map, List.getElem_map, List.getElem_range]
    unfold addRow
    rw [List.getElem_zipWith]
    rw [List.getD_eq_getElem?_getD, List.getD_eq_getElem?_getD, List.getElem?_eq_getElem (by omega), List.getElem?_eq_getElem (by omega)]
    rfl
theorem law_sum_ok {p : Int} (hp : 0 < p) {width : Nat} (hw : width ≤ 16777216) {ws : List Int} {rows : List (List Int)} {mk : List Int → D} (hmk : ∀ xs, IsI (mk xs) xs) (hs : ∀ w ∈ ws, Small w) (hl : ∀ r ∈ rows, r.length = width) (hn : ws.length = rows.length) (hr : rows.length ≤ 16777216) :
    f__law_sum [.int p, .int width, lI ws, .lst (rows.map mk)] = .ok (lI (sumRows p width ws rows)) := by
  have e0 : sSet 4 (eL (lComp (iRng1 (eVar 1)) (gNm 6) tYes (eC (.int 0)) [6])) (startE 7 [.int p, .int width, lI ws, .lst (rows.map mk)]) = .nx [some (.val (.int p)), some (.val (.int width)), some (.val (lI ws)), some (.val (.lst (rows.map mk))), some (.val (lI (List.replicate width 0))), none, none] := by
    refine (set_ok (l_ok (comp_ok (ys := (List.range width).map fun _ => .int 0) (rng1_ok rfl hw) (compL_of (fun (i : Nat) => .int i) (fun _ => .int 0) _ fun x _ => ⟨_, rfl, rfl, rfl⟩)))).trans ?_
    have e : (List.range width).map (fun _ => D.int 0) = (List.replicate width (0 : Int)).map D.int := by
      rw [List.map_replicate, List.map_const', List.length_range]
    rw [e]
    rfl
  have key := forL_ix (g := gNm 5) (b := sSet 4 (eL (lComp (iRng1 (eVar 1)) (gNm 6) tYes (e2 oMod (e1 bInt (e2 oAdd (e2 oIx (eVar 4) (eVar 6)) (e2 oMul (e1 bInt (e2 oIx (eVar 2) (eVar 5))) (e2 oIx (e2 oIx (eVar 3) (eVar 5)) (eVar 6))))) (eVar 0)) [6])))
    (fun t (q : Int × List Int) => addRow p t q.1 q.2) (fun t ρ => (∃ a, ρ = [some (.val (.int p)), some (.val (.int width)), some (.val (lI ws)), some (.val (.lst (rows.map mk))), some (.val (lI t)), a, none]) ∧ t.length = width) (ws.zip rows) (List.replicate width 0)
    [some (.val (.int p)), some (.val (.int width)), some (.val (lI ws)), some (.val (.lst (rows.map mk))), some (.val (lI (List.replicate width 0))), none, none] ⟨⟨none, rfl⟩, List.length_replicate⟩ (by
      rintro i ⟨w, r⟩ hq t ρ ⟨⟨a, rfl⟩, ht⟩
      obtain ⟨hq1, hq2⟩ := List.getElem?_zip_eq_some.mp hq
      have hlr : r.length = width := hl r (List.mem_of_getElem? hq2)
      have hsw := hs w (List.mem_of_getElem? hq1)
      refine ⟨[some (.val (.int p)), some (.val (.int width)), some (.val (lI ws)), some (.val (.lst (rows.map mk))), some (.val (lI t)), some (.val (.int i)), none], [some (.val (.int p)), some (.val (.int width)), some (.val (lI ws)), some (.val (.lst (rows.map mk))), some (.val (lI (addRow p t w r))), some (.val (.int i)), none], rfl, .inl ?_, ⟨_, rfl⟩, by rw [addRow_len (by rw [hlr, ht]), ht]⟩
      refine (set_ok (l_ok (comp_ok (ys := (List.range width).map fun (k : Nat) => .int ((t.getD k 0 + w * r.getD k 0) % p)) (rng1_ok rfl hw) (compL_of (fun (i : Nat) => .int i) _ _ fun k hk => ⟨_, rfl, rfl, ?_⟩)))).trans ?_
      · have hk' : k < width := List.mem_range.mp hk
        have h1 : t[k]? = some (t.getD k 0) := getElem?_lt 0 (by omega)
        have h2 : r[k]? = some (r.getD k 0) := getElem?_lt 0 (by omega)
        exact e2_ok (e1_ok (e2_ok (e2_ok rfl rfl (ix_lI h1)) (e2_ok (e1_ok (e2_ok rfl rfl (ix_lI hq1)) rfl) (e2_ok (e2_ok rfl rfl (ix_lst (d := mk r) (by rw [List.getElem?_map, hq2]; rfl))) rfl ((hmk r).ix h2)) (mul_ok (mulOk_l hsw.1 hsw.2))) rfl) rfl) rfl (mod_ok hp)
      · rw [addRow_range ht hlr]
        rfl)
  obtain ⟨ρ', h1, ⟨a, rfl⟩, h3⟩ := key
  have hlen : (ws.zip rows).length = rows.length := by rw [List.length_zip, hn, Nat.min_self]
  rw [hlen] at h1
  refine defD_rt rfl ((seq_nx e0).trans ((seq_nx ((for_ok (ds := (List.range rows.length).map fun (i : Nat) => .int i) (rng1_ok (n := rows.length) ?_ hr)).trans h1)).trans (ret_ok rfl)))
  show Res.ok (D.int (rows.map mk).length) = _
  rw [List.length_map]

/-! ### crossed answers -/
def rowTerms (x y : List Int) (a : Nat) (row : List Int) : List Int := row.zipIdx.map fun q => q.1 * x.getD a 0 * y.getD q.2 0
def terms (m : List (List Int)) (x y : List Int) : List Int := m.zipIdx.flatMap fun q => rowTerms x y q.2 q.1
structure MOk (m : List (List Int)) (x y : List Int) : Prop where
  sm : ∀ r ∈ m, ∀ n ∈ r, Small n
  sy : ∀ n ∈ y, Small n
  hx : m.length = x.length
  hy : ∀ r ∈ m, r.length = y.length
  hl : m.length ≤ 1000
  hw : ∀ r ∈ m, r.length ≤ 1000
theorem sum_map_int (xs : List Int) : bSum (lI xs) = .ok (.int xs.sum) := by
  show (match ints? (xs.map D.int) with
    | some ns => Res.ok (D.int ns.sum)
    | none => .bad) = _
  rw [ints_map]
theorem flatMap_len {α : Type} (f : α → List Int) : ∀ (l : List α) (k : Nat), (∀ q ∈ l, (f q).length ≤ k) → (l.flatMap f).length ≤ l.length * k
  | [], k, _ => by simp
  | q :: l, k, h => by
    rw [List.flatMap_cons, List.length_append, List.length_cons, Nat.succ_mul]
    have h1 := h q List.mem_cons_self
    have h2 := flatMap_len f l k fun q hq => h q (List.mem_cons_of_mem _ hq)
    omega
theorem terms_len {m : List (List Int)} {x y : List Int} (h : MOk m x y) : (terms m x y).length ≤ 1000000 := by
  have h1 := flatMap_len (fun q : List Int × Nat => rowTerms x y q.2 q.1) m.zipIdx 1000 fun q hq => by
    unfold rowTerms
    rw [List.length_map, List.length_zipIdx]
    exact h.hw q.1 (List.mem_of_getElem? (zipIdx_at hq))
  rw [List.length_zipIdx] at h1
  have := h.hl
  unfold terms
  omega
theorem cross_answer_ok {p : Int} (hp : 0 < p) {m : List (List Int)} {x y : List Int} (h : MOk m x y) {X Y : D} (hX : IsI X x) (hY : IsI Y y) : f_cross_answer [.int p, .lst (m.map lI), X, Y] = .ok (.int ((terms m x y).sum % p)) := by
  have key : compL2 (gTu (gCn (gNm 5) (gCn (gNm 6) gNl))) tYes (iEnum (eVar 6)) (gTu (gCn (gNm 7) (gCn (gNm 8) gNl))) tYes (e2 oMul (e2 oMul (eVar 8) (e2 oIx (eVar 2) (eVar 5))) (e2 oIx (eVar 3) (eVar 7))) [7, 8] (wipeE (startE 9 [.int p, .lst (m.map lI), X, Y]) [5, 6, 7, 8]) (enumD 0 (m.map lI)) = .ok ((terms m x y).map D.int) := by
    rw [enumD_map]
    unfold terms
    rw [List.map_flatMap]
    refine compL2_of _ _ _ fun q hq => ⟨[some (.val (.int p)), some (.val (.lst (m.map lI))), some (.val X), some (.val Y), none, some (.val (.int q.2)), some (.val (lI q.1)), none, none], enumD 0 (q.1.map D.int), rfl, rfl, iEnum_ok rfl rfl, ?_⟩
    have hq1 := zipIdx_at hq
    have hqm := List.mem_of_getElem? hq1
    rw [enumD_map]
    unfold rowTerms
    rw [List.map_map]
    refine compL_of _ _ _ fun r hr => ⟨_, rfl, rfl, ?_⟩
    have hr1 := zipIdx_at hr
    have hx : x[q.2]? = some (x.getD q.2 0) := getElem?_lt 0 (by rw [← h.hx]; exact (List.getElem?_eq_some_iff.mp hq1).1)
    have hy : y[r.2]? = some (y.getD r.2 0) := getElem?_lt 0 (by rw [← h.hy q.1 hqm]; exact (List.getElem?_eq_some_iff.mp hr1).1)
    have s1 := h.sm q.1 hqm r.1 (List.mem_of_getElem? hr1)
    have s2 := h.sy _ (List.mem_of_getElem? hy)
    exact e2_ok (e2_ok rfl (e2_ok rfl rfl (hX.ix hx)) (mul_ok (mulOk_l s1.1 s1.2))) (e2_ok rfl rfl (hY.ix hy)) (mul_ok (mulOk_r s2.1 s2.2))
  have e0 : sSet 4 (eL (lComp2 (iEnum (eVar 1)) (gTu (gCn (gNm 5) (gCn (gNm 6) gNl))) tYes (iEnum (eVar 6)) (gTu (gCn (gNm 7) (gCn (gNm 8) gNl))) tYes (e2 oMul (e2 oMul (eVar 8) (e2 oIx (eVar 2) (eVar 5))) (e2 oIx (eVar 3) (eVar 7))) [5, 6, 7, 8] [7, 8])) (startE 9 [.int p, .lst (m.map lI), X, Y]) =
      .nx [some (.val (.int p)), some (.val (.lst (m.map lI))), some (.val X), some (.val Y), some (.val (lI (terms m x y))), none, none, none, none] := by
    refine (set_ok (d := lI (terms m x y)) (l_ok ?_)).trans rfl
    unfold lComp2
    rw [iEnum_ok (x := .lst (m.map lI)) (xs := m.map lI) rfl rfl]
    show ((compL2 _ _ _ _ _ _ _ _ (enumD 0 (m.map lI))).bind _) = _
    rw [key]
    show (if ((terms m x y).map D.int).length ≤ line then _ else _) = _
    rw [if_pos (by rw [List.length_map]; have := terms_len h; show _ ≤ 16777216; omega)]
  exact defD_rt rfl ((seq_nx e0).trans (ret_ok (e2_ok (e1_ok rfl (sum_map_int _)) rfl (mod_ok hp))))
theorem fold_mod {p : Int} (hp : 0 < p) : ∀ (xs : List Int) (t : Int), 0 ≤ t → t < p → xs.foldl (fun t x => (t + x) % p) t = (t + xs.sum) % p
  | [], t, h1, h2 => by
    rw [List.foldl_nil, List.sum_nil, Int.add_zero, Int.emod_eq_of_lt h1 h2]
  | x :: xs, t, h1, h2 => by
    rw [List.foldl_cons, fold_mod hp xs _ (Int.emod_nonneg _ (by omega)) (Int.emod_lt_of_pos _ hp), List.sum_cons, Int.emod_add_emod, Int.add_assoc]
theorem fold_mods {p : Int} (hp : 0 < p) : ∀ (xs : List (List Int)) (t : Int), 0 ≤ t → t < p → xs.foldl (fun t r => r.foldl (fun t x => (t + x) % p) t) t = (t + xs.flatten.sum) % p
  | [], t, h1, h2 => by
    rw [List.foldl_nil, List.flatten_nil, List.sum_nil, Int.add_zero, Int.emod_eq_of_lt h1 h2]
  | x :: xs, t, h1, h2 => by
    rw [List.foldl_cons, fold_mod hp x t h1 h2, fold_mods hp xs _ (Int.emod_nonneg _ (by omega)) (Int.emod_lt_of_pos _ hp), List.flatten_cons, List.sum_append, Int.emod_add_emod, Int.add_assoc]
theorem law_product_ok {p : Int} (hp : 0 < p) {m : List (List Int)} {x y : List Int} (h : MOk m x y) {X Y : D} (hX : IsI X x) (hY : IsI Y y) : f__law_product [.int p, .lst (m.map lI), X, Y] = .ok (.int ((terms m x y).sum % p)) := by
  have key := forL_ix (g := gNm 5) (b := sFor (iRng1 (e1 bLen (e2 oIx (eVar 1) (eVar 5)))) (gNm 6) (sSet 4 (e2 oMod (e1 bInt (e2 oAdd (eVar 4) (e2 oMul (e2 oMul (e2 oIx (e2 oIx (eVar 1) (eVar 5)) (eVar 6)) (e2 oIx (eVar 2) (eVar 5))) (e2 oIx (eVar 3) (eVar 6))))) (eVar 0))))
    (fun t (r : List Int) => r.foldl (fun t x => (t + x) % p) t) (fun t ρ => ∃ a b, ρ = [some (.val (.int p)), some (.val (.lst (m.map lI))), some (.val X), some (.val Y), some (.val (.int t)), a, b]) (m.zipIdx.map fun q => rowTerms x y q.2 q.1) 0
    [some (.val (.int p)), some (.val (.lst (m.map lI))), some (.val X), some (.val Y), some (.val (.int 0)), none, none] ⟨none, none, rfl⟩ (by
      rintro i ts hi t ρ ⟨a, b, rfl⟩
      rw [List.getElem?_map] at hi
      obtain ⟨q, hq, rfl⟩ := Option.map_eq_some_iff.mp hi
      have hq' := zipIdx_at (List.mem_of_getElem? hq)
      have hqi : q.2 = i := by
        rw [List.getElem?_zipIdx] at hq
        obtain ⟨r, _, e⟩ := Option.map_eq_some_iff.mp hq
        rw [← e]
        show 0 + i = i
        omega
      rw [hqi] at hq'
      have hqm := List.mem_of_getElem? hq'
      have hx : x[i]? = some (x.getD i 0) := getElem?_lt 0 (by rw [← h.hx]; exact (List.getElem?_eq_some_iff.mp hq').1)
      have em : oIx (.lst (m.map lI)) (.int i) = .ok (lI q.1) := ix_lst (by rw [List.getElem?_map, hq']; rfl)
      have inner := forL_ix (g := gNm 6) (b := sSet 4 (e2 oMod (e1 bInt (e2 oAdd (eVar 4) (e2 oMul (e2 oMul (e2 oIx (e2 oIx (eVar 1) (eVar 5)) (eVar 6)) (e2 oIx (eVar 2) (eVar 5))) (e2 oIx (eVar 3) (eVar 6))))) (eVar 0)))
        (fun t (x : Int) => (t + x) % p) (fun t ρ => ∃ b, ρ = [some (.val (.int p)), some (.val (.lst (m.map lI))), some (.val X), some (.val Y), some (.val (.int t)), some (.val (.int i)), b]) (rowTerms x y i q.1) t
        [some (.val (.int p)), some (.val (.lst (m.map lI))), some (.val X), some (.val Y), some (.val (.int t)), some (.val (.int i)), b] ⟨b, rfl⟩ (by
          rintro j v hj t ρ ⟨b, rfl⟩
          unfold rowTerms at hj
          rw [List.getElem?_map] at hj
          obtain ⟨r, hr, rfl⟩ := Option.map_eq_some_iff.mp hj
          have hr' := zipIdx_at (List.mem_of_getElem? hr)
          have hrj : r.2 = j := by
            rw [List.getElem?_zipIdx] at hr
            obtain ⟨r', _, e⟩ := Option.map_eq_some_iff.mp hr
            rw [← e]
            show 0 + j = j
            omega
          rw [hrj] at hr' ⊢
          have hy : y[j]? = some (y.getD j 0) := getElem?_lt 0 (by rw [← h.hy q.1 hqm]; exact (List.getElem?_eq_some_iff.mp hr').1)
          have s1 := h.sm q.1 hqm r.1 (List.mem_of_getElem? hr')
          have s2 := h.sy _ (List.mem_of_getElem? hy)
          exact ⟨_, _, rfl, .inl (set_ok (e2_ok (e1_ok (e2_ok rfl (e2_ok (e2_ok (e2_ok (e2_ok rfl rfl em) rfl (ix_lI hr')) (e2_ok rfl rfl (hX.ix hx)) (mul_ok (mulOk_l s1.1 s1.2))) (e2_ok rfl rfl (hY.ix hy)) (mul_ok (mulOk_r s2.1 s2.2))) rfl) rfl) rfl (mod_ok hp))), ⟨_, rfl⟩⟩)
      obtain ⟨ρ', h1, ⟨b', rfl⟩⟩ := inner
      have hlen : (rowTerms x y i q.1).length = q.1.length := by
        unfold rowTerms
        rw [List.length_map, List.length_zipIdx]
      rw [hlen] at h1
      refine ⟨_, _, rfl, .inl ((for_ok (ds := (List.range q.1.length).map fun (i : Nat) => .int i) (rng1_ok (n := q.1.length) (e1_ok (e2_ok rfl rfl em) ?_) ?_)).trans h1), ?_⟩
      · show Res.ok (D.int (q.1.map D.int).length) = _
        rw [List.length_map]
      · have := h.hw q.1 hqm
        omega
      · rw [hqi]
        exact ⟨_, _, rfl⟩)
  obtain ⟨ρ', h1, ⟨a, b, rfl⟩⟩ := key
  have hlen : (m.zipIdx.map fun q => rowTerms x y q.2 q.1).length = m.length := by rw [List.length_map, List.length_zipIdx]
  rw [hlen] at h1
  have hl := h.hl
  refine defD_rt rfl ((seq_nx (set_ok rfl)).trans ((seq_nx ((for_ok (ds := (List.range m.length).map fun (i : Nat) => .int i) (rng1_ok (n := m.length) ?_ (by omega))).trans h1)).trans (ret_ok ?_)))
  · show Res.ok (D.int (m.map lI).length) = _
    rw [List.length_map]
  · rw [fold_mods hp _ 0 (Int.le_refl _) hp, Int.zero_add]
    show Res.ok (D.int ((m.zipIdx.map fun q => rowTerms x y q.2 q.1).flatten.sum % p)) = _
    unfold terms
    rw [List.flatMap_def]

theorem sumRows_mod {p : Int} {width : Nat} {ws : List Int} {rows : List (List Int)} : sumRows p width (ws.map (· % p)) rows = sumRows p width ws rows := by
  unfold sumRows
  generalize List.replicate width (0 : Int) = t
  induction ws generalizing rows t with
  | nil => rfl
  | cons w ws ih =>
    cases rows with
    | nil => rfl
    | cons r rows =>
      rw [List.map_cons, List.zip_cons_cons, List.zip_cons_cons, List.foldl_cons, List.foldl_cons, addRow_mod]
      exact ih _
theorem sumRows_res {p : Int} (hp : 0 < p) {width : Nat} {ws : List Int} {rows : List (List Int)} : Res01 p (sumRows p width ws rows) := by
  unfold sumRows
  have key : ∀ (l : List (Int × List Int)) (t : List Int), Res01 p t → Res01 p (l.foldl (fun t q => addRow p t q.1 q.2) t) := fun l => by
    induction l with
    | nil => intro t h; exact h
    | cons q l ih =>
      intro t h
      rw [List.foldl_cons]
      exact ih _ (addRow_res hp _ _ _)
  exact key _ _ fun x hx => by rw [List.eq_of_mem_replicate hx]; exact ⟨Int.le_refl _, hp⟩
/-! ### the table -/
abbrev pairD (q : List Int × List Int) : D := .tup [tI q.1, tI q.2]
def tableD (p lots others : Int) (rows : List (List Int × List Int)) : D :=
  .obj "CrossTable" [("prime", .int p), ("lots", .int lots), ("others", .int others), ("hands", .int rows.length), ("rows", .tup (rows.map pairD))]
theorem fld_ok {Cs : List Str} {f C : Str} {fs : List (Str × D)} {e : EV} {ρ : Env} {d : D} (h : e ρ = .ok (.obj C fs)) (hc : C ∈ Cs) (hl : fs.lookup f = some d) : eFld Cs f e ρ = .ok d := by
  unfold eFld
  rw [h]
  show (if C ∈ Cs then optR (fs.lookup f) else .bad) = _
  rw [if_pos hc, hl]
  rfl
theorem tb_prime {p lots others : Int} {rows : List (List Int × List Int)} {e : EV} {ρ : Env} (h : e ρ = .ok (tableD p lots others rows)) : eFld ["CrossTable"] "prime" e ρ = .ok (.int p) := fld_ok h (by decide) (by rfl)
theorem tb_lots {p lots others : Int} {rows : List (List Int × List Int)} {e : EV} {ρ : Env} (h : e ρ = .ok (tableD p lots others rows)) : eFld ["CrossTable"] "lots" e ρ = .ok (.int lots) := fld_ok h (by decide) (by rfl)
theorem tb_others {p lots others : Int} {rows : List (List Int × List Int)} {e : EV} {ρ : Env} (h : e ρ = .ok (tableD p lots others rows)) : eFld ["CrossTable"] "others" e ρ = .ok (.int others) := fld_ok h (by decide) (by rfl)
theorem tb_hands {p lots others : Int} {rows : List (List Int × List Int)} {e : EV} {ρ : Env} (h : e ρ = .ok (tableD p lots others rows)) : eFld ["CrossTable"] "hands" e ρ = .ok (.int rows.length) := fld_ok h (by decide) (by rfl)
theorem tb_rows {p lots others : Int} {rows : List (List Int × List Int)} {e : EV} {ρ : Env} (h : e ρ = .ok (tableD p lots others rows)) : eFld ["CrossTable"] "rows" e ρ = .ok (.tup (rows.map pairD)) := fld_ok h (by decide) (by rfl)
theorem small_res {p : Int} (hp2 : p < 1000000) {xs : List Int} (h : Res01 p xs) : ∀ x ∈ xs, Small x ∧ Small (-x) := fun x hx => by
  have := h x hx
  exact ⟨⟨by omega, by omega⟩, ⟨by omega, by omega⟩⟩
def answerOf (p : Int) (m : List (List Int)) (high wide : Nat) (firsts seconds : List (List Int)) (q : List Int × List Int) : Int := (terms m (sumRows p high q.1 firsts) (sumRows p wide q.2 seconds)).sum % p
structure LOk (m : List (List Int)) (high wide : Nat) (firsts seconds : List (List Int)) : Prop where
  mh : m.length = high
  mw : ∀ r ∈ m, r.length = wide
  sm : ∀ r ∈ m, ∀ n ∈ r, Small n
  f0 : firsts ≠ []
  s0 : seconds ≠ []
  fh : ∀ r ∈ firsts, r.length = high
  sw : ∀ r ∈ seconds, r.length = wide
  hh : high ≤ 1000
  hw : wide ≤ 1000
theorem LOk.m {m : List (List Int)} {high wide : Nat} {firsts seconds : List (List Int)} (h : LOk m high wide firsts seconds) {p : Int} (hp : 0 < p) (hp2 : p < 1000000) (a b : List Int) : MOk m (sumRows p high a firsts) (sumRows p wide b seconds) :=
  ⟨h.sm, fun n hn => (small_res hp2 (sumRows_res hp) n hn).1, by rw [sumRows_len h.fh, h.mh], fun r hr => by rw [sumRows_len h.sw, h.mw r hr], by rw [h.mh]; exact h.hh, fun r hr => by rw [h.mw r hr]; exact h.hw⟩
theorem cross_answers_ok {p lots others : Int} (hp : 0 < p) (hp2 : p < 1000000) {rows : List (List Int × List Int)} {m : List (List Int)} {high wide : Nat} {firsts seconds : List (List Int)} (h : LOk m high wide firsts seconds) (hr : ∀ q ∈ rows, Res01 p q.1 ∧ Res01 p q.2) (hl : rows.length ≤ 1000) :
    f_cross_answers [tableD p lots others rows, .lst (m.map lI), .lst (firsts.map lI), .lst (seconds.map tI)] = .ok (tI (rows.map (answerOf p m high wide firsts seconds))) := by
  have len0 : ∀ {mk : List Int → D} {l : List (List Int)} {n : Nat} {e : EV} {ρ : Env}, (∀ xs, IsI (mk xs) xs) → l ≠ [] → (∀ r ∈ l, r.length = n) → e ρ = .ok (.lst (l.map mk)) → e1 bLen (e2 oIx e (eC (.int 0))) ρ = .ok (.int n) := fun {mk l n e ρ} hmk h0 hn he => by
    cases l with
    | nil => exact absurd rfl h0
    | cons r l =>
      refine e1_ok (d := mk r) (e2_ok he rfl (ix_lst (i := 0) rfl)) ?_
      rw [(hmk r).len, hn r List.mem_cons_self]
  have key := forL_gather (g := gTu (gCn (gNm 5) (gCn (gNm 6) gNl))) (b := sSeq (sSet 7 (eCall f_combined (aCons (eFld ["CrossTable"] "prime" (eVar 0)) (aCons (e1 bLen (e2 oIx (eVar 2) (eC (.int 0)))) (aCons (eVar 5) (aCons (eVar 2) (aNil))))))) (sSeq (sSet 8 (eCall f_combined (aCons (eFld ["CrossTable"] "prime" (eVar 0)) (aCons (e1 bLen (e2 oIx (eVar 3) (eC (.int 0)))) (aCons (eVar 6) (aCons (eVar 3) (aNil))))))) (sApp 4 (eCall f_cross_answer (aCons (eFld ["CrossTable"] "prime" (eVar 0)) (aCons (eVar 1) (aCons (eVar 7) (aCons (eVar 8) (aNil)))))))))
    pairD (fun q => .int (answerOf p m high wide firsts seconds q)) (fun t ρ => (∃ a b c d, ρ = [some (.val (tableD p lots others rows)), some (.val (.lst (m.map lI))), some (.val (.lst (firsts.map lI))), some (.val (.lst (seconds.map tI))), some (.own t), a, b, c, d])) rows []
    [some (.val (tableD p lots others rows)), some (.val (.lst (m.map lI))), some (.val (.lst (firsts.map lI))), some (.val (.lst (seconds.map tI))), some (.own []), none, none, none, none] ⟨_, _, _, _, rfl⟩ (by rw [List.length_nil]; omega) (by
      rintro q hq ys ρ hys ⟨a, b, c, d, rfl⟩
      have hrq := hr q hq
      refine ⟨[some (.val (tableD p lots others rows)), some (.val (.lst (m.map lI))), some (.val (.lst (firsts.map lI))), some (.val (.lst (seconds.map tI))), some (.own ys), some (.val (tI q.1)), some (.val (tI q.2)), c, d], [some (.val (tableD p lots others rows)), some (.val (.lst (m.map lI))), some (.val (.lst (firsts.map lI))), some (.val (.lst (seconds.map tI))), some (.own (ys ++ [.int (answerOf p m high wide firsts seconds q)])), some (.val (tI q.1)), some (.val (tI q.2)), some (.val (tI (sumRows p high q.1 firsts))), some (.val (tI (sumRows p wide q.2 seconds)))], rfl, .inl ?_, ⟨_, _, _, _, rfl⟩⟩
      have hh := h.hh
      have hw := h.hw
      refine (seq_nx (set_ok ((call_ok (cons_ok (tb_prime rfl) (cons_ok (len0 (mk := lI) (fun _ => .inl rfl) h.f0 h.fh rfl) (cons_ok rfl (cons_ok rfl rfl))))).trans (combined_ok hp hp2 (by omega) (mk := lI) (fun _ => .inl rfl) (.inr rfl) rfl (fun w hw => (small_res hp2 hrq.1 w hw).2) h.fh)))).trans ?_
      refine (seq_nx (set_ok ((call_ok (cons_ok (tb_prime rfl) (cons_ok (len0 (mk := tI) (fun _ => .inr rfl) h.s0 h.sw rfl) (cons_ok rfl (cons_ok rfl rfl))))).trans (combined_ok hp hp2 (by omega) (mk := tI) (fun _ => .inr rfl) (.inr rfl) rfl (fun w hw => (small_res hp2 hrq.2 w hw).2) h.sw)))).trans ?_
      exact app_ok rfl ((call_ok (cons_ok (tb_prime rfl) (cons_ok rfl (cons_ok rfl (cons_ok rfl rfl))))).trans (cross_answer_ok hp (h.m hp hp2 _ _) (.inr rfl) (.inr rfl))) hys)
  obtain ⟨ρ', h1, ⟨a, b, c, d, rfl⟩⟩ := key
  refine defD_rt rfl ((seq_nx (own_ok rfl)).trans ((seq_nx ((for_ok (ds := rows.map pairD) ?_).trans h1)).trans (ret_ok (e1_ok rfl ?_))))
  · unfold iSeq
    rw [tb_rows rfl]
    rfl
  · show Res.ok (D.tup _) = Res.ok (D.tup _)
    rw [List.nil_append, List.map_map]
    rfl

def crossOf (p : Int) (one two : List Int) : List Int := one.flatMap fun a => two.map fun b => (a * b) % p
theorem crossed_ok {p : Int} (hp : 0 < p) {d e : D} {one two : List Int} (hd : IsI d one) (he : IsI e two) (hs : ∀ a ∈ one, Small a) (h1 : one.length ≤ 1000) (h2 : two.length ≤ 1000) : f_crossed [.int p, d, e] = .ok (tI (crossOf p one two)) := by
  have key : compL2 (gNm 3) tYes (iSeq (eVar 2)) (gNm 4) tYes (e2 oMod (e2 oMul (eVar 3) (eVar 4)) (eVar 0)) [4] (wipeE (startE 5 [.int p, d, e]) [3, 4]) (one.map D.int) = .ok ((crossOf p one two).map D.int) := by
    unfold crossOf
    rw [List.map_flatMap]
    refine compL2_of _ _ _ fun a ha => ⟨_, two.map D.int, rfl, rfl, iSeq_I he rfl, ?_⟩
    rw [List.map_map]
    exact compL_of _ _ _ fun b hb => ⟨_, rfl, rfl, e2_ok (e2_ok rfl rfl (mul_ok (mulOk_l (hs a ha).1 (hs a ha).2))) rfl (mod_ok hp)⟩
  refine defD_rt rfl (ret_ok (e1_ok (d := lI (crossOf p one two)) (l_ok ?_) rfl))
  unfold lComp2
  rw [iSeq_I hd rfl]
  show ((compL2 _ _ _ _ _ _ _ _ (one.map D.int)).bind _) = _
  rw [key]
  show (if ((crossOf p one two).map D.int).length ≤ line then _ else _) = _
  rw [if_pos]
  rw [List.length_map]
  have := flatMap_len (fun a => two.map fun b => (a * b) % p) one 1000 fun a _ => by rw [List.length_map]; exact h2
  unfold crossOf
  show _ ≤ 16777216
  omega
theorem whole_ok (i : Int) : f__law_whole [.int i] = .ok (.bl true) := by rfl
theorem tNot_ok {t : TV} {ρ : Env} {k : Bool} (h : t ρ = .ok k) : Pu.tNot t ρ = .ok (!k) := by unfold Pu.tNot; rw [h]; rfl
theorem tOr_f {t u : TV} {ρ : Env} {k : Bool} (h : t ρ = .ok false) (h' : u ρ = .ok k) : Pu.tOr t u ρ = .ok k := by unfold Pu.tOr; rw [h]; exact h'
theorem tOr_t {t u : TV} {ρ : Env} (h : t ρ = .ok true) : Pu.tOr t u ρ = .ok true := by unfold Pu.tOr; rw [h]; rfl
theorem tAnd_t {t u : TV} {ρ : Env} {k : Bool} (h : t ρ = .ok true) (h' : u ρ = .ok k) : Pu.tAnd t u ρ = .ok k := by unfold Pu.tAnd; rw [h]; exact h'
theorem tAnd_f {t u : TV} {ρ : Env} (h : t ρ = .ok false) : Pu.tAnd t u ρ = .ok false := by unfold Pu.tAnd; rw [h]; rfl
theorem tTruth_b {a : EV} {ρ : Env} {k : Bool} (h : a ρ = .ok (.bl k)) : tTruth a ρ = .ok k := by unfold tTruth; rw [h]; rfl
theorem tVal_b {a : EV} {ρ : Env} {k : Bool} (h : a ρ = .ok (.bl k)) : tVal a ρ = .ok k := by unfold tVal; rw [h]; rfl
theorem chain_ok {g g' : D → D → Res D} {a b c : EV} {ρ : Env} {x y z : D} {k k' : Bool} (h1 : a ρ = .ok x) (h2 : b ρ = .ok y) (h3 : g x y = .ok (.bl k)) (h4 : c ρ = .ok z) (h5 : g' y z = .ok (.bl k')) : eChain g g' a b c ρ = .ok (.bl (k && k')) := by
  unfold eChain
  rw [h1]
  show ((b ρ).bind _) = _
  rw [h2]
  show ((g x y).bind _) = _
  rw [h3]
  cases k with
  | true =>
    show ((c ρ).bind _) = _
    rw [h4]
    exact h5
  | false => rfl
theorem ne_int {i j : Int} : oNe (.int i) (.int j) = .ok (.bl (!(i == j))) := by rfl
theorem eq_int {i j : Int} : oEq (.int i) (.int j) = .ok (.bl (i == j)) := by rfl
theorem residues_ok {p : Int} {xs : List Int} (h : Res01 p xs) : f__law_residues [.int p, tI xs, .int xs.length] = .ok (.bl true) := by
  have e0 : Pu.tOr (Pu.tNot (tTruth (e1 bIsTuple (eVar 1)))) (tVal (e2 oNe (e1 bLen (eVar 1)) (eVar 2))) (startE 4 [.int p, tI xs, .int xs.length]) = .ok false := by
    refine tOr_f (k := false) (tNot_ok (k := true) (tTruth_b rfl)) (tVal_b (e2_ok (e1_ok rfl (IsI.len (.inr rfl))) rfl ?_))
    rw [ne_int]
    simp
  have key := forL_fold (g := gNm 3) (b := sIf (Pu.tOr (Pu.tNot (tTruth (eCall f__law_whole (aCons (eVar 3) (aNil))))) (Pu.tNot (tVal (eChain oLe oLt (eC (.int 0)) (eVar 3) (eVar 0))))) (sRet (eC (.bl false))) (sNil))
    D.int (fun (_ : Unit) _ => ()) (fun _ ρ => ∃ a, ρ = [some (.val (.int p)), some (.val (tI xs)), some (.val (.int xs.length)), a]) xs () [some (.val (.int p)), some (.val (tI xs)), some (.val (.int xs.length)), none] ⟨_, rfl⟩ (by
      rintro x hx _ ρ ⟨a, rfl⟩
      have hr := h x hx
      refine ⟨_, [some (.val (.int p)), some (.val (tI xs)), some (.val (.int xs.length)), some (.val (.int x))], rfl, .inl ?_, ⟨_, rfl⟩⟩
      rw [if_ok (k := false) (tOr_f (tNot_ok (k := true) (tTruth_b ((call_ok rfl).trans (whole_ok x)))) ?_)]
      · rfl
      · refine tNot_ok (k := true) (tVal_b ?_)
        have := chain_ok (g := oLe) (g' := oLt) (a := eC (.int 0)) (b := eVar 3) (c := eVar 0) (ρ := [some (.val (.int p)), some (.val (tI xs)), some (.val (.int xs.length)), some (.val (.int x))]) (x := .int 0) (y := .int x) (z := .int p) (k := decide (0 ≤ x)) (k' := decide (x < p)) rfl rfl rfl rfl rfl
        rw [decide_eq_true hr.1, decide_eq_true hr.2] at this
        exact this)
  obtain ⟨ρ', h1, ⟨a, rfl⟩⟩ := key
  refine defD_rt rfl ((seq_nx ((if_ok e0).trans rfl)).trans ((seq_nx ((for_ok (ds := xs.map D.int) (iSeq_I (.inr rfl) rfl)).trans h1)).trans (ret_ok rfl)))
/-! ### draws -/
theorem cell_ok (ns : List Int) (hl : ns.length ≤ 63) (k : Nat) (hk : k ≤ 1000) : ∃ c : Int, f__law_cell [.ext (ns.map D.int), .int k] = .ok (.int c) := by
  by_cases h : k < ns.length
  · refine ⟨ns[k], defD_rt rfl (seq_rt ((if_ok (k := true) (tVal_b (e2_ok rfl (e1_ok (c := .int ns.length) rfl ?_) ?_))).trans (ret_ok (e2_ok rfl rfl ?_))))⟩
    · show Res.ok (D.int (ns.map D.int).length) = _
      rw [List.length_map]
    · show Res.ok (D.bl (decide ((k : Int) < ns.length))) = _
      rw [decide_eq_true (by omega)]
    · show optR (atI (ns.map D.int) k) = _
      rw [atI_nat (x := D.int ns[k]) (by rw [List.getElem?_map, List.getElem?_eq_getElem h]; rfl)]
      rfl
  · have key := forL_fold (g := gNm 3) (b := sSet 2 (e2 oMod (e1 bInt (e2 oAdd (e2 oMul (eVar 2) (eC (.int 31))) (e2 oMod (e1 bInt (eVar 3)) (eC (.int 1000003))))) (eC (.int 1000003))))
      D.int (fun (t : Int) (x : Int) => (t * 31 + x % 1000003) % 1000003) (fun t ρ => (∃ a, ρ = [some (.val (.ext (ns.map D.int))), some (.val (.int k)), some (.val (.int t)), a])) ns 17
      [some (.val (.ext (ns.map D.int))), some (.val (.int k)), some (.val (.int 17)), none] ⟨_, rfl⟩ (by
        rintro x hx t ρ ⟨a, rfl⟩
        exact ⟨_, _, rfl, .inl (set_ok (e2_ok (e1_ok (e2_ok (e2_ok rfl rfl (mul_ok (mulOk_r (by decide) (by decide)))) (e2_ok (e1_ok rfl rfl) rfl (mod_ok (by decide))) rfl) rfl) rfl (mod_ok (by decide)))), ⟨_, rfl⟩⟩)
    obtain ⟨ρ', h1, ⟨a, rfl⟩⟩ := key
    refine ⟨_, defD_rt rfl ((seq_nx ((if_ok (k := false) (tVal_b (e2_ok rfl (e1_ok (c := .int ns.length) rfl ?_) ?_))).trans rfl)).trans ((seq_nx (set_ok rfl)).trans ((seq_nx ((for_ok (ds := ns.map D.int) rfl).trans h1)).trans (ret_ok (e2_ok (e1_ok (e2_ok (e2_ok (e2_ok rfl rfl rfl) (e2_ok rfl rfl rfl) (mul_ok (mulOk_r ?_ ?_))) rfl (mul_ok (mulOk_r (by decide) (by decide)))) rfl) rfl (mod_ok (by decide)))))))⟩
    · show Res.ok (D.int (ns.map D.int).length) = _
      rw [List.length_map]
    · show Res.ok (D.bl (decide ((k : Int) < ns.length))) = _
      rw [decide_eq_false (by omega)]
    · omega
    · omega
def Good (sizes row : List Int) (i : Nat) : Prop := row.length = i ∧ ∀ (j : Nat) (s r : Int), sizes[j]? = some s → row[j]? = some r → 0 ≤ r ∧ r < s
theorem Good.step {sizes row : List Int} {i : Nat} {s r : Int} (h : Good sizes row i) (hs : sizes[i]? = some s) (h1 : 0 ≤ r) (h2 : r < s) : Good sizes (row ++ [r]) (i + 1) := by
  refine ⟨by rw [List.length_append, h.1]; rfl, fun j s' r' e1 e2 => ?_⟩
  by_cases hj : j < i
  · rw [List.getElem?_append_left (by rw [h.1]; exact hj)] at e2
    exact h.2 j s' r' e1 e2
  · rw [List.getElem?_append_right (by rw [h.1]; omega), h.1] at e2
    have hji : j = i := by
      have := (List.getElem?_eq_some_iff.mp e2).1
      rw [List.length_singleton] at this
      omega
    subst hji
    rw [hs] at e1
    rw [Nat.sub_self] at e2
    obtain rfl : s = s' := Option.some.inj e1
    obtain rfl : r = r' := Option.some.inj e2
    exact ⟨h1, h2⟩
theorem digits_ok (c : Int) (sizes : List Int) (hl : sizes.length ≤ 1000) (hs : ∀ s ∈ sizes, 0 < s ∧ s < 1073741824) : ∃ row : List Int, f__law_digits [.int c, lI sizes] = .ok (lI row) ∧ Good sizes row sizes.length := by
  have q1 : sOwn 2 aNil (startE 8 [.int c, lI sizes]) = .nx [some (.val (.int c)), some (.val (lI sizes)), some (.own []), none, none, none, none, none] := own_ok rfl
  have q2 : sSet 3 (e1 bInt (eVar 0)) [some (.val (.int c)), some (.val (lI sizes)), some (.own []), none, none, none, none, none] = .nx [some (.val (.int c)), some (.val (lI sizes)), some (.own []), some (.val (.int c)), none, none, none, none] := set_ok rfl
  have ep : ∀ ρ : Env, e2 oPow (eC (.int 10)) (eC (.int 18)) ρ = .ok (.int 1000000000000000000) := fun ρ => e2_ok rfl rfl (by rfl)
  have et : tVal (e2 oGe (eVar 3) (e2 oPow (eC (.int 10)) (eC (.int 18)))) [some (.val (.int c)), some (.val (lI sizes)), some (.own []), some (.val (.int c)), none, none, none, none] = .ok (decide ((1000000000000000000 : Int) ≤ c)) := tVal_b (e2_ok rfl (ep _) rfl)
  by_cases hc : (1000000000000000000 : Int) ≤ c
  · have key := forL_all (g := gNm 6) (b := sSeq (sApp 2 (e2 oMod (e1 bInt (eVar 3)) (eVar 6))) (sSet 3 (e2 oDiv (e1 bInt (eVar 3)) (eVar 6)))) (ds := sizes.map D.int)
      (fun i ρ => ∃ (row : List Int) (rest : Int) (a : Option Cell), ρ = [some (.val (.int c)), some (.val (lI sizes)), some (.own (row.map D.int)), some (.val (.int rest)), none, none, a, none] ∧ Good sizes row i)
      (ρ := [some (.val (.int c)), some (.val (lI sizes)), some (.own []), some (.val (.int (c - 1000000000000000000))), none, none, none, none]) ⟨[], _, _, rfl, rfl, fun j s r _ e => by simp at e⟩ (by
        rintro i d ρ hd ⟨row, rest, a, rfl, hg⟩
        rw [List.getElem?_map] at hd
        obtain ⟨s, hsi, rfl⟩ := Option.map_eq_some_iff.mp hd
        obtain ⟨h1, h2⟩ := hs s (List.mem_of_getElem? hsi)
        have hi : i < sizes.length := (List.getElem?_eq_some_iff.mp hsi).1
        refine ⟨[some (.val (.int c)), some (.val (lI sizes)), some (.own (row.map D.int)), some (.val (.int rest)), none, none, some (.val (.int s)), none], [some (.val (.int c)), some (.val (lI sizes)), some (.own ((row ++ [rest % s]).map D.int)), some (.val (.int (rest / s))), none, none, some (.val (.int s)), none], rfl, .inl ?_, row ++ [rest % s], _, _, rfl, hg.step hsi (Int.emod_nonneg _ (by omega)) (Int.emod_lt_of_pos _ h1)⟩
        refine seq_go (app_ok rfl (e2_ok (e1_ok rfl rfl) rfl (mod_ok h1)) (by rw [List.length_map, hg.1]; omega)) ?_
        refine Eq.trans (set_ok (e2_ok (e1_ok rfl rfl) rfl (div_ok h1 h2))) ?_
        rw [List.map_append]
        rfl)
    obtain ⟨ρ', h1, row, rest, a, rfl, hg⟩ := key
    rw [List.length_map] at hg
    rw [decide_eq_true hc] at et
    refine ⟨row, defD_rt rfl ((seq_nx q1).trans ((seq_nx q2).trans (seq_rt ((if_ok et).trans ?_)))), hg⟩
    rw [if_pos rfl]
    refine (seq_nx (set_ok (e2_ok rfl (ep _) rfl))).trans ((seq_nx ((for_ok (ds := sizes.map D.int) rfl).trans h1)).trans ?_)
    exact ret_ok rfl
  · have key := forL_all (g := gNm 5) (b := sSeq (sSet 4 (e2 oMod (e1 bInt (e2 oAdd (e2 oAdd (e2 oMul (eVar 4) (eC (.int 48271))) (e2 oMul (eC (.int 974711)) (eVar 5))) (eC (.int 12345)))) (eC (.int 2147483647)))) (sSeq (sSet 7 (e2 oMod (e1 bInt (e2 oMul (eVar 4) (e2 oAdd (e2 oDiv (eVar 4) (eC (.int 65537))) (eC (.int 3))))) (eC (.int 2147483629)))) (sApp 2 (e2 oMod (e2 oDiv (eVar 7) (eC (.int 19))) (e2 oIx (eVar 1) (eVar 5))))))
      (ds := (List.range sizes.length).map fun (i : Nat) => .int i)
      (fun i ρ => ∃ (row : List Int) (seed : Int) (a b : Option Cell), ρ = [some (.val (.int c)), some (.val (lI sizes)), some (.own (row.map D.int)), some (.val (.int c)), some (.val (.int seed)), a, none, b] ∧ Good sizes row i)
      (ρ := [some (.val (.int c)), some (.val (lI sizes)), some (.own []), some (.val (.int c)), some (.val (.int (c % 2147483629))), none, none, none]) ⟨[], _, _, _, rfl, rfl, fun j s r _ e => by simp at e⟩ (by
        rintro i d ρ hd ⟨row, seed, a, b, rfl, hg⟩
        rw [List.getElem?_map] at hd
        obtain ⟨i', hi', rfl⟩ := Option.map_eq_some_iff.mp hd
        have hlt := (List.getElem?_eq_some_iff.mp hi').1
        rw [List.length_range] at hlt
        obtain rfl : i = i' := by
          rw [List.getElem?_range hlt] at hi'
          exact Option.some.inj hi'
        obtain ⟨h1, h2⟩ := hs _ (List.getElem_mem hlt)
        have hsi := List.getElem?_eq_getElem hlt
        have hb : ∀ x : Int, -18446744073709551616 < x % 2147483647 ∧ x % 2147483647 < 18446744073709551616 := fun x => by
          have h1 := Int.emod_nonneg x (show (2147483647 : Int) ≠ 0 by decide)
          have h2 := Int.emod_lt_of_pos x (show (0 : Int) < 2147483647 by decide)
          omega
        refine ⟨[some (.val (.int c)), some (.val (lI sizes)), some (.own (row.map D.int)), some (.val (.int c)), some (.val (.int seed)), some (.val (.int i)), none, b],
          [some (.val (.int c)), some (.val (lI sizes)), some (.own ((row ++ [((seed * 48271 + 974711 * i + 12345) % 2147483647 * ((seed * 48271 + 974711 * i + 12345) % 2147483647 / 65537 + 3)) % 2147483629 / 19 % sizes[i]]).map D.int)), some (.val (.int c)), some (.val (.int ((seed * 48271 + 974711 * i + 12345) % 2147483647))), some (.val (.int i)), none, some (.val (.int (((seed * 48271 + 974711 * i + 12345) % 2147483647 * ((seed * 48271 + 974711 * i + 12345) % 2147483647 / 65537 + 3)) % 2147483629)))], rfl, .inl ?_, row ++ [_], _, _, _, rfl, hg.step hsi (Int.emod_nonneg _ (by omega)) (Int.emod_lt_of_pos _ h1)⟩
        refine seq_go (set_ok (d := .int ((seed * 48271 + 974711 * i + 12345) % 2147483647)) (e2_ok (e1_ok (e2_ok (e2_ok (e2_ok rfl rfl (mul_ok (mulOk_r (j := 48271) (by decide) (by decide)))) (e2_ok rfl rfl (mul_ok (mulOk_l (i := 974711) (by decide) (by decide)))) rfl) rfl rfl) rfl) rfl (mod_ok (j := 2147483647) (by decide)))) ?_
        refine seq_go (set_ok (d := .int (((seed * 48271 + 974711 * i + 12345) % 2147483647 * ((seed * 48271 + 974711 * i + 12345) % 2147483647 / 65537 + 3)) % 2147483629)) (e2_ok (e1_ok (e2_ok rfl (e2_ok (e2_ok rfl rfl (div_ok (j := 65537) (by decide) (by decide))) rfl rfl) (mul_ok (mulOk_l (hb _).1 (hb _).2))) rfl) rfl (mod_ok (j := 2147483629) (by decide)))) ?_
        refine Eq.trans (app_ok (ds := row.map D.int) rfl (e2_ok (e2_ok rfl rfl (div_ok (j := 19) (by decide) (by decide))) (e2_ok rfl rfl (ix_lI hsi)) (mod_ok h1)) (by rw [List.length_map, hg.1]; omega)) ?_
        rw [List.map_append]
        rfl)
    obtain ⟨ρ', h1, row, seed, a, b, rfl, hg⟩ := key
    rw [List.length_map, List.length_range] at hg
    rw [decide_eq_false hc] at et
    refine ⟨row, defD_rt rfl (seq_go q1 (seq_go q2 (seq_go (if_f et rfl) (seq_go (set_ok (d := .int (c % 2147483629)) (e2_ok (e1_ok rfl rfl) rfl (mod_ok (j := 2147483629) (by decide)))) (seq_go (for_go (ds := (List.range sizes.length).map fun (i : Nat) => .int i) (rng1_ok (n := sizes.length) (e1_ok rfl (IsI.len (.inl rfl))) (by omega)) h1) ?_))))), hg⟩
    exact ret_ok rfl
end Pu

set_option maxHeartbeats 1000000
namespace Pu
open PySem
/-! ### texts -/
theorem lay_prime : PyData.canLay0 (.str "prime") = true := by decide +kernel
theorem lay_size : PyData.canLay0 (.str "size") = true := by decide +kernel
theorem lay_hands : PyData.canLay0 (.str "hands") = true := by decide +kernel
theorem lay_row : PyData.canLay0 (.str "row") = true := by decide +kernel
theorem eq_str {x y : Str} (hx : PyData.canLay0 (.str x) = true) (hy : PyData.canLay0 (.str y) = true) : oEq (.str x) (.str y) = .ok (.bl (x == y)) := if_pos ⟨hx, hy⟩
theorem dep_due {x : Str} (hx : PyData.canLay0 (.str x) = true) (p q : Int) (n : Nat) : D.dep (n + 1) (.lst [.str x, .int p, .int q]) = true := by
  show [D.str x, .int p, .int q].all (D.dep n) = true
  rw [List.all_cons, List.all_cons, List.all_cons, List.all_nil]
  have h1 : D.dep n (.str x) = true := by cases n <;> exact hx
  have h2 : ∀ i : Int, D.dep n (.int i) = true := fun i => by cases n <;> rfl
  rw [h1, h2, h2]
  rfl
theorem due_ne {x : Str} (hx : PyData.canLay0 (.str x) = true) (p q : Int) : oEq (.lst [.str x, .int p, .int q]) (.lst []) = .ok (.bl false) := if_pos ⟨dep_due hx p q 7, rfl⟩
theorem due_ne' {x : Str} (hx : PyData.canLay0 (.str x) = true) (p q : Int) : oNe (.lst [.str x, .int p, .int q]) (.lst []) = .ok (.bl true) := if_pos ⟨dep_due hx p q 7, rfl⟩
/-! ### primes -/
structure PrimeIs (p : Int) (b : Bool) : Prop where
  cp : f_checked_prime [.int p] = if b = true then .ok (.int p) else .exc "BadPrime" [("prime", .int p)]
  lp : (decide (2 ≤ p) && decide (p ≤ 997)) = true → f__law_is_prime [.int p] = .ok (.bl b)
  le : (decide (2 ≤ p) && decide (p ≤ 997)) = false → b = false
  pos : b = true → 0 < p
def PR : List Int := [13, 17, 19, 23, 31, 61, 97, 101, 251, 499, 997]
theorem pi13 : PrimeIs 13 true := ⟨by kernel_rfl, fun _ => by kernel_rfl, by decide, by decide⟩
theorem pi17 : PrimeIs 17 true := ⟨by kernel_rfl, fun _ => by kernel_rfl, by decide, by decide⟩
theorem pi19 : PrimeIs 19 true := ⟨by kernel_rfl, fun _ => by kernel_rfl, by decide, by decide⟩
theorem pi23 : PrimeIs 23 true := ⟨by kernel_rfl, fun _ => by kernel_rfl, by decide, by decide⟩
theorem pi31 : PrimeIs 31 true := ⟨by kernel_rfl, fun _ => by kernel_rfl, by decide, by decide⟩
theorem pi61 : PrimeIs 61 true := ⟨by kernel_rfl, fun _ => by kernel_rfl, by decide, by decide⟩
theorem pi97 : PrimeIs 97 true := ⟨by kernel_rfl, fun _ => by kernel_rfl, by decide, by decide⟩
theorem pi101 : PrimeIs 101 true := ⟨by kernel_rfl, fun _ => by kernel_rfl, by decide, by decide⟩
theorem pi251 : PrimeIs 251 true := ⟨by kernel_rfl, fun _ => by kernel_rfl, by decide, by decide⟩
theorem pi499 : PrimeIs 499 true := ⟨by kernel_rfl, fun _ => by kernel_rfl, by decide, by decide⟩
theorem pi997 : PrimeIs 997 true := ⟨by kernel_rfl, fun _ => by kernel_rfl, by decide, by decide⟩
theorem pi1 : PrimeIs 1 false := ⟨by kernel_rfl, fun h => absurd h (by decide), fun _ => rfl, by decide⟩
theorem pi999 : PrimeIs 999 false := ⟨by kernel_rfl, fun h => absurd h (by decide), fun _ => rfl, by decide⟩
theorem pi4 : PrimeIs 4 false := ⟨by kernel_rfl, fun _ => by kernel_rfl, fun _ => rfl, by decide⟩
theorem pr_is {p : Int} (h : p ∈ PR) : PrimeIs p true ∧ p < 1000 := by
  unfold PR at h
  simp only [List.mem_cons, List.not_mem_nil, or_false] at h
  rcases h with rfl | rfl | rfl | rfl | rfl | rfl | rfl | rfl | rfl | rfl | rfl
  · exact ⟨pi13, by decide⟩
  · exact ⟨pi17, by decide⟩
  · exact ⟨pi19, by decide⟩
  · exact ⟨pi23, by decide⟩
  · exact ⟨pi31, by decide⟩
  · exact ⟨pi61, by decide⟩
  · exact ⟨pi97, by decide⟩
  · exact ⟨pi101, by decide⟩
  · exact ⟨pi251, by decide⟩
  · exact ⟨pi499, by decide⟩
  · exact ⟨pi997, by decide⟩
theorem great_ok (d : Int) : ∃ p ∈ PR, f__law_great_prime [.int d] = .ok (.int p) := by
  have h1 := Int.emod_nonneg d (show (11 : Int) ≠ 0 by decide)
  have h2 := Int.emod_lt_of_pos d (show (0 : Int) < 11 by decide)
  have hi : (d % 11).toNat < PR.length := by
    show _ < 11
    omega
  refine ⟨PR[(d % 11).toNat], List.getElem_mem hi, defD_rt rfl (ret_ok (e2_ok (d := lI PR) (c := .int (d % 11)) rfl (e2_ok (e1_ok rfl rfl) rfl (mod_ok (by decide))) ?_))⟩
  have e : d % 11 = ((d % 11).toNat : Int) := by omega
  conv => lhs; rw [e]
  exact ix_lI (List.getElem?_eq_getElem hi)
/-! ### the checks of a table -/
def sizeOk (lots others : Int) : Bool := (decide (1 ≤ lots) && decide (lots ≤ 3)) && (decide (1 ≤ others) && decide (others ≤ 3))
theorem size_test {i j : Nat} {ρ : Env} {lots others : Int} (h1 : eVar i ρ = .ok (.int lots)) (h2 : eVar j ρ = .ok (.int others)) :
    Pu.tOr (Pu.tNot (tVal (eChain oLe oLe (eC (.int 1)) (eVar i) (eC (.int 3))))) (Pu.tNot (tVal (eChain oLe oLe (eC (.int 1)) (eVar j) (eC (.int 3))))) ρ = .ok (!sizeOk lots others) := by
  have a := tNot_ok (tVal_b (chain_ok (g := oLe) (g' := oLe) (a := eC (.int 1)) (c := eC (.int 3)) (z := .int 3) rfl h1 (show oLe (.int 1) (.int lots) = _ from rfl) rfl rfl))
  have b := tNot_ok (tVal_b (chain_ok (g := oLe) (g' := oLe) (a := eC (.int 1)) (c := eC (.int 3)) (z := .int 3) rfl h2 (show oLe (.int 1) (.int others) = _ from rfl) rfl rfl))
  unfold sizeOk
  cases hk : (decide (1 ≤ lots) && decide (lots ≤ 3)) with
  | true =>
    rw [hk] at a
    exact tOr_f a b
  | false =>
    rw [hk] at a
    exact tOr_t a
def checkOf (p : Int) (b : Bool) (lots others : Int) (n : Nat) : Res D :=
  if b = true then (if sizeOk lots others = true then (if 9 < n then .exc "TooManyHands" [("count", .int n)] else .ok .non) else .exc "BadSize" [("pads", .int others), ("lots", .int lots)]) else .exc "BadPrime" [("prime", .int p)]
theorem raise_ok {C : Str} {ns : List Str} {a : AV} {ρ : Env} {ds : List D} (h : a ρ = .ok ds) (hl : ds.length = ns.length) : sRaise C ns a ρ = .ex ρ C (ns.zip ds).reverse := by
  unfold sRaise
  rw [h]
  exact if_pos hl
theorem expr_ok {a : EV} {ρ : Env} {d : D} (h : a ρ = .ok d) : sExpr a ρ = .nx ρ := by unfold sExpr; rw [h]; rfl
theorem expr_exc {a : EV} {ρ : Env} {C : Str} {fs : List (Str × D)} (h : a ρ = .exc C fs) : sExpr a ρ = .ex ρ C fs := by unfold sExpr; rw [h]; rfl
theorem seq_ex {g h : SV} {ρ ρ' : Env} {C : Str} {fs : List (Str × D)} (e : g ρ = .ex ρ' C fs) : sSeq g h ρ = .ex ρ' C fs := by unfold sSeq; rw [e]
theorem check_ok {p : Int} {b : Bool} (h : PrimeIs p b) (lots others : Int) (n : Nat) : f_check_crossed [.int p, .int lots, .int others, .int n] = checkOf p b lots others n := by
  unfold checkOf
  have hc : eCall f_checked_prime (aCons (eVar 0) aNil) (startE 4 [.int p, .int lots, .int others, .int n]) = if b = true then .ok (.int p) else .exc "BadPrime" [("prime", .int p)] := callGo rfl h.cp
  cases b with
  | false =>
    rw [if_neg (by decide)] at hc ⊢
    exact defD_ex rfl (seq_ex (expr_exc hc))
  | true =>
    rw [if_pos rfl] at hc ⊢
    have hs := size_test (i := 1) (j := 2) (ρ := startE 4 [.int p, .int lots, .int others, .int n]) (lots := lots) (others := others) rfl rfl
    cases hz : sizeOk lots others with
    | false =>
      rw [hz] at hs
      rw [if_neg (by decide)]
      exact defD_ex rfl (seq_go (expr_ok hc) (seq_ex (if_t hs (raise_ok (ns := ["lots", "pads"]) (ds := [.int lots, .int others]) rfl rfl))))
    | true =>
      rw [hz] at hs
      rw [if_pos rfl]
      have hg : tVal (e2 oGt (eVar 3) (eC (.int 9))) (startE 4 [.int p, .int lots, .int others, .int n]) = .ok (decide ((9 : Int) < n)) := tVal_b (e2_ok rfl rfl rfl)
      by_cases hn : 9 < n
      · rw [if_pos hn]
        rw [decide_eq_true (by omega)] at hg
        exact defD_ex rfl (seq_go (expr_ok hc) (seq_go (if_f hs rfl) (if_t hg (raise_ok (ns := ["count"]) (ds := [.int n]) rfl rfl))))
      · rw [if_neg hn]
        rw [decide_eq_false (by omega)] at hg
        exact defD_nx rfl (seq_go (expr_ok hc) (seq_go (if_f hs rfl) (if_f hg rfl)))
end Pu

set_option maxHeartbeats 1000000
namespace Pu
open PySem
abbrev pD (pair : List (List Int)) : D := .lst (pair.map lI)
abbrev rowsD (rows : List (List (List Int))) : D := .lst (rows.map pD)
def rowOk (lots others : Int) : List (List Int) → Bool
  | [a, b] => ((a.length : Int) == lots) && ((b.length : Int) == others)
  | _ => false
theorem rowOk_two {lots others : Int} {pair : List (List Int)} (h : rowOk lots others pair = true) : ∃ a b, pair = [a, b] ∧ (a.length : Int) = lots ∧ (b.length : Int) = others := by
  unfold rowOk at h
  split at h
  · rename_i a b
    rw [Bool.and_eq_true, beq_iff_eq, beq_iff_eq] at h
    exact ⟨a, b, rfl, h.1, h.2⟩
  · cases h
theorem row_test {e : EV} {i j : Nat} {ρ : Env} {lots others : Int} {pair : List (List Int)} (he : e ρ = .ok (pD pair)) (h1 : eVar i ρ = .ok (.int lots)) (h2 : eVar j ρ = .ok (.int others)) :
    Pu.tOr (tVal (e2 oNe (e1 bLen e) (eC (.int 2)))) (Pu.tOr (tVal (e2 oNe (e1 bLen (e2 oIx e (eC (.int 0)))) (eVar i))) (tVal (e2 oNe (e1 bLen (e2 oIx e (eC (.int 1)))) (eVar j)))) ρ = .ok (!rowOk lots others pair) := by
  have hl : tVal (e2 oNe (e1 bLen e) (eC (.int 2))) ρ = .ok (!((pair.length : Int) == 2)) := by
    refine tVal_b (e2_ok (e1_ok he ?_) rfl ne_int)
    show Res.ok (D.int (pair.map lI).length) = _
    rw [List.length_map]
  match pair, he, hl with
  | [], he, hl => exact tOr_t hl
  | [a], he, hl => exact tOr_t hl
  | [a, b], he, hl =>
    refine tOr_f hl ?_
    have ha : tVal (e2 oNe (e1 bLen (e2 oIx e (eC (.int 0)))) (eVar i)) ρ = .ok (!((a.length : Int) == lots)) := tVal_b (e2_ok (e1_ok (e2_ok he rfl (ix_lst (i := 0) (d := lI a) rfl)) (IsI.len (.inl rfl))) h1 ne_int)
    have hb : tVal (e2 oNe (e1 bLen (e2 oIx e (eC (.int 1)))) (eVar j)) ρ = .ok (!((b.length : Int) == others)) := tVal_b (e2_ok (e1_ok (e2_ok he rfl (ix_lst (i := 1) (d := lI b) rfl)) (IsI.len (.inl rfl))) h2 ne_int)
    show _ = Res.ok (!(((a.length : Int) == lots) && ((b.length : Int) == others)))
    cases hz : ((a.length : Int) == lots) with
    | false =>
      rw [hz] at ha
      exact tOr_t ha
    | true =>
      rw [hz] at ha
      exact tOr_f ha hb
  | a :: b :: c :: r, he, hl =>
    have : ((((a :: b :: c :: r).length : Nat) : Int) == 2) = false := by
      rw [beq_eq_false_iff_ne, List.length_cons, List.length_cons, List.length_cons]
      omega
    rw [this] at hl
    exact tOr_t hl
def firstBad (lots others : Int) (rows : List (List (List Int))) : Option Nat := (rows.zipIdx.find? fun q => !rowOk lots others q.1).map (·.2)
def pairOf (pr : List (List Int)) : List Int × List Int := (pr.getD 0 [], pr.getD 1 [])
def redOf (p : Int) (rows : List (List (List Int))) : List (List Int × List Int) := rows.map fun pr => ((pairOf pr).1.map (· % p), (pairOf pr).2.map (· % p))
theorem firstBad_none {lots others : Int} {rows : List (List (List Int))} (h : rows.zipIdx.find? (fun q => !rowOk lots others q.1) = none) : ∀ pr ∈ rows, rowOk lots others pr = true := fun pr hp => by
  obtain ⟨i, hi, e⟩ := List.mem_iff_getElem.mp hp
  have := List.find?_eq_none.mp h (pr, i) (List.mem_zipIdx_iff_getElem?.mpr (by rw [List.getElem?_eq_getElem hi, e]))
  simpa using this
def tableOf (p : Int) (b : Bool) (lots others : Int) (rows : List (List (List Int))) : Res D :=
  match checkOf p b lots others rows.length with
  | .ok _ => (match firstBad lots others rows with
    | some k => .exc "BadRow" [("index", .int k)]
    | none => .ok (tableD p lots others (redOf p rows)))
  | .exc C fs => .exc C fs
  | .bad => .bad
theorem table_ok {p : Int} {b : Bool} (h : PrimeIs p b) (lots others : Int) (rows : List (List (List Int))) (hl : rows.length ≤ 1000) : f_CrossTable [.int p, .int lots, .int others, rowsD rows] = tableOf p b lots others rows := by
  have hc : eCall f_check_crossed (aCons (eVar 1) (aCons (eVar 2) (aCons (eVar 3) (aCons (e1 bLen (eVar 4)) (aNil))))) (some (.oobj "CrossTable" []) :: startE 8 [.int p, .int lots, .int others, rowsD rows]) = checkOf p b lots others rows.length := by
    refine callGo (ds := [.int p, .int lots, .int others, .int rows.length]) (cons_ok rfl (cons_ok rfl (cons_ok rfl (cons_ok (e1_ok rfl ?_) rfl)))) (check_ok h lots others rows.length)
    show Res.ok (D.int (rows.map pD).length) = _
    rw [List.length_map]
  unfold tableOf f_CrossTable initD
  rw [if_pos (show [D.int p, D.int lots, D.int others, rowsD rows].length = 4 from rfl)]
  cases hk : checkOf p b lots others rows.length with
  | exc C fs =>
    rw [hk] at hc
    have : g_CrossTable (some (.oobj "CrossTable" []) :: startE (9 - 1) [.int p, .int lots, .int others, rowsD rows]) = .ex _ C fs := seq_ex (expr_exc hc)
    rw [this]
  | bad =>
    exfalso
    unfold checkOf at hk
    cases b with
    | false => rw [if_neg (by decide)] at hk; cases hk
    | true =>
      rw [if_pos rfl] at hk
      split at hk
      · split at hk <;> cases hk
      · cases hk
  | ok d =>
    rw [hk] at hc
    have hb : b = true := by
      unfold checkOf at hk
      cases b with
      | false => rw [if_neg (by decide)] at hk; cases hk
      | true => rfl
    have hp := h.pos hb
    have key := forL_first (g := gTu (gCn (gNm 5) (gCn (gNm 6) gNl))) (b := sIf (Pu.tOr (tVal (e2 oNe (e1 bLen (eVar 6)) (eC (.int 2)))) (Pu.tOr (tVal (e2 oNe (e1 bLen (e2 oIx (eVar 6) (eC (.int 0)))) (eVar 2))) (tVal (e2 oNe (e1 bLen (e2 oIx (eVar 6) (eC (.int 1)))) (eVar 3))))) (sRaise "BadRow" ["index"] (aCons (eVar 5) (aNil))) (sNil))
      (fun q : List (List Int) × Nat => .tup [.int q.2, pD q.1]) (fun ρ => ∃ a c, ρ = [some (.oobj "CrossTable" []), some (.val (.int p)), some (.val (.int lots)), some (.val (.int others)), some (.val (rowsD rows)), a, c, none, none]) (rowOk lots others) (fun k r => ∃ ρ, r = .ex ρ "BadRow" [("index", .int k)]) rows.zipIdx
      [some (.oobj "CrossTable" []), some (.val (.int p)), some (.val (.int lots)), some (.val (.int others)), some (.val (rowsD rows)), none, none, none, none] ⟨_, _, rfl⟩ (by
        rintro q hq ρ ⟨a, c, rfl⟩
        refine ⟨[some (.oobj "CrossTable" []), some (.val (.int p)), some (.val (.int lots)), some (.val (.int others)), some (.val (rowsD rows)), some (.val (.int q.2)), some (.val (pD q.1)), none, none], rfl, fun hg => ?_, fun hg => ?_⟩
        · have ht := row_test (e := eVar 6) (i := 2) (j := 3) (ρ := [some (.oobj "CrossTable" []), some (.val (.int p)), some (.val (.int lots)), some (.val (.int others)), some (.val (rowsD rows)), some (.val (.int q.2)), some (.val (pD q.1)), none, none]) (lots := lots) (others := others) (pair := q.1) rfl rfl rfl
          rw [hg] at ht
          exact ⟨_, if_f ht rfl, _, _, rfl⟩
        · have ht := row_test (e := eVar 6) (i := 2) (j := 3) (ρ := [some (.oobj "CrossTable" []), some (.val (.int p)), some (.val (.int lots)), some (.val (.int others)), some (.val (rowsD rows)), some (.val (.int q.2)), some (.val (pD q.1)), none, none]) (lots := lots) (others := others) (pair := q.1) rfl rfl rfl
          rw [hg] at ht
          rw [if_t ht (raise_ok (ns := ["index"]) (ds := [.int q.2]) rfl rfl)]
          exact ⟨trivial, _, rfl⟩)
    have hen : iEnum (eVar 4) (some (.oobj "CrossTable" []) :: startE 8 [.int p, .int lots, .int others, rowsD rows]) = .ok (rows.zipIdx.map fun q => .tup [.int q.2, pD q.1]) := by
      rw [iEnum_ok (x := rowsD rows) (xs := rows.map pD) rfl rfl, enumD_map]
    unfold firstBad
    rcases key with ⟨hf, ρ', h1, a, c, rfl⟩ | ⟨q, hf, ρ', h1⟩
    · rw [hf]
      have hall := firstBad_none hf
      have hrows : e1 bTuple (eL (lComp (iSeq (eVar 4)) (gTu (gCn (gNm 7) (gCn (gNm 8) (gNl)))) (tYes) (eTup (aCons (eCall f_reduced (aCons (eVar 1) (aCons (eVar 7) (aNil)))) (aCons (eCall f_reduced (aCons (eVar 1) (aCons (eVar 8) (aNil)))) (aNil)))) [7, 8])) [some (.oobj "CrossTable" [("prime", .int p), ("lots", .int lots), ("others", .int others), ("hands", .int rows.length)]), some (.val (.int p)), some (.val (.int lots)), some (.val (.int others)), some (.val (rowsD rows)), a, c, none, none] = .ok (.tup ((redOf p rows).map pairD)) := by
        refine e1_ok (l_ok (comp_ok (ds := rows.map pD) (ys := rows.map fun pr => pairD ((pairOf pr).1.map (· % p), (pairOf pr).2.map (· % p))) rfl (compL_of pD _ rows fun pr hpr => ?_))) ?_
        · obtain ⟨u, v, rfl, hu, hv⟩ := rowOk_two (hall pr hpr)
          refine ⟨_, rfl, rfl, ?_⟩
          unfold eTup
          rw [cons_ok (callGo rfl (reduced_ok hp (.inl rfl))) (cons_ok (callGo rfl (reduced_ok hp (.inl rfl))) rfl)]
          rfl
        · show Res.ok (D.tup _) = _
          unfold redOf
          rw [List.map_map]
          rfl
      have : g_CrossTable (some (.oobj "CrossTable" []) :: startE (9 - 1) [.int p, .int lots, .int others, rowsD rows]) = .nx [some (.oobj "CrossTable" [("prime", .int p), ("lots", .int lots), ("others", .int others), ("hands", .int rows.length), ("rows", .tup ((redOf p rows).map pairD))]), some (.val (.int p)), some (.val (.int lots)), some (.val (.int others)), some (.val (rowsD rows)), a, c, none, none] := by
        refine seq_go (expr_ok hc) (seq_go (for_go hen h1) (seq_go (fldset_ok (C := "CrossTable") (fs := []) rfl (by decide) rfl (by simp)) (seq_go (fldset_ok (C := "CrossTable") (fs := [("prime", .int p)]) rfl (by decide) rfl (by simp))
          (seq_go (fldset_ok (C := "CrossTable") (fs := [("prime", .int p), ("lots", .int lots)]) rfl (by decide) rfl (by simp)) (seq_go (fldset_ok (C := "CrossTable") (fs := [("prime", .int p), ("lots", .int lots), ("others", .int others)]) (d := .int rows.length) rfl (by decide) (e1_ok rfl ?_) (by simp)) ?_)))))
        · show Res.ok (D.int (rows.map pD).length) = _
          rw [List.length_map]
        · exact fldset_ok (C := "CrossTable") (fs := [("prime", .int p), ("lots", .int lots), ("others", .int others), ("hands", .int rows.length)]) rfl (by decide) hrows (by simp)
      rw [this]
      show doneE "CrossTable" _ = _
      unfold tableD redOf
      rw [List.length_map]
      rfl
    · rw [hf]
      have : g_CrossTable (some (.oobj "CrossTable" []) :: startE (9 - 1) [.int p, .int lots, .int others, rowsD rows]) = .ex ρ' "BadRow" [("index", .int q.2)] := seq_go (expr_ok hc) (seq_ex (for_go hen h1))
      rw [this]
      rfl
end Pu

set_option maxHeartbeats 1000000
namespace Pu
open PySem
def dueOf (p : Int) (b : Bool) (lots others : Int) (rows : List (List (List Int))) : D :=
  if b = true then (if sizeOk lots others = true then (if 9 < rows.length then .lst [.str "hands", .int rows.length, .int 0] else match firstBad lots others rows with
    | some k => .lst [.str "row", .int k, .int 0]
    | none => .lst []) else .lst [.str "size", .int lots, .int others]) else .lst [.str "prime", .int p, .int 0]
theorem prime_test {p : Int} {b : Bool} (h : PrimeIs p b) {ρ : Env} (e : eVar 0 ρ = .ok (.int p)) : Pu.tOr (Pu.tNot (tVal (eChain oLe oLe (eC (.int 2)) (eVar 0) (eC (.int 997))))) (Pu.tNot (tTruth (eCall f__law_is_prime (aCons (eVar 0) (aNil))))) ρ = .ok (!b) := by
  have a := tNot_ok (tVal_b (chain_ok (g := oLe) (g' := oLe) (a := eC (.int 2)) (c := eC (.int 997)) (z := .int 997) rfl e (show oLe (.int 2) (.int p) = _ from rfl) rfl rfl))
  cases hk : (decide (2 ≤ p) && decide (p ≤ 997)) with
  | true =>
    rw [hk] at a
    exact tOr_f a (tNot_ok (tTruth_b (callGo (cons_ok e rfl) (h.lp hk))))
  | false =>
    rw [hk] at a
    rw [h.le hk]
    exact tOr_t a
theorem due_ok {p : Int} {b : Bool} (h : PrimeIs p b) (lots others : Int) (rows : List (List (List Int))) (hl : rows.length ≤ 1000) : f__law_due [.int p, .int lots, .int others, rowsD rows] = .ok (dueOf p b lots others rows) := by
  have hp := prime_test h (ρ := startE 5 [.int p, .int lots, .int others, rowsD rows]) rfl
  unfold dueOf
  cases b with
  | false =>
    rw [if_neg (by decide)]
    exact defD_rt rfl (seq_rt (if_t hp (ret_ok rfl)))
  | true =>
    rw [if_pos rfl]
    have hs := size_test (i := 1) (j := 2) (ρ := startE 5 [.int p, .int lots, .int others, rowsD rows]) (lots := lots) (others := others) rfl rfl
    cases hz : sizeOk lots others with
    | false =>
      rw [hz] at hs
      rw [if_neg (by decide)]
      exact defD_rt rfl (seq_go (if_f hp rfl) (seq_rt (if_t hs (ret_ok rfl))))
    | true =>
      rw [hz] at hs
      rw [if_pos rfl]
      have hn : e1 bLen (eVar 3) (startE 5 [.int p, .int lots, .int others, rowsD rows]) = .ok (.int rows.length) := e1_ok rfl (by
        show Res.ok (D.int (rows.map pD).length) = _
        rw [List.length_map])
      have hg : tVal (e2 oGt (e1 bLen (eVar 3)) (eC (.int 9))) (startE 5 [.int p, .int lots, .int others, rowsD rows]) = .ok (decide ((9 : Int) < rows.length)) := tVal_b (e2_ok hn rfl rfl)
      by_cases hc : 9 < rows.length
      · rw [if_pos hc]
        rw [decide_eq_true (by omega)] at hg
        exact defD_rt rfl (seq_go (if_f hp rfl) (seq_go (if_f hs rfl) (seq_rt (if_t hg (ret_ok (l_ok (cons_ok rfl (cons_ok hn rfl))))))))
      · rw [if_neg hc]
        rw [decide_eq_false (by omega)] at hg
        have key := forL_first (g := gNm 4) (b := sIf (Pu.tOr (tVal (e2 oNe (e1 bLen (e2 oIx (eVar 3) (eVar 4))) (eC (.int 2)))) (Pu.tOr (tVal (e2 oNe (e1 bLen (e2 oIx (e2 oIx (eVar 3) (eVar 4)) (eC (.int 0)))) (eVar 1))) (tVal (e2 oNe (e1 bLen (e2 oIx (e2 oIx (eVar 3) (eVar 4)) (eC (.int 1)))) (eVar 2))))) (sRet (eL (aCons (eC (.str "row")) (aCons (eVar 4) (aCons (eC (.int 0)) (aNil)))))) (sNil))
          (fun q : List (List Int) × Nat => .int q.2) (fun ρ => ∃ a, ρ = [some (.val (.int p)), some (.val (.int lots)), some (.val (.int others)), some (.val (rowsD rows)), a]) (rowOk lots others) (fun k r => r = .rt (.lst [.str "row", .int k, .int 0])) rows.zipIdx
          [some (.val (.int p)), some (.val (.int lots)), some (.val (.int others)), some (.val (rowsD rows)), none] ⟨_, rfl⟩ (by
            rintro q hq ρ ⟨a, rfl⟩
            have hq' := zipIdx_at hq
            have ht := row_test (e := e2 oIx (eVar 3) (eVar 4)) (i := 1) (j := 2) (ρ := [some (.val (.int p)), some (.val (.int lots)), some (.val (.int others)), some (.val (rowsD rows)), some (.val (.int q.2))]) (lots := lots) (others := others) (pair := q.1) (e2_ok rfl rfl (ix_lst (by rw [List.getElem?_map, hq']; rfl))) rfl rfl
            refine ⟨[some (.val (.int p)), some (.val (.int lots)), some (.val (.int others)), some (.val (rowsD rows)), some (.val (.int q.2))], rfl, fun hg => ?_, fun hg => ?_⟩
            · rw [hg] at ht
              exact ⟨_, if_f ht rfl, _, rfl⟩
            · rw [hg] at ht
              have : ∀ x : SR, x = .rt (.lst [.str "row", .int q.2, .int 0]) → x.stops ∧ x = .rt (.lst [.str "row", .int q.2, .int 0]) := fun x hx => ⟨by rw [hx]; trivial, hx⟩
              exact this _ (if_t ht (ret_ok rfl)))
        have hr : iRng1 (e1 bLen (eVar 3)) (startE 5 [.int p, .int lots, .int others, rowsD rows]) = .ok (rows.zipIdx.map fun q => .int q.2) := by
          rw [rng1_ok hn (by omega), range_zipIdx]
        unfold firstBad
        rcases key with ⟨hf, ρ', h1, a, rfl⟩ | ⟨q, hf, h1⟩
        · rw [hf]
          exact defD_rt rfl (seq_go (if_f hp rfl) (seq_go (if_f hs rfl) (seq_go (if_f hg rfl) (seq_go (for_go hr h1) (ret_ok rfl)))))
        · rw [hf]
          exact defD_rt rfl (seq_go (if_f hp rfl) (seq_go (if_f hs rfl) (seq_go (if_f hg rfl) (seq_rt (for_go hr h1)))))
/-! ### built -/
theorem set_exc {i : Nat} {a : EV} {ρ : Env} {C : Str} {fs : List (Str × D)} (h : a ρ = .exc C fs) : sSet i a ρ = .ex ρ C fs := by unfold sSet; rw [h]; rfl
theorem try_rt {i : Nat} {sub : Str → Option Bool} {g h : SV} {ρ ρ1 : Env} {C : Str} {fs : List (Str × D)} {d : D} (e : g ρ = .ex ρ1 C fs) (hs : sub C = some true) (e2 : h (ρ1.set i (some (.exn C fs))) = .rt d) : sTry i sub g h ρ = .rt d := by
  unfold sTry
  rw [e]
  simp only [hs, e2]
theorem try_nx {i : Nat} {sub : Str → Option Bool} {g h : SV} {ρ ρ1 : Env} (e : g ρ = .nx ρ1) : sTry i sub g h ρ = .nx ρ1 := by unfold sTry; rw [e]
theorem and_ok {a b : EV} {ρ : Env} {k k' : Bool} (h : a ρ = .ok (.bl k)) (h' : b ρ = .ok (.bl k')) : eAnd a b ρ = .ok (.bl (k && k')) := by
  unfold eAnd
  rw [h]
  cases k with
  | true => exact h'
  | false => rfl
theorem and_tt {a b : EV} {ρ : Env} (h : a ρ = .ok (.bl true)) (h' : b ρ = .ok (.bl true)) : eAnd a b ρ = .ok (.bl true) := and_ok (k := true) (k' := true) h h'
theorem exnIs_ok {i : Nat} {sub : Str → Option Bool} {ρ : Env} {C : Str} {fs : List (Str × D)} {b : Bool} (h : ρ[i]? = some (some (.exn C fs))) (hs : sub C = some b) : eExnIs i sub ρ = .ok (.bl b) := by
  unfold eExnIs
  rw [h]
  show (match sub C with
    | some b => Res.ok (D.bl b)
    | none => .bad) = _
  rw [hs]
theorem exnFld_ok {Cs : List Str} {i : Nat} {f C : Str} {ρ : Env} {fs : List (Str × D)} {d : D} (h : ρ[i]? = some (some (.exn C fs))) (hc : C ∈ Cs) (hl : fs.lookup f = some d) : eExnFld Cs i f ρ = .ok d := by
  unfold eExnFld
  rw [h]
  show (if C ∈ Cs then optR (fs.lookup f) else .bad) = _
  rw [if_pos hc, hl]
  rfl
theorem eq_self {i : Int} : oEq (.int i) (.int i) = .ok (.bl true) := by
  rw [eq_int, beq_self_eq_true]
theorem ne_self {i : Int} : oNe (.int i) (.int i) = .ok (.bl false) := by
  rw [ne_int, beq_self_eq_true]
  rfl
theorem eqv_tI (xs : List Int) : D.eqv (tI xs) (tI xs) = true := by
  show D.eqvAll (xs.map D.int) (xs.map D.int) = true
  rw [eqv_ints]
  exact beq_self_eq_true xs
theorem dep_pair (q : List Int × List Int) (n : Nat) : D.dep (n + 2) (pairD q) = true := by
  show [tI q.1, tI q.2].all (D.dep (n + 1)) = true
  rw [List.all_cons, List.all_cons, List.all_nil]
  have : ∀ xs : List Int, D.dep (n + 1) (tI xs) = true := fun xs => dep_ints n xs
  rw [this, this]
  rfl
theorem ne_pair (q : List Int × List Int) : oNe (pairD q) (pairD q) = .ok (.bl false) := by
  unfold oNe
  rw [if_pos ⟨dep_pair q 6, dep_pair q 6⟩]
  have e : D.eqv (pairD q) (pairD q) = true := by
    show (D.eqv (tI q.1) (tI q.1) && (D.eqv (tI q.2) (tI q.2) && true)) = true
    rw [eqv_tI, eqv_tI]
    rfl
  rw [e]
  rfl
theorem built_ok {p : Int} {b : Bool} (h : PrimeIs p b) (lots others : Int) (rows : List (List (List Int))) (hl : rows.length ≤ 1000) : f__law_built [.int p, .int lots, .int others, rowsD rows] = .ok (.bl true) := by
  have q1 : sSet 4 (eCall f__law_due (aCons (eVar 0) (aCons (eVar 1) (aCons (eVar 2) (aCons (eVar 3) (aNil)))))) (startE 10 [.int p, .int lots, .int others, rowsD rows]) = .nx [some (.val (.int p)), some (.val (.int lots)), some (.val (.int others)), some (.val (rowsD rows)), some (.val (dueOf p b lots others rows)), none, none, none, none, none] := set_ok (callGo rfl (due_ok h lots others rows hl))
  have hm : ∀ d : D, eMake "CrossTable" f_CrossTable (aCons (eVar 0) (aCons (eVar 1) (aCons (eVar 2) (aCons (eVar 3) (aNil))))) [some (.val (.int p)), some (.val (.int lots)), some (.val (.int others)), some (.val (rowsD rows)), some (.val d), none, none, none, none, none] = objOf "CrossTable" (tableOf p b lots others rows) := fun d => by
    rw [← table_ok h lots others rows hl]
    rfl
  have ht : tableOf p b lots others rows = tableOf p b lots others rows := rfl
  unfold dueOf at q1
  have hm := hm
  unfold tableOf checkOf at hm
  cases b with
  | false =>
    rw [if_neg (by decide)] at q1
    simp only [Bool.false_eq_true, if_false] at hm
    refine defD_rt rfl (seq_go q1 (seq_rt (try_rt (set_exc (hm _)) (by decide) ?_)))
    refine seq_go (if_f (tVal_b (e2_ok rfl rfl (due_ne lay_prime _ _))) rfl) (seq_rt (if_t (tVal_b (k := true) (e2_ok (e2_ok rfl rfl (ix_lst (i := 0) rfl)) rfl (eq_str lay_prime lay_prime))) (ret_ok ?_)))
    exact and_tt (exnIs_ok (C := "BadPrime") (fs := [("prime", .int p)]) rfl (by decide)) (e2_ok (exnFld_ok (C := "BadPrime") (fs := [("prime", .int p)]) rfl (by decide) rfl) (e2_ok rfl rfl (ix_lst (i := 1) rfl)) eq_self)
  | true =>
    rw [if_pos rfl] at q1
    simp only [if_true] at hm
    cases hz : sizeOk lots others with
    | false =>
      rw [hz, if_neg (by decide)] at q1
      simp only [hz, Bool.false_eq_true, if_false] at hm
      refine defD_rt rfl (seq_go q1 (seq_rt (try_rt (set_exc (hm _)) (by decide) ?_)))
      refine seq_go (if_f (tVal_b (e2_ok rfl rfl (due_ne lay_size _ _))) rfl) (seq_go (if_f (tVal_b (k := false) (e2_ok (e2_ok rfl rfl (ix_lst (i := 0) rfl)) rfl (eq_str lay_size lay_prime))) rfl) (seq_rt (if_t (tVal_b (k := true) (e2_ok (e2_ok rfl rfl (ix_lst (i := 0) rfl)) rfl (eq_str lay_size lay_size))) (ret_ok ?_))))
      exact and_tt (exnIs_ok (C := "BadSize") (fs := [("pads", .int others), ("lots", .int lots)]) rfl (by decide)) (and_tt (e2_ok (exnFld_ok (C := "BadSize") (fs := [("pads", .int others), ("lots", .int lots)]) rfl (by decide) rfl) (e2_ok rfl rfl (ix_lst (i := 1) rfl)) eq_self) (e2_ok (exnFld_ok (C := "BadSize") (fs := [("pads", .int others), ("lots", .int lots)]) rfl (by decide) rfl) (e2_ok rfl rfl (ix_lst (i := 2) rfl)) eq_self))
    | true =>
      rw [hz, if_pos rfl] at q1
      simp only [hz, if_true] at hm
      by_cases hc : 9 < rows.length
      · rw [if_pos hc] at q1
        simp only [hc, if_true] at hm
        refine defD_rt rfl (seq_go q1 (seq_rt (try_rt (set_exc (hm _)) (by decide) ?_)))
        refine seq_go (if_f (tVal_b (e2_ok rfl rfl (due_ne lay_hands _ _))) rfl) (seq_go (if_f (tVal_b (k := false) (e2_ok (e2_ok rfl rfl (ix_lst (i := 0) rfl)) rfl (eq_str lay_hands lay_prime))) rfl) (seq_go (if_f (tVal_b (k := false) (e2_ok (e2_ok rfl rfl (ix_lst (i := 0) rfl)) rfl (eq_str lay_hands lay_size))) rfl) (seq_rt (if_t (tVal_b (k := true) (e2_ok (e2_ok rfl rfl (ix_lst (i := 0) rfl)) rfl (eq_str lay_hands lay_hands))) (ret_ok ?_)))))
        exact and_tt (exnIs_ok (C := "TooManyHands") (fs := [("count", .int rows.length)]) rfl (by decide)) (e2_ok (exnFld_ok (C := "TooManyHands") (fs := [("count", .int rows.length)]) rfl (by decide) rfl) (e2_ok rfl rfl (ix_lst (i := 1) rfl)) eq_self)
      · rw [if_neg hc] at q1
        simp only [hc, if_false] at hm
        cases hf : firstBad lots others rows with
        | some k =>
          rw [hf] at q1
          simp only [hf] at hm
          refine defD_rt rfl (seq_go q1 (seq_rt (try_rt (set_exc (hm _)) (by decide) ?_)))
          refine seq_go (if_f (tVal_b (e2_ok rfl rfl (due_ne lay_row _ _))) rfl) (seq_go (if_f (tVal_b (k := false) (e2_ok (e2_ok rfl rfl (ix_lst (i := 0) rfl)) rfl (eq_str lay_row lay_prime))) rfl) (seq_go (if_f (tVal_b (k := false) (e2_ok (e2_ok rfl rfl (ix_lst (i := 0) rfl)) rfl (eq_str lay_row lay_size))) rfl) (seq_go (if_f (tVal_b (k := false) (e2_ok (e2_ok rfl rfl (ix_lst (i := 0) rfl)) rfl (eq_str lay_row lay_hands))) rfl) (ret_ok ?_))))
          exact and_tt (exnIs_ok (C := "BadRow") (fs := [("index", .int k)]) rfl (by decide)) (e2_ok (exnFld_ok (C := "BadRow") (fs := [("index", .int k)]) rfl (by decide) rfl) (e2_ok rfl rfl (ix_lst (i := 1) rfl)) eq_self)
        | none =>
          rw [hf] at q1
          simp only [hf] at hm
          have hp := h.pos rfl
          have hall := firstBad_none (Option.map_eq_none_iff.mp hf)
          have q2 : ∀ hnd : SV, sTry 5 exm_HandsError (sSet 7 (eMake "CrossTable" f_CrossTable (aCons (eVar 0) (aCons (eVar 1) (aCons (eVar 2) (aCons (eVar 3) (aNil)))))) ) hnd [some (.val (.int p)), some (.val (.int lots)), some (.val (.int others)), some (.val (rowsD rows)), some (.val (.lst [])), none, none, none, none, none] =
              .nx [some (.val (.int p)), some (.val (.int lots)), some (.val (.int others)), some (.val (rowsD rows)), some (.val (.lst [])), none, none, some (.val (tableD p lots others (redOf p rows))), none, none] := fun hnd => try_nx (set_ok (hm _))
          have hn : ∀ a b c, e1 bLen (eVar 3) [some (.val (.int p)), some (.val (.int lots)), some (.val (.int others)), some (.val (rowsD rows)), some (.val (.lst [])), none, a, some (.val (tableD p lots others (redOf p rows))), b, c] = .ok (.int rows.length) := fun a b c => e1_ok rfl (by
            show Res.ok (D.int (rows.map pD).length) = _
            rw [List.length_map])
          have hlen : (redOf p rows).length = rows.length := by unfold redOf; rw [List.length_map]
          have key := forL_ix (g := gNm 6) (b := sSeq (sSet 8 (eTup (aCons (e1 bTuple (eL (lComp (iSeq (e2 oIx (e2 oIx (eVar 3) (eVar 6)) (eC (.int 0)))) (gNm 9) (tYes) (e2 oMod (e1 bInt (eVar 9)) (eVar 0)) [9]))) (aCons (e1 bTuple (eL (lComp (iSeq (e2 oIx (e2 oIx (eVar 3) (eVar 6)) (eC (.int 1)))) (gNm 9) (tYes) (e2 oMod (e1 bInt (eVar 9)) (eVar 0)) [9]))) (aNil))))) (sIf (tVal (e2 oNe (e2 oIx (eFld ["CrossTable"] "rows" (eVar 7)) (eVar 6)) (eVar 8))) (sRet (eC (.bl false))) (sNil)))
            (fun (_ : Unit) _ => ()) (fun _ ρ => ∃ a b, ρ = [some (.val (.int p)), some (.val (.int lots)), some (.val (.int others)), some (.val (rowsD rows)), some (.val (.lst [])), none, a, some (.val (tableD p lots others (redOf p rows))), b, none]) rows ()
            [some (.val (.int p)), some (.val (.int lots)), some (.val (.int others)), some (.val (rowsD rows)), some (.val (.lst [])), none, none, some (.val (tableD p lots others (redOf p rows))), none, none] ⟨_, _, rfl⟩ (by
              rintro i pr hi _ ρ ⟨a, b, rfl⟩
              obtain ⟨u, v, rfl, hu, hv⟩ := rowOk_two (hall pr (List.mem_of_getElem? hi))
              have er : oIx (rowsD rows) (.int i) = .ok (.lst [lI u, lI v]) := ix_lst (by rw [List.getElem?_map, hi]; rfl)
              have et : (redOf p rows)[i]? = some (u.map (· % p), v.map (· % p)) := by unfold redOf; rw [List.getElem?_map, hi]; rfl
              refine ⟨[some (.val (.int p)), some (.val (.int lots)), some (.val (.int others)), some (.val (rowsD rows)), some (.val (.lst [])), none, some (.val (.int i)), some (.val (tableD p lots others (redOf p rows))), b, none], [some (.val (.int p)), some (.val (.int lots)), some (.val (.int others)), some (.val (rowsD rows)), some (.val (.lst [])), none, some (.val (.int i)), some (.val (tableD p lots others (redOf p rows))), some (.val (pairD (u.map (· % p), v.map (· % p)))), none], rfl, .inl ?_, ⟨_, _, rfl⟩⟩
              have hcomp : ∀ (x : Int) (w : List Int) (ρ : Env), e2 oIx (e2 oIx (eVar 3) (eVar 6)) (eC (.int x)) ρ = .ok (lI w) → (wipeE ρ [9])[(0 : Nat)]? = some (some (.val (.int p))) → (wipeE ρ [9]).length = 10 → e1 bTuple (eL (lComp (iSeq (e2 oIx (e2 oIx (eVar 3) (eVar 6)) (eC (.int x)))) (gNm 9) (tYes) (e2 oMod (e1 bInt (eVar 9)) (eVar 0)) [9])) ρ = .ok (tI (w.map (· % p))) := fun x w ρ hx h0 h9 => by
                refine e1_ok (l_ok (comp_ok (ys := w.map fun y => .int (y % p)) (iSeq_I (.inl rfl) hx) (compL_of D.int _ w fun y _ => ⟨_, rfl, rfl, e2_ok (e1_ok (d := .int y) ?_ rfl) (d := .int y) (c := .int p) ?_ (mod_ok hp)⟩))) ?_
                · unfold eVar
                  rw [List.getElem?_set_self (by rw [h9]; decide)]
                · unfold eVar
                  rw [List.getElem?_set_ne (by decide), h0]
                · show Res.ok (D.tup _) = Res.ok (D.tup ((w.map (· % p)).map D.int))
                  rw [List.map_map]
                  rfl
              refine seq_go (set_ok (d := pairD (u.map (· % p), v.map (· % p))) ?_) (if_f (tVal_b (e2_ok (e2_ok (tb_rows rfl) rfl (ix_tup (by rw [List.getElem?_map, et]; rfl))) rfl (ne_pair _))) rfl)
              unfold eTup
              rw [cons_ok (hcomp 0 u _ (e2_ok (e2_ok rfl rfl er) rfl (ix_lst (i := 0) rfl)) rfl rfl) (cons_ok (hcomp 1 v _ (e2_ok (e2_ok rfl rfl er) rfl (ix_lst (i := 1) rfl)) rfl rfl) rfl)]
              rfl)
          obtain ⟨ρ', h1, a, b, rfl⟩ := key
          refine defD_rt rfl (seq_go q1 (seq_go (q2 _) (seq_go (if_f (tOr_f (tVal_b (k := false) (e2_ok rfl rfl rfl)) (tOr_f (tVal_b (e2_ok (tb_prime rfl) rfl ne_self)) (tOr_f (tVal_b (e2_ok (tb_lots rfl) rfl ne_self)) (tVal_b (e2_ok (tb_others rfl) rfl ne_self))))) rfl) (seq_go (if_f (tOr_f (tNot_ok (k := true) (tTruth_b (e1_ok (tb_rows rfl) rfl))) (tVal_b (e2_ok (tb_hands rfl) (hn _ _ _) (by rw [hlen]; exact ne_self)))) rfl) (seq_go (for_go (ds := (List.range rows.length).map fun (i : Nat) => .int i) (rng1_ok (hn _ _ _) (by omega)) h1) (ret_ok rfl))))))
end Pu

namespace Pu
open PySem
theorem src60 (ρ : Env) : eL (lComp (iRng1 (eC (.int 60))) (gNm 30) (tYes) (eC (.int 1994)) [30]) ρ = .ok (lI (List.replicate 60 1994)) := by
  refine l_ok (comp_ok (ds := (List.range 60).map fun (i : Nat) => .int i) (rng1_ok (n := 60) rfl (by decide)) ?_)
  exact (compL_of (fun (i : Nat) => D.int i) (fun _ => .int 1994) _ fun x _ => ⟨_, rfl, rfl, rfl⟩).trans (by rfl)
theorem d60_ok (ns : List Int) (hl : ns.length ≤ 63) (k : Nat) (hk : k ≤ 1000) : ∃ (c : Int) (row : List Int), f__law_cell [.ext (ns.map D.int), .int k] = .ok (.int c) ∧ f__law_digits [.int c, lI (List.replicate 60 1994)] = .ok (lI row) ∧ row.length = 60 ∧ ∀ x ∈ row, 0 ≤ x ∧ x < 1994 := by
  obtain ⟨c, hc⟩ := cell_ok ns hl k hk
  obtain ⟨row, hr, hg⟩ := digits_ok c (List.replicate 60 1994) (by rw [List.length_replicate]; decide) fun s hs => by rw [List.eq_of_mem_replicate hs]; decide
  rw [List.length_replicate] at hg
  refine ⟨c, row, hc, hr, hg.1, fun x hx => ?_⟩
  obtain ⟨i, hi, rfl⟩ := List.mem_iff_getElem.mp hx
  exact hg.2 i 1994 row[i] (by rw [List.getElem?_replicate, if_pos (by rw [← hg.1]; exact hi)]) (List.getElem?_eq_getElem hi)
/-- a number drawn from sixty -/
def pick (nm : List Int) (i : Int) : Int := nm.getD (i % 60).toNat 0 - 997
theorem pick_small {nm : List Int} (hl : nm.length = 60) (hn : ∀ x ∈ nm, 0 ≤ x ∧ x < 1994) (i : Int) : -997 ≤ pick nm i ∧ pick nm i ≤ 996 := by
  unfold pick
  have h1 := Int.emod_nonneg i (show (60 : Int) ≠ 0 by decide)
  have h2 := Int.emod_lt_of_pos i (show (0 : Int) < 60 by decide)
  have hi : (i % 60).toNat < nm.length := by omega
  rw [List.getD_eq_getElem?_getD, List.getElem?_eq_getElem hi]
  have := hn _ (List.getElem_mem hi)
  show -997 ≤ nm[(i % 60).toNat] - 997 ∧ nm[(i % 60).toNat] - 997 ≤ 996
  omega
theorem pick_ok {nm : List Int} (hl : nm.length = 60) {e : EV} {i j : Nat} {ρ : Env} {z : Int} (h1 : eVar i ρ = .ok (lI nm)) (h2 : e ρ = .ok (.int z)) : e2 oSub (e2 oIx (eVar i) (e2 oMod e (eC (.int 60)))) (eC (.int 997)) ρ = .ok (.int (pick nm z)) := by
  have a1 := Int.emod_nonneg z (show (60 : Int) ≠ 0 by decide)
  have a2 := Int.emod_lt_of_pos z (show (0 : Int) < 60 by decide)
  have hi : (z % 60).toNat < nm.length := by omega
  have e : z % 60 = ((z % 60).toNat : Int) := by omega
  refine e2_ok (e2_ok h1 (c := .int ((z % 60).toNat : Nat)) ?_ (ix_lI (getElem?_lt 0 hi))) rfl rfl
  rw [← e]
  exact e2_ok h2 rfl (mod_ok (by decide))
theorem sto_ok {i : Nat} {j a : EV} {ρ : Env} {ds : List D} {d : D} {z : Int} {n : Nat} (h : ρ[i]? = some (some (.own ds))) (e : a ρ = .ok d) (e' : j ρ = .ok (.int z)) (hn : ixN ds.length z = some n) : sSto i j a ρ = .nx (ρ.set i (some (.own (ds.set n d)))) := by
  unfold sSto
  rw [h]
  show ((a ρ).sr ρ _) = _
  rw [e]
  show ((j ρ).sr ρ _) = _
  rw [e']
  show (match ixN ds.length z with
    | some n => SR.nx (ρ.set i (some (.own (ds.set n d))))
    | none => .bad) = _
  rw [hn]
/-- the rows that are drawn -/
def rowOne (nm : List Int) (n hand : Nat) : List Int := (List.range n).map fun (k : Nat) => pick nm (6 * hand + k)
def rowTwo (nm : List Int) (n hand : Nat) : List Int := (List.range n).map fun (k : Nat) => pick nm (6 * hand + 3 + k)
def drawn (nm : List Int) (l o n : Nat) : List (List (List Int)) := (List.range n).map fun hand => [rowOne nm l hand, rowTwo nm o hand]
theorem rows_ok {ns dr nm : List Int} {p : Int} {l o n : Nat} (hnm : nm.length = 60) (hl : l ≤ 10) (ho : o ≤ 10) (hn : n ≤ 10) :
    ∃ a b c, forL (gNm 7) (sSeq (sSet 22 (eL (lComp (iRng1 (eVar 3)) (gNm 30) (tYes) (e2 oSub (e2 oIx (eVar 5) (e2 oMod (e2 oAdd (e2 oMul (eC (.int 6)) (eVar 7)) (eVar 30)) (eC (.int 60)))) (eC (.int 997))) [30]))) (sSeq (sSet 23 (eL (lComp (iRng1 (eVar 4)) (gNm 30) (tYes) (e2 oSub (e2 oIx (eVar 5) (e2 oMod (e2 oAdd (e2 oAdd (e2 oMul (eC (.int 6)) (eVar 7)) (eC (.int 3))) (eVar 30)) (eC (.int 60)))) (eC (.int 997))) [30]))) (sApp 6 (eL (aCons (eVar 22) (aCons (eVar 23) (aNil)))))))
      ((List.range n).map fun (i : Nat) => .int i) [some (.val (.ext (ns.map D.int))), some (.val (lI dr)), some (.val (.int p)), some (.val (.int (l : Nat))), some (.val (.int (o : Nat))), some (.val (lI nm)), some (.own []), none, none, none, none, none, none, none, none, none, none, none, none, none, none, none, none, none, none, none, none, none, none, none, none, none, none] = .nx [some (.val (.ext (ns.map D.int))), some (.val (lI dr)), some (.val (.int p)), some (.val (.int (l : Nat))), some (.val (.int (o : Nat))), some (.val (lI nm)), some (.own ((drawn nm l o n).map pD)), a, none, none, none, none, none, none, none, none, none, none, none, none, none, none, b, c, none, none, none, none, none, none, none, none, none] := by
  have key := forL_gather (g := gNm 7) (b := sSeq (sSet 22 (eL (lComp (iRng1 (eVar 3)) (gNm 30) (tYes) (e2 oSub (e2 oIx (eVar 5) (e2 oMod (e2 oAdd (e2 oMul (eC (.int 6)) (eVar 7)) (eVar 30)) (eC (.int 60)))) (eC (.int 997))) [30]))) (sSeq (sSet 23 (eL (lComp (iRng1 (eVar 4)) (gNm 30) (tYes) (e2 oSub (e2 oIx (eVar 5) (e2 oMod (e2 oAdd (e2 oAdd (e2 oMul (eC (.int 6)) (eVar 7)) (eC (.int 3))) (eVar 30)) (eC (.int 60)))) (eC (.int 997))) [30]))) (sApp 6 (eL (aCons (eVar 22) (aCons (eVar 23) (aNil)))))))
    (fun (i : Nat) => .int i) (fun hand => pD [rowOne nm l hand, rowTwo nm o hand]) (fun ys ρ => ∃ a b c, ρ = [some (.val (.ext (ns.map D.int))), some (.val (lI dr)), some (.val (.int p)), some (.val (.int (l : Nat))), some (.val (.int (o : Nat))), some (.val (lI nm)), some (.own ys), a, none, none, none, none, none, none, none, none, none, none, none, none, none, none, b, c, none, none, none, none, none, none, none, none, none]) (List.range n) [] [some (.val (.ext (ns.map D.int))), some (.val (lI dr)), some (.val (.int p)), some (.val (.int (l : Nat))), some (.val (.int (o : Nat))), some (.val (lI nm)), some (.own []), none, none, none, none, none, none, none, none, none, none, none, none, none, none, none, none, none, none, none, none, none, none, none, none, none, none] ⟨_, _, _, rfl⟩ (by rw [List.length_range, List.length_nil]; omega) (by
      rintro hand hh ys ρ hys ⟨a, b, c, rfl⟩
      have hc : ∀ (i n : Nat) (e : EV) (ρ : Env) (w : Int) , n ≤ 16777216 → eVar i ρ = .ok (.int n) → (∀ k : Nat, e ((wipeE ρ [30]).set 30 (some (.val (.int k)))) = .ok (.int (w + k))) → (∀ k : Nat, eVar 5 ((wipeE ρ [30]).set 30 (some (.val (.int k)))) = .ok (lI nm)) → eL (lComp (iRng1 (eVar i)) (gNm 30) (tYes) (e2 oSub (e2 oIx (eVar 5) (e2 oMod e (eC (.int 60)))) (eC (.int 997))) [30]) ρ = .ok (lI ((List.range n).map fun (k : Nat) => pick nm (w + k))) := fun i n e ρ w hn hi he h5 => by
        refine (l_ok (comp_ok (ys := (List.range n).map fun (k : Nat) => .int (pick nm (w + k))) (rng1_ok hi hn) (compL_of (fun (k : Nat) => .int k) _ _ fun k _ => ⟨_, rfl, rfl, pick_ok (j := 0) hnm (h5 k) (he k)⟩))).trans ?_
        show Res.ok (D.lst _) = Res.ok (D.lst (((List.range n).map fun (k : Nat) => pick nm (w + k)).map D.int))
        rw [List.map_map]
        rfl
      refine ⟨[some (.val (.ext (ns.map D.int))), some (.val (lI dr)), some (.val (.int p)), some (.val (.int (l : Nat))), some (.val (.int (o : Nat))), some (.val (lI nm)), some (.own ys), some (.val (.int (hand : Nat))), none, none, none, none, none, none, none, none, none, none, none, none, none, none, b, c, none, none, none, none, none, none, none, none, none], [some (.val (.ext (ns.map D.int))), some (.val (lI dr)), some (.val (.int p)), some (.val (.int (l : Nat))), some (.val (.int (o : Nat))), some (.val (lI nm)), some (.own (ys ++ [pD [rowOne nm l hand, rowTwo nm o hand]])), some (.val (.int (hand : Nat))), none, none, none, none, none, none, none, none, none, none, none, none, none, none, some (.val (lI (rowOne nm l hand))), some (.val (lI (rowTwo nm o hand))), none, none, none, none, none, none, none, none, none], rfl, .inl ?_, _, _, _, rfl⟩
      refine seq_go (set_ok (hc 3 l _ _ (6 * hand) (by omega) rfl (fun k => e2_ok (e2_ok rfl rfl (mul_ok (mulOk_l (i := 6) (by decide) (by decide)))) rfl rfl) fun k => rfl)) ?_
      refine seq_go (set_ok (hc 4 o _ _ (6 * hand + 3) (by omega) rfl (fun k => e2_ok (e2_ok (e2_ok rfl rfl (mul_ok (mulOk_l (i := 6) (by decide) (by decide)))) rfl rfl) rfl rfl) fun k => rfl)) ?_
      exact app_ok rfl rfl hys)
  obtain ⟨ρ', h1, a, b, c, rfl⟩ := key
  refine ⟨a, b, c, h1.trans ?_⟩
  unfold drawn
  rw [List.nil_append, List.map_map]
  rfl

theorem len_pD (B : List (List (List Int))) : (B.map pD).length = B.length := List.length_map _
theorem bad_step {ns dr nm : List Int} {p : Int} {l o : Nat} {R B : List (List (List Int))} {a b c : Option Cell} {d7 d8 k : Int} {e : EV} {w : List Int → List Int → List (List Int)} (h7 : dr[7]? = some d7) (h8 : dr[8]? = some d8)
    (hB : d7 = k → B ≠ [] → ∃ u v, B[0]? = some [u, v] ∧ e [some (.val (.ext (ns.map D.int))), some (.val (lI dr)), some (.val (.int p)), some (.val (.int (l : Nat))), some (.val (.int (o : Nat))), some (.val (lI nm)), some (.own (R.map pD)), a, some (.own (B.map pD)), none, none, none, none, none, none, none, none, none, none, none, none, none, b, c, none, none, none, none, none, none, none, none, none] = .ok (pD (w u v))) :
    ∃ B' : List (List (List Int)), B'.length = B.length ∧ (d7 ≠ k → B' = B) ∧ sIf (Pu.tAnd (tVal (e2 oEq (e2 oIx (eVar 1) (eC (.int 7))) (eC (.int k)))) (tVal (e2 oGt (e1 bLen (ePeek 8)) (eC (.int 0))))) (sSto 8 (e2 oMod (e2 oIx (eVar 1) (eC (.int 8))) (e1 bLen (ePeek 8))) e) sNil [some (.val (.ext (ns.map D.int))), some (.val (lI dr)), some (.val (.int p)), some (.val (.int (l : Nat))), some (.val (.int (o : Nat))), some (.val (lI nm)), some (.own (R.map pD)), a, some (.own (B.map pD)), none, none, none, none, none, none, none, none, none, none, none, none, none, b, c, none, none, none, none, none, none, none, none, none] = .nx [some (.val (.ext (ns.map D.int))), some (.val (lI dr)), some (.val (.int p)), some (.val (.int (l : Nat))), some (.val (.int (o : Nat))), some (.val (lI nm)), some (.own (R.map pD)), a, some (.own (B'.map pD)), none, none, none, none, none, none, none, none, none, none, none, none, none, b, c, none, none, none, none, none, none, none, none, none] := by
  have hl : e1 bLen (ePeek 8) [some (.val (.ext (ns.map D.int))), some (.val (lI dr)), some (.val (.int p)), some (.val (.int (l : Nat))), some (.val (.int (o : Nat))), some (.val (lI nm)), some (.own (R.map pD)), a, some (.own (B.map pD)), none, none, none, none, none, none, none, none, none, none, none, none, none, b, c, none, none, none, none, none, none, none, none, none] = .ok (.int B.length) := e1_ok rfl (by
    show Res.ok (D.int (B.map pD).length) = _
    rw [len_pD])
  have t1 : tVal (e2 oEq (e2 oIx (eVar 1) (eC (.int 7))) (eC (.int k))) [some (.val (.ext (ns.map D.int))), some (.val (lI dr)), some (.val (.int p)), some (.val (.int (l : Nat))), some (.val (.int (o : Nat))), some (.val (lI nm)), some (.own (R.map pD)), a, some (.own (B.map pD)), none, none, none, none, none, none, none, none, none, none, none, none, none, b, c, none, none, none, none, none, none, none, none, none] = .ok (d7 == k) := tVal_b (e2_ok (e2_ok rfl rfl (ix_lI (i := 7) h7)) rfl eq_int)
  have t2 : tVal (e2 oGt (e1 bLen (ePeek 8)) (eC (.int 0))) [some (.val (.ext (ns.map D.int))), some (.val (lI dr)), some (.val (.int p)), some (.val (.int (l : Nat))), some (.val (.int (o : Nat))), some (.val (lI nm)), some (.own (R.map pD)), a, some (.own (B.map pD)), none, none, none, none, none, none, none, none, none, none, none, none, none, b, c, none, none, none, none, none, none, none, none, none] = .ok (decide ((0 : Int) < B.length)) := tVal_b (e2_ok hl rfl rfl)
  by_cases hk : d7 = k
  · have hk' : (d7 == k) = true := by rw [hk]; exact beq_self_eq_true k
    rw [hk'] at t1
    by_cases hb : B = []
    · subst hb
      exact ⟨[], rfl, fun _ => rfl, if_f (tAnd_t t1 t2) rfl⟩
    · obtain ⟨u, v, h0, he⟩ := hB hk hb
      have hpos : 0 < B.length := List.length_pos_iff.mpr hb
      rw [decide_eq_true (by omega)] at t2
      have m1 := Int.emod_nonneg d8 (show (B.length : Int) ≠ 0 by omega)
      have m2 := Int.emod_lt_of_pos d8 (show (0 : Int) < B.length by omega)
      refine ⟨B.set (d8 % B.length).toNat (w u v), by rw [List.length_set], fun h => absurd hk h, ?_⟩
      refine if_t (tAnd_t t1 t2) ((sto_ok (n := (d8 % B.length).toNat) rfl he (e2_ok (e2_ok rfl rfl (ix_lI (i := 8) h8)) hl (mod_ok (by omega))) ?_).trans ?_)
      · rw [len_pD]
        have e : d8 % (B.length : Int) = ((d8 % (B.length : Int)).toNat : Int) := by omega
        conv => lhs; rw [e]
        exact ixN_nat (by omega)
      · rw [← List.map_set]
        rfl
  · have hk' : (d7 == k) = false := by rw [beq_eq_false_iff_ne]; exact hk
    rw [hk'] at t1
    exact ⟨B, rfl, fun _ => rfl, if_f (tAnd_f t1) rfl⟩
theorem cut_map {α β : Type} (f : α → β) (xs : List α) (lo hi : Option Int) : cut (xs.map f) lo hi = (cut xs lo hi).map f := by
  unfold cut
  rw [List.length_map, ← List.map_drop, ← List.map_take]
theorem cut_len {α : Type} (xs : List α) (lo hi : Option Int) : (cut xs lo hi).length ≤ xs.length := by
  unfold cut
  rw [List.length_take, List.length_drop]
  omega
theorem ones_ok {i n : Nat} {ρ : Env} (h : eVar i ρ = .ok (.int (n : Nat))) (hn : n ≤ 1000) : eL (lComp (iRng1 (eVar i)) (gNm 30) (tYes) (eC (.int 1)) [30]) ρ = .ok (lI (List.replicate n 1)) := by
  refine (l_ok (comp_ok (ys := (List.range n).map fun _ => .int 1) (rng1_ok h (by omega)) (compL_of (fun (i : Nat) => .int i) (fun _ => .int 1) _ fun x _ => ⟨_, rfl, rfl, rfl⟩))).trans ?_
  show Res.ok (D.lst _) = Res.ok (D.lst ((List.replicate n (1 : Int)).map D.int))
  rw [List.map_replicate, List.map_const', List.length_range]
theorem bad_ok {ns dr nm : List Int} {p : Int} {l o : Nat} {R : List (List (List Int))} {a b c : Option Cell} {d7 d8 : Int} (h7 : dr[7]? = some d7) (h8 : dr[8]? = some d8) (hR : R.length ≤ 10) (hl : l ≤ 10) (ho : o ≤ 10) (h0 : R ≠ [] → ∃ u v : List Int, R[0]? = some [u, v] ∧ u.length ≤ 10 ∧ v.length ≤ 10) (k : SV) :
    ∃ B : List (List (List Int)), B.length ≤ 20 ∧ (sSeq (sIf (Pu.tAnd (tVal (e2 oEq (e2 oIx (eVar 1) (eC (.int 7))) (eC (.int 0)))) (tVal (e2 oGt (e1 bLen (ePeek 8)) (eC (.int 0))))) (sSto 8 (e2 oMod (e2 oIx (eVar 1) (eC (.int 8))) (e1 bLen (ePeek 8))) (eL (aCons (e2 oAdd (e2 oIx (e2 oIx (ePeek 8) (eC (.int 0))) (eC (.int 0))) (eL (aCons (eC (.int 1)) (aNil)))) (aCons (e2 oIx (e2 oIx (ePeek 8) (eC (.int 0))) (eC (.int 1))) (aNil))))) (sNil))
      (sSeq (sIf (Pu.tAnd (tVal (e2 oEq (e2 oIx (eVar 1) (eC (.int 7))) (eC (.int 1)))) (tVal (e2 oGt (e1 bLen (ePeek 8)) (eC (.int 0))))) (sSto 8 (e2 oMod (e2 oIx (eVar 1) (eC (.int 8))) (e1 bLen (ePeek 8))) (eL (aCons (e2 oIx (e2 oIx (ePeek 8) (eC (.int 0))) (eC (.int 0))) (aCons (eSlice (e2 oIx (e2 oIx (ePeek 8) (eC (.int 0))) (eC (.int 1))) (pSome (eC (.int 1))) (pNone)) (aNil))))) (sNil))
      (sSeq (sIf (Pu.tAnd (tVal (e2 oEq (e2 oIx (eVar 1) (eC (.int 7))) (eC (.int 2)))) (tVal (e2 oGt (e1 bLen (ePeek 8)) (eC (.int 0))))) (sSto 8 (e2 oMod (e2 oIx (eVar 1) (eC (.int 8))) (e1 bLen (ePeek 8))) (eL (aCons (e2 oIx (e2 oIx (ePeek 8) (eC (.int 0))) (eC (.int 0))) (aCons (e2 oIx (e2 oIx (ePeek 8) (eC (.int 0))) (eC (.int 1))) (aCons (e2 oIx (e2 oIx (ePeek 8) (eC (.int 0))) (eC (.int 1))) (aNil)))))) (sNil))
      (sSeq (sIf (tVal (e2 oEq (e2 oIx (eVar 1) (eC (.int 7))) (eC (.int 3)))) (sOwn 8 (lSl (e2 oAdd (ePeek 8) (e2 oMul (eL (aCons (eL (aCons (eL (lComp (iRng1 (eVar 3)) (gNm 30) (tYes) (eC (.int 1)) [30])) (aCons (eL (lComp (iRng1 (eVar 4)) (gNm 30) (tYes) (eC (.int 1)) [30])) (aNil)))) (aNil))) (eC (.int 10)))) (pNone) (pSome (e2 oAdd (eC (.int 9)) (e2 oMod (e2 oIx (eVar 1) (eC (.int 8))) (eC (.int 3))))))) (sNil)) k)))) [some (.val (.ext (ns.map D.int))), some (.val (lI dr)), some (.val (.int p)), some (.val (.int (l : Nat))), some (.val (.int (o : Nat))), some (.val (lI nm)), some (.own (R.map pD)), a, some (.own (R.map pD)), none, none, none, none, none, none, none, none, none, none, none, none, none, b, c, none, none, none, none, none, none, none, none, none] = k [some (.val (.ext (ns.map D.int))), some (.val (lI dr)), some (.val (.int p)), some (.val (.int (l : Nat))), some (.val (.int (o : Nat))), some (.val (lI nm)), some (.own (R.map pD)), a, some (.own (B.map pD)), none, none, none, none, none, none, none, none, none, none, none, none, none, b, c, none, none, none, none, none, none, none, none, none] := by
  have ix0 : ∀ (B : List (List (List Int))) (u v : List Int), B[0]? = some [u, v] → e2 oIx (ePeek 8) (eC (.int 0)) [some (.val (.ext (ns.map D.int))), some (.val (lI dr)), some (.val (.int p)), some (.val (.int (l : Nat))), some (.val (.int (o : Nat))), some (.val (lI nm)), some (.own (R.map pD)), a, some (.own (B.map pD)), none, none, none, none, none, none, none, none, none, none, none, none, none, b, c, none, none, none, none, none, none, none, none, none] = .ok (pD [u, v]) := fun B u v h => e2_ok rfl rfl (ix_lst (i := 0) (by rw [List.getElem?_map, h]; rfl))
  obtain ⟨B1, l1, n1, s1⟩ := bad_step (ns := ns) (nm := nm) (p := p) (l := l) (o := o) (R := R) (B := R) (a := a) (b := b) (c := c) (k := 0) (e := eL (aCons (e2 oAdd (e2 oIx (e2 oIx (ePeek 8) (eC (.int 0))) (eC (.int 0))) (eL (aCons (eC (.int 1)) (aNil)))) (aCons (e2 oIx (e2 oIx (ePeek 8) (eC (.int 0))) (eC (.int 1))) (aNil)))) (w := fun u v => [u ++ [1], v]) h7 h8 (fun _ hne => by
    obtain ⟨u, v, h, hu, hv⟩ := h0 hne
    refine ⟨u, v, h, l_ok (cons_ok (d := lI (u ++ [1])) (e2_ok (e2_ok (ix0 R u v h) rfl (ix_lst (i := 0) rfl)) (d := lI u) (c := .lst [.int 1]) rfl ?_) (cons_ok (e2_ok (ix0 R u v h) rfl (ix_lst (i := 1) (d := lI v) rfl)) rfl))⟩
    show (if (u.map D.int).length + [D.int 1].length ≤ line then Res.ok (D.lst (u.map D.int ++ [D.int 1])) else .bad) = _
    rw [if_pos (by rw [List.length_map]; show _ ≤ 16777216; simp only [List.length_cons, List.length_nil]; omega)]
    show _ = Res.ok (D.lst ((u ++ [1]).map D.int))
    rw [List.map_append]
    rfl)
  obtain ⟨B2, l2, n2, s2⟩ := bad_step (ns := ns) (nm := nm) (p := p) (l := l) (o := o) (R := R) (B := B1) (a := a) (b := b) (c := c) (k := 1) (e := eL (aCons (e2 oIx (e2 oIx (ePeek 8) (eC (.int 0))) (eC (.int 0))) (aCons (eSlice (e2 oIx (e2 oIx (ePeek 8) (eC (.int 0))) (eC (.int 1))) (pSome (eC (.int 1))) (pNone)) (aNil)))) (w := fun u v => [u, cut v (some 1) none]) h7 h8 (fun hd hne => by
    have e1' : B1 = R := n1 (by omega)
    subst e1'
    obtain ⟨u, v, h, hu, hv⟩ := h0 hne
    refine ⟨u, v, h, l_ok (cons_ok (e2_ok (ix0 B1 u v h) rfl (ix_lst (i := 0) (d := lI u) rfl)) (cons_ok (d := lI (cut v (some 1) none)) ?_ rfl))⟩
    unfold eSlice
    rw [e2_ok (ix0 B1 u v h) rfl (ix_lst (i := 1) (d := lI v) rfl)]
    show Res.ok (D.lst (cut (v.map D.int) (some 1) none)) = _
    rw [cut_map])
  obtain ⟨B3, l3, n3, s3⟩ := bad_step (ns := ns) (nm := nm) (p := p) (l := l) (o := o) (R := R) (B := B2) (a := a) (b := b) (c := c) (k := 2) (e := eL (aCons (e2 oIx (e2 oIx (ePeek 8) (eC (.int 0))) (eC (.int 0))) (aCons (e2 oIx (e2 oIx (ePeek 8) (eC (.int 0))) (eC (.int 1))) (aCons (e2 oIx (e2 oIx (ePeek 8) (eC (.int 0))) (eC (.int 1))) (aNil))))) (w := fun u v => [u, v, v]) h7 h8 (fun hd hne => by
    have e1' : B1 = R := n1 (by omega)
    have e2' : B2 = B1 := n2 (by omega)
    subst e1'
    subst e2'
    obtain ⟨u, v, h, hu, hv⟩ := h0 hne
    exact ⟨u, v, h, l_ok (cons_ok (e2_ok (ix0 B2 u v h) rfl (ix_lst (i := 0) (d := lI u) rfl)) (cons_ok (e2_ok (ix0 B2 u v h) rfl (ix_lst (i := 1) (d := lI v) rfl)) (cons_ok (e2_ok (ix0 B2 u v h) rfl (ix_lst (i := 1) (d := lI v) rfl)) rfl)))⟩)
  have t3 : tVal (e2 oEq (e2 oIx (eVar 1) (eC (.int 7))) (eC (.int 3))) [some (.val (.ext (ns.map D.int))), some (.val (lI dr)), some (.val (.int p)), some (.val (.int (l : Nat))), some (.val (.int (o : Nat))), some (.val (lI nm)), some (.own (R.map pD)), a, some (.own (B3.map pD)), none, none, none, none, none, none, none, none, none, none, none, none, none, b, c, none, none, none, none, none, none, none, none, none] = .ok (d7 == 3) := tVal_b (e2_ok (e2_ok rfl rfl (ix_lI (i := 7) h7)) rfl eq_int)
  cases hk : (d7 == 3) with
  | false =>
    rw [hk] at t3
    exact ⟨B3, by omega, seq_go s1 (seq_go s2 (seq_go s3 (seq_go (if_f t3 rfl) rfl)))⟩
  | true =>
    rw [hk] at t3
    refine ⟨cut (B3 ++ List.replicate 10 [List.replicate l 1, List.replicate o 1]) none (some (9 + d8 % 3)), ?_, seq_go s1 (seq_go s2 (seq_go s3 (seq_go (if_t t3 (own_ok (ds := (cut (B3 ++ List.replicate 10 [List.replicate l 1, List.replicate o 1]) none (some (9 + d8 % 3))).map pD) ?_)) rfl)))⟩
    · have := cut_len (B3 ++ List.replicate 10 [List.replicate l (1 : Int), List.replicate o 1]) none (some (9 + d8 % 3))
      rw [List.length_append, List.length_replicate] at this
      omega
    · have hm : e2 oMul (eL (aCons (eL (aCons (eL (lComp (iRng1 (eVar 3)) (gNm 30) (tYes) (eC (.int 1)) [30])) (aCons (eL (lComp (iRng1 (eVar 4)) (gNm 30) (tYes) (eC (.int 1)) [30])) (aNil)))) (aNil))) (eC (.int 10)) [some (.val (.ext (ns.map D.int))), some (.val (lI dr)), some (.val (.int p)), some (.val (.int (l : Nat))), some (.val (.int (o : Nat))), some (.val (lI nm)), some (.own (R.map pD)), a, some (.own (B3.map pD)), none, none, none, none, none, none, none, none, none, none, none, none, none, b, c, none, none, none, none, none, none, none, none, none] = .ok (.lst ((List.replicate 10 [List.replicate l (1 : Int), List.replicate o 1]).map pD)) := by
        refine e2_ok (l_ok (cons_ok (l_ok (cons_ok (ones_ok rfl (by omega)) (cons_ok (ones_ok rfl (by omega)) rfl))) rfl)) rfl ?_
        rfl
      have ha : e2 oAdd (ePeek 8) (e2 oMul (eL (aCons (eL (aCons (eL (lComp (iRng1 (eVar 3)) (gNm 30) (tYes) (eC (.int 1)) [30])) (aCons (eL (lComp (iRng1 (eVar 4)) (gNm 30) (tYes) (eC (.int 1)) [30])) (aNil)))) (aNil))) (eC (.int 10))) [some (.val (.ext (ns.map D.int))), some (.val (lI dr)), some (.val (.int p)), some (.val (.int (l : Nat))), some (.val (.int (o : Nat))), some (.val (lI nm)), some (.own (R.map pD)), a, some (.own (B3.map pD)), none, none, none, none, none, none, none, none, none, none, none, none, none, b, c, none, none, none, none, none, none, none, none, none] = .ok (.lst ((B3 ++ List.replicate 10 [List.replicate l (1 : Int), List.replicate o 1]).map pD)) := by
        refine e2_ok (d := .lst (B3.map pD)) rfl hm ?_
        rw [List.map_append]
        refine if_pos ?_
        rw [len_pD, len_pD, List.length_replicate]
        show _ ≤ 16777216
        omega
      unfold lSl
      rw [ha]
      have hh : pSome (e2 oAdd (eC (.int 9)) (e2 oMod (e2 oIx (eVar 1) (eC (.int 8))) (eC (.int 3)))) [some (.val (.ext (ns.map D.int))), some (.val (lI dr)), some (.val (.int p)), some (.val (.int (l : Nat))), some (.val (.int (o : Nat))), some (.val (lI nm)), some (.own (R.map pD)), a, some (.own (B3.map pD)), none, none, none, none, none, none, none, none, none, none, none, none, none, b, c, none, none, none, none, none, none, none, none, none] = .ok (some (9 + d8 % 3)) := by
        unfold pSome
        rw [e2_ok (x := .int (9 + d8 % 3)) rfl (e2_ok (e2_ok rfl rfl (ix_lI (i := 8) h8)) rfl (mod_ok (by decide))) rfl]
        rfl
      show ((pSome _ _).bind _) = _
      rw [hh]
      show Res.ok (cut ((B3 ++ List.replicate 10 [List.replicate l (1 : Int), List.replicate o 1]).map pD) none (some (9 + d8 % 3))) = _
      rw [cut_map]
end Pu


namespace Pu
open PySem
def gmat (f : Nat → Nat → Int) (rows width : Nat) : List (List Int) := (List.range rows).map fun i => (List.range width).map fun k => f i k
theorem gmat_ok {ρ : Env} {iR iW a b : Nat} {rows width : Nat} {e : EV} {f : Nat → Nat → Int} (hr : eVar iR ρ = .ok (.int (rows : Nat))) (hrows : rows ≤ 1000) (hw : width ≤ 1000) (hW : ∀ i : Nat, eVar iW ((wipeE ρ [a]).set a (some (.val (.int i)))) = .ok (.int (width : Nat)))
    (he : ∀ i k : Nat, e ((wipeE ((wipeE ρ [a]).set a (some (.val (.int i)))) [b]).set b (some (.val (.int k)))) = .ok (.int (f i k))) :
    eL (lComp (iRng1 (eVar iR)) (gNm a) (tYes) (eL (lComp (iRng1 (eVar iW)) (gNm b) (tYes) e [b])) [a]) ρ = .ok (.lst ((gmat f rows width).map lI)) := by
  refine (l_ok (comp_ok (ys := (List.range rows).map fun i => lI ((List.range width).map fun k => f i k)) (rng1_ok hr (by omega)) (compL_of (fun (i : Nat) => .int i) _ _ fun i _ => ⟨_, rfl, rfl, (l_ok (comp_ok (ys := (List.range width).map fun k => .int (f i k)) (rng1_ok (hW i) (by omega)) (compL_of (fun (k : Nat) => .int k) _ _ fun k _ => ⟨_, rfl, rfl, he i k⟩))).trans ?_⟩))).trans ?_
  · show Res.ok (D.lst _) = Res.ok (D.lst (((List.range width).map fun k => f i k).map D.int))
    rw [List.map_map]
    rfl
  · unfold gmat
    rw [List.map_map]
    rfl
theorem gmat_len (f : Nat → Nat → Int) (rows width : Nat) : (gmat f rows width).length = rows := by
  unfold gmat
  rw [List.length_map, List.length_range]
theorem gmat_row {f : Nat → Nat → Int} {rows width : Nat} {r : List Int} (h : r ∈ gmat f rows width) : r.length = width := by
  unfold gmat at h
  obtain ⟨i, _, rfl⟩ := List.mem_map.mp h
  rw [List.length_map, List.length_range]
theorem gmat_small {f : Nat → Nat → Int} (hf : ∀ i k, -997 ≤ f i k ∧ f i k ≤ 996) {rows width : Nat} : ∀ r ∈ gmat f rows width, ∀ n ∈ r, Small n := fun r hr n hn => by
  unfold gmat at hr
  obtain ⟨i, _, rfl⟩ := List.mem_map.mp hr
  obtain ⟨k, _, rfl⟩ := List.mem_map.mp hn
  have := hf i k
  exact ⟨by omega, by omega⟩
theorem range_flat {α β : Type} (d : α) (n : Nat) (hn : 0 < n) (f : α → Nat → β) : ∀ xs : List α, (List.range (xs.length * n)).map (fun k => f (xs.getD (k / n) d) (k % n)) = xs.flatMap fun x => (List.range n).map (f x)
  | [] => by simp
  | x :: xs => by
    rw [List.flatMap_cons, ← range_flat d n hn f xs, List.length_cons, Nat.succ_mul, Nat.add_comm, List.range_add, List.map_append, List.map_map]
    congr 1
    · apply List.map_congr_left
      intro k hk
      have hk' := List.mem_range.mp hk
      rw [Nat.div_eq_of_lt hk', Nat.mod_eq_of_lt hk']
      rfl
    · apply List.map_congr_left
      intro k _
      show f ((x :: xs).getD ((n + k) / n) d) ((n + k) % n) = _
      rw [Nat.add_div_left k hn, Nat.add_mod_left]
      rfl
theorem crossOf_range {p : Int} {one two : List Int} (h : 0 < two.length) : (List.range (one.length * two.length)).map (fun k => (one.getD (k / two.length) 0 * two.getD (k % two.length) 0) % p) = crossOf p one two := by
  rw [range_flat 0 two.length h (fun x i => (x * two.getD i 0) % p) one]
  unfold crossOf
  congr 1
  funext x
  apply List.ext_getElem
  · rw [List.length_map, List.length_map, List.length_range]
  · intro i h1 h2
    rw [List.getElem_map, List.getElem_map, List.getElem_range]
    rw [List.length_map] at h2
    rw [List.getD_eq_getElem?_getD, List.getElem?_eq_getElem h2]
    rfl
theorem ne_tI (xs : List Int) : oNe (tI xs) (tI xs) = .ok (.bl false) := by
  unfold oNe
  have hd : D.dep 8 (tI xs) = true := dep_ints 7 xs
  rw [if_pos ⟨hd, hd⟩, eqv_tI]
  rfl
theorem last_ok {p : Int} (hp : 0 < p) (hp2 : p < 1000000) {l o high wide : Nat} (hl : 0 < l) (hl2 : l ≤ 10) (ho : 0 < o) (ho2 : o ≤ 10) {R : List (List (List Int))} {m firsts seconds : List (List Int)} (h : LOk m high wide firsts seconds) (hf : firsts.length = l) (hs : seconds.length = o) (hR : R.length ≤ 10)
    (hrow : ∀ pr ∈ R, ∃ u v : List Int, pr = [u, v] ∧ u.length = l ∧ v.length = o ∧ (∀ x ∈ u, Small x) ∧ ∀ x ∈ v, Small x) {told : List Int} (ht : told = (redOf p R).map (answerOf p m high wide firsts seconds)) (c0 c1 c5 c7 c8 c9 c10 c12 c16 c18 c22 c23 c24 c25 c26 : Option Cell) :
    ∃ ρ', forL (gNm 7) (sSeq (sSet 24 (eCall f__law_sum (aCons (eVar 2) (aCons (eVar 14) (aCons (e2 oIx (e2 oIx (ePeek 6) (eVar 7)) (eC (.int 0))) (aCons (eVar 19) (aNil)))))))
      (sSeq (sSet 25 (eCall f__law_sum (aCons (eVar 2) (aCons (eVar 15) (aCons (e2 oIx (e2 oIx (ePeek 6) (eVar 7)) (eC (.int 1))) (aCons (eVar 20) (aNil)))))))
      (sSeq (sIf (Pu.tOr (tVal (e2 oNe (e2 oIx (eVar 21) (eVar 7)) (eCall f__law_product (aCons (eVar 2) (aCons (eVar 17) (aCons (eVar 24) (aCons (eVar 25) (aNil)))))))) (tVal (e2 oNe (eCall f_cross_answer (aCons (eVar 2) (aCons (eVar 17) (aCons (eVar 24) (aCons (e1 bTuple (eVar 25)) (aNil)))))) (e2 oIx (eVar 21) (eVar 7))))) (sRet (eC (.bl false))) (sNil))
      (sSeq (sSet 26 (eCall f_crossed (aCons (eVar 2) (aCons (e2 oIx (e2 oIx (ePeek 6) (eVar 7)) (eC (.int 0))) (aCons (e2 oIx (e2 oIx (ePeek 6) (eVar 7)) (eC (.int 1))) (aNil)))))) (sIf (tVal (e2 oNe (eVar 26) (e1 bTuple (eL (lComp (iRng1 (e2 oMul (eVar 3) (eVar 4))) (gNm 30) (tYes) (e2 oMod (e1 bInt (e2 oMul (e2 oIx (e2 oIx (e2 oIx (ePeek 6) (eVar 7)) (eC (.int 0))) (e2 oDiv (eVar 30) (eVar 4))) (e2 oIx (e2 oIx (e2 oIx (ePeek 6) (eVar 7)) (eC (.int 1))) (e2 oMod (eVar 30) (eVar 4))))) (eVar 2)) [30]))))) (sRet (eC (.bl false))) (sNil))))))
      ((List.range R.length).map fun (i : Nat) => .int i) [c0, c1, some (.val (.int p)), some (.val (.int (l : Nat))), some (.val (.int (o : Nat))), c5, some (.val (rowsD R)), c7, c8, c9, c10, none, c12, none, some (.val (.int (high : Nat))), some (.val (.int (wide : Nat))), c16, some (.val (.lst (m.map lI))), c18, some (.val (.lst (firsts.map lI))), some (.val (.lst (seconds.map lI))), some (.val (tI told)), c22, c23, c24, c25, c26, none, none, none, none, none, none] = .nx ρ' := by
  have hh := h.hh
  have hw := h.hw
  have key := forL_ix (g := gNm 7) (b := sSeq (sSet 24 (eCall f__law_sum (aCons (eVar 2) (aCons (eVar 14) (aCons (e2 oIx (e2 oIx (ePeek 6) (eVar 7)) (eC (.int 0))) (aCons (eVar 19) (aNil)))))))
      (sSeq (sSet 25 (eCall f__law_sum (aCons (eVar 2) (aCons (eVar 15) (aCons (e2 oIx (e2 oIx (ePeek 6) (eVar 7)) (eC (.int 1))) (aCons (eVar 20) (aNil)))))))
      (sSeq (sIf (Pu.tOr (tVal (e2 oNe (e2 oIx (eVar 21) (eVar 7)) (eCall f__law_product (aCons (eVar 2) (aCons (eVar 17) (aCons (eVar 24) (aCons (eVar 25) (aNil)))))))) (tVal (e2 oNe (eCall f_cross_answer (aCons (eVar 2) (aCons (eVar 17) (aCons (eVar 24) (aCons (e1 bTuple (eVar 25)) (aNil)))))) (e2 oIx (eVar 21) (eVar 7))))) (sRet (eC (.bl false))) (sNil))
      (sSeq (sSet 26 (eCall f_crossed (aCons (eVar 2) (aCons (e2 oIx (e2 oIx (ePeek 6) (eVar 7)) (eC (.int 0))) (aCons (e2 oIx (e2 oIx (ePeek 6) (eVar 7)) (eC (.int 1))) (aNil)))))) (sIf (tVal (e2 oNe (eVar 26) (e1 bTuple (eL (lComp (iRng1 (e2 oMul (eVar 3) (eVar 4))) (gNm 30) (tYes) (e2 oMod (e1 bInt (e2 oMul (e2 oIx (e2 oIx (e2 oIx (ePeek 6) (eVar 7)) (eC (.int 0))) (e2 oDiv (eVar 30) (eVar 4))) (e2 oIx (e2 oIx (e2 oIx (ePeek 6) (eVar 7)) (eC (.int 1))) (e2 oMod (eVar 30) (eVar 4))))) (eVar 2)) [30]))))) (sRet (eC (.bl false))) (sNil))))))
    (fun (_ : Unit) _ => ()) (fun _ ρ => ∃ c7 c24 c25 c26, ρ = [c0, c1, some (.val (.int p)), some (.val (.int (l : Nat))), some (.val (.int (o : Nat))), c5, some (.val (rowsD R)), c7, c8, c9, c10, none, c12, none, some (.val (.int (high : Nat))), some (.val (.int (wide : Nat))), c16, some (.val (.lst (m.map lI))), c18, some (.val (.lst (firsts.map lI))), some (.val (.lst (seconds.map lI))), some (.val (tI told)), c22, c23, c24, c25, c26, none, none, none, none, none, none]) R () [c0, c1, some (.val (.int p)), some (.val (.int (l : Nat))), some (.val (.int (o : Nat))), c5, some (.val (rowsD R)), c7, c8, c9, c10, none, c12, none, some (.val (.int (high : Nat))), some (.val (.int (wide : Nat))), c16, some (.val (.lst (m.map lI))), c18, some (.val (.lst (firsts.map lI))), some (.val (.lst (seconds.map lI))), some (.val (tI told)), c22, c23, c24, c25, c26, none, none, none, none, none, none] ⟨_, _, _, _, rfl⟩ (by
      rintro i pr hi _ ρ ⟨c7, c24, c25, c26, rfl⟩
      obtain ⟨u, v, rfl, hu, hv, su, sv⟩ := hrow pr (List.mem_of_getElem? hi)
      have er : oIx (rowsD R) (.int i) = .ok (pD [u, v]) := ix_lst (by rw [List.getElem?_map, hi]; rfl)
      have et : told[i]? = some ((terms m (sumRows p high u firsts) (sumRows p wide v seconds)).sum % p) := by
        rw [ht]
        unfold redOf
        rw [List.getElem?_map, List.getElem?_map, hi]
        show some (answerOf p m high wide firsts seconds (u.map (· % p), v.map (· % p))) = _
        unfold answerOf
        rw [sumRows_mod, sumRows_mod]
      have hm := h.m hp hp2 u v
      refine ⟨[c0, c1, some (.val (.int p)), some (.val (.int (l : Nat))), some (.val (.int (o : Nat))), c5, some (.val (rowsD R)), some (.val (.int (i : Nat))), c8, c9, c10, none, c12, none, some (.val (.int (high : Nat))), some (.val (.int (wide : Nat))), c16, some (.val (.lst (m.map lI))), c18, some (.val (.lst (firsts.map lI))), some (.val (.lst (seconds.map lI))), some (.val (tI told)), c22, c23, c24, c25, c26, none, none, none, none, none, none], [c0, c1, some (.val (.int p)), some (.val (.int (l : Nat))), some (.val (.int (o : Nat))), c5, some (.val (rowsD R)), some (.val (.int (i : Nat))), c8, c9, c10, none, c12, none, some (.val (.int (high : Nat))), some (.val (.int (wide : Nat))), c16, some (.val (.lst (m.map lI))), c18, some (.val (.lst (firsts.map lI))), some (.val (.lst (seconds.map lI))), some (.val (tI told)), c22, c23, some (.val (lI (sumRows p high u firsts))), some (.val (lI (sumRows p wide v seconds))), some (.val (tI (crossOf p u v))), none, none, none, none, none, none], rfl, .inl ?_, _, _, _, _, rfl⟩
      refine seq_go (set_ok (callGo (cons_ok rfl (cons_ok rfl (cons_ok (e2_ok (e2_ok rfl rfl er) rfl (ix_lst (i := 0) rfl)) (cons_ok rfl rfl)))) (law_sum_ok hp (by omega) (mk := lI) (fun _ => .inl rfl) su h.fh (by rw [hu, hf]) (by omega)))) ?_
      refine seq_go (set_ok (callGo (cons_ok rfl (cons_ok rfl (cons_ok (e2_ok (e2_ok rfl rfl er) rfl (ix_lst (i := 1) rfl)) (cons_ok rfl rfl)))) (law_sum_ok hp (by omega) (mk := lI) (fun _ => .inl rfl) sv h.sw (by rw [hv, hs]) (by omega)))) ?_
      refine seq_go (if_f (tOr_f (tVal_b (e2_ok (e2_ok rfl rfl (ix_tI et)) (callGo rfl (law_product_ok hp hm (.inl rfl) (.inl rfl))) ne_self)) (tVal_b (e2_ok (callGo (cons_ok rfl (cons_ok rfl (cons_ok rfl (cons_ok (d := tI (sumRows p wide v seconds)) (e1_ok rfl rfl) rfl)))) (cross_answer_ok hp hm (.inl rfl) (.inr rfl))) (e2_ok rfl rfl (ix_tI et)) ne_self))) rfl) ?_
      refine seq_go (set_ok (callGo (cons_ok rfl (cons_ok (e2_ok (e2_ok rfl rfl er) rfl (ix_lst (i := 0) rfl)) (cons_ok (e2_ok (e2_ok rfl rfl er) rfl (ix_lst (i := 1) rfl)) rfl))) (crossed_ok hp (.inl rfl) (.inl rfl) su (by omega) (by omega)))) ?_
      refine if_f (tVal_b (e2_ok (d := tI (crossOf p u v)) (c := tI (crossOf p u v)) rfl ?_ (ne_tI _))) rfl
      refine e1_ok (d := lI (crossOf p u v)) (l_ok (comp_ok (ds := (List.range (l * o)).map fun (k : Nat) => .int k) (rng1_ok (n := l * o) (e2_ok rfl rfl ?_) ?_) ?_)) rfl
      · have e : (((l * o : Nat) : Int)) = (l : Int) * (o : Int) := Int.natCast_mul l o
        rw [e]
        exact mul_ok (mulOk_l (by omega) (by omega))
      · have : l * o ≤ 10 * 10 := Nat.mul_le_mul hl2 ho2
        omega
      · rw [← crossOf_range (by rw [hv]; exact ho), List.map_map, hu, hv]
        refine compL_of (fun (k : Nat) => .int k) _ _ fun k hk => ⟨_, rfl, rfl, ?_⟩
        have hk' := List.mem_range.mp hk
        have k1 : k / o < u.length := by rw [hu]; exact Nat.div_lt_of_lt_mul (by rw [Nat.mul_comm]; exact hk')
        have k2 : k % o < v.length := by rw [hv]; exact Nat.mod_lt _ ho
        have g1 := getElem?_lt 0 k1
        have g2 := getElem?_lt 0 k2
        have s1 := su _ (List.mem_of_getElem? g1)
        have ed : e2 oDiv (eVar 30) (eVar 4) [c0, c1, some (.val (.int p)), some (.val (.int (l : Nat))), some (.val (.int (o : Nat))), c5, some (.val (rowsD R)), some (.val (.int (i : Nat))), c8, c9, c10, none, c12, none, some (.val (.int (high : Nat))), some (.val (.int (wide : Nat))), c16, some (.val (.lst (m.map lI))), c18, some (.val (.lst (firsts.map lI))), some (.val (.lst (seconds.map lI))), some (.val (tI told)), c22, c23, some (.val (lI (sumRows p high u firsts))), some (.val (lI (sumRows p wide v seconds))), some (.val (tI (crossOf p u v))), none, none, none, some (.val (.int (k : Nat))), none, none] = .ok (.int ((k / o : Nat) : Int)) := by
          rw [Int.natCast_ediv]
          exact e2_ok rfl rfl (div_ok (by omega) (by omega))
        have em : e2 oMod (eVar 30) (eVar 4) [c0, c1, some (.val (.int p)), some (.val (.int (l : Nat))), some (.val (.int (o : Nat))), c5, some (.val (rowsD R)), some (.val (.int (i : Nat))), c8, c9, c10, none, c12, none, some (.val (.int (high : Nat))), some (.val (.int (wide : Nat))), c16, some (.val (.lst (m.map lI))), c18, some (.val (.lst (firsts.map lI))), some (.val (.lst (seconds.map lI))), some (.val (tI told)), c22, c23, some (.val (lI (sumRows p high u firsts))), some (.val (lI (sumRows p wide v seconds))), some (.val (tI (crossOf p u v))), none, none, none, some (.val (.int (k : Nat))), none, none] = .ok (.int ((k % o : Nat) : Int)) := by
          rw [Int.natCast_emod]
          exact e2_ok rfl rfl (mod_ok (by omega))
        exact e2_ok (e1_ok (e2_ok (e2_ok (e2_ok (e2_ok rfl rfl er) rfl (ix_lst (i := 0) rfl)) ed (ix_lI g1)) (e2_ok (e2_ok (e2_ok rfl rfl er) rfl (ix_lst (i := 1) rfl)) em (ix_lI g2)) (mul_ok (mulOk_l s1.1 s1.2))) rfl) rfl (mod_ok hp))
  obtain ⟨ρ', h1, _⟩ := key
  exact ⟨ρ', h1⟩
end Pu


set_option maxHeartbeats 8000000
namespace Pu
open PySem
theorem scratch_ok {i j q : Nat} {l1 : AV} {e2 : EV} {rest : SV} {ρ : Env} {ds : List D} {d : D} (h1 : l1 ρ = .ok ds) (h2 : e2 (ρ.set i (some (.val (.lst ds)))) = .ok d) (hc : (d.noLst = true ∧ scratchOk ds = true ∧ ds.length < line) ∧ i < ρ.length ∧ q < ρ.length) :
    sScratch i j q l1 e2 rest ρ = rest (((ρ.set j (some (.val d))).set i none).set q none) := by
  unfold sScratch
  rw [h1]
  show ((e2 (ρ.set i (some (.val (.lst ds))))).sr _ _) = _
  rw [h2]
  exact if_pos hc
theorem eN_ok {l : AV} {ρ : Env} {u : List Int} (h : l ρ = .ok (u.map D.int)) : eN l ρ = .ok (lI u) := by
  unfold eN
  rw [h]
  show (if (u.map D.int).all D.atom = true then _ else _) = _
  rw [if_pos]
  rw [List.all_eq_true]
  intro d hd
  obtain ⟨x, _, rfl⟩ := List.mem_map.mp hd
  rfl
theorem noLsts_ints : ∀ xs : List Int, D.noLsts (xs.map D.int) = true
  | [] => rfl
  | x :: xs => by
    show (D.noLst (.int x) && D.noLsts (xs.map D.int)) = true
    rw [noLsts_ints xs]
    rfl
theorem noLst_pair (q : List Int × List Int) : D.noLst (pairD q) = true := by
  show (D.noLsts (q.1.map D.int) && (D.noLsts (q.2.map D.int) && true)) = true
  rw [noLsts_ints, noLsts_ints]
  rfl
theorem noLsts_pairs : ∀ rows : List (List Int × List Int), D.noLsts (rows.map pairD) = true
  | [] => rfl
  | q :: rows => by
    show (D.noLst (pairD q) && D.noLsts (rows.map pairD)) = true
    rw [noLst_pair, noLsts_pairs rows]
    rfl
theorem noLst_table (p lots others : Int) (rows : List (List Int × List Int)) : D.noLst (tableD p lots others rows) = true := by
  show (true && (true && (true && (true && (D.noLsts (rows.map pairD) && true))))) = true
  rw [noLsts_pairs]
  rfl
/-- what a drawn row is -/
def RowIs (l o : Nat) (pr : List (List Int)) : Prop := ∃ u v : List Int, pr = [u, v] ∧ u.length = l ∧ v.length = o ∧ (∀ x ∈ u, Small x) ∧ ∀ x ∈ v, Small x
theorem drawn_is {nm : List Int} (hl : nm.length = 60) (hn : ∀ x ∈ nm, 0 ≤ x ∧ x < 1994) (l o n : Nat) : ∀ pr ∈ drawn nm l o n, RowIs l o pr := fun pr hpr => by
  unfold drawn at hpr
  obtain ⟨hand, _, rfl⟩ := List.mem_map.mp hpr
  refine ⟨_, _, rfl, by unfold rowOne; rw [List.length_map, List.length_range], by unfold rowTwo; rw [List.length_map, List.length_range], fun x hx => ?_, fun x hx => ?_⟩
  · unfold rowOne at hx
    obtain ⟨k, _, rfl⟩ := List.mem_map.mp hx
    have := pick_small hl hn (6 * hand + k)
    exact ⟨by omega, by omega⟩
  · unfold rowTwo at hx
    obtain ⟨k, _, rfl⟩ := List.mem_map.mp hx
    have := pick_small hl hn (6 * hand + 3 + k)
    exact ⟨by omega, by omega⟩
theorem scratchOk_rows {l o : Nat} (hl : 0 < l) : ∀ R : List (List (List Int)), (∀ pr ∈ R, RowIs l o pr) → scratchOk (R.map pD) = true
  | [], _ => rfl
  | pr :: R, h => by
    obtain ⟨u, v, rfl, hu, _⟩ := h pr List.mem_cons_self
    have ih := scratchOk_rows hl R fun pr hpr => h pr (List.mem_cons_of_mem _ hpr)
    cases u with
    | nil =>
      rw [List.length_nil] at hu
      omega
    | cons x u => exact ih
theorem table_good {p : Int} {l o : Nat} (hl : 1 ≤ l ∧ l ≤ 3) (ho : 1 ≤ o ∧ o ≤ 3) {R : List (List (List Int))} (hR : R.length ≤ 9) (h : ∀ pr ∈ R, RowIs l o pr) : tableOf p true (l : Int) (o : Int) R = .ok (tableD p l o (redOf p R)) := by
  unfold tableOf checkOf
  have hs : sizeOk (l : Int) (o : Int) = true := by
    unfold sizeOk
    rw [decide_eq_true (by omega), decide_eq_true (by omega), decide_eq_true (by omega), decide_eq_true (by omega)]
    rfl
  rw [if_pos rfl, if_pos hs, if_neg (by omega)]
  have hf : firstBad (l : Int) (o : Int) R = none := by
    unfold firstBad
    rw [Option.map_eq_none_iff, List.find?_eq_none]
    intro q hq
    obtain ⟨u, v, e, hu, hv, _⟩ := h q.1 (List.mem_of_getElem? (zipIdx_at hq))
    rw [e]
    show ¬ (!(((u.length : Int) == l) && ((v.length : Int) == o))) = true
    rw [hu, hv, beq_self_eq_true, beq_self_eq_true]
    decide
  rw [hf]
/-- behind the scratch copy -/
theorem tail_ok {ns dr nm : List Int} (hns : ns.length ≤ 63) {p : Int} (hp : 0 < p) (hp2 : p < 1000000) {l o n : Nat} (hl : 1 ≤ l ∧ l ≤ 3) (ho : 1 ≤ o ∧ o ≤ 3) {R : List (List (List Int))} (hR : R.length ≤ 9) (hrow : ∀ pr ∈ R, RowIs l o pr) {h5 h6 : Nat} (g5 : dr[5]? = some (h5 : Int)) (g6 : dr[6]? = some (h6 : Int)) (k5 : h5 < 6) (k6 : h6 < 6) (a b c c8 c9 c10 : Option Cell) {rest : SV}
    (hrest : rest = (sSeq (sSet 14 (e2 oAdd (eC (.int 1)) (e2 oIx (eVar 1) (eC (.int 5))))) (sSeq (sSet 15 (e2 oAdd (eC (.int 1)) (e2 oIx (eVar 1) (eC (.int 6))))) (sSeq (sSet 16 (eCall f__law_digits (aCons (eCall f__law_cell (aCons (eVar 0) (aCons (eC (.int 2)) (aNil)))) (aCons (eL (lComp (iRng1 (eC (.int 60))) (gNm 30) (tYes) (eC (.int 1994)) [30])) (aNil))))) (sSeq (sSet 17 (eL (lComp (iRng1 (eVar 14)) (gNm 27) (tYes) (eL (lComp (iRng1 (eVar 15)) (gNm 28) (tYes) (e2 oSub (e2 oIx (eVar 16) (e2 oMod (e2 oAdd (e2 oMul (eVar 15) (eVar 27)) (eVar 28)) (eC (.int 60)))) (eC (.int 997))) [28])) [27]))) (sSeq (sSet 18 (eCall f__law_digits (aCons (eCall f__law_cell (aCons (eVar 0) (aCons (eC (.int 3)) (aNil)))) (aCons (eL (lComp (iRng1 (eC (.int 60))) (gNm 30) (tYes) (eC (.int 1994)) [30])) (aNil))))) (sSeq (sSet 19 (eL (lComp (iRng1 (eVar 3)) (gNm 29) (tYes) (eL (lComp (iRng1 (eVar 14)) (gNm 30) (tYes) (e2 oSub (e2 oIx (eVar 18) (e2 oMod (e2 oAdd (e2 oMul (eVar 14) (eVar 29)) (eVar 30)) (eC (.int 60)))) (eC (.int 997))) [30])) [29]))) (sSeq (sSet 20 (eL (lComp (iRng1 (eVar 4)) (gNm 31) (tYes) (eL (lComp (iRng1 (eVar 15)) (gNm 30) (tYes) (e2 oSub (e2 oIx (eVar 18) (e2 oMod (e2 oSub (e2 oSub (eC (.int 59)) (e2 oMul (eVar 15) (eVar 31))) (eVar 30)) (eC (.int 60)))) (eC (.int 997))) [30])) [31]))) (sSeq (sSet 21 (eCall f_cross_answers (aCons (eVar 12) (aCons (eL (lComp (iSeq (eVar 17)) (gNm 32) (tYes) (e1 bList (eVar 32)) [32])) (aCons (eL (lComp (iSeq (eVar 19)) (gNm 32) (tYes) (e1 bList (eVar 32)) [32])) (aCons (eL (lComp (iSeq (eVar 20)) (gNm 32) (tYes) (e1 bTuple (eVar 32)) [32])) (aNil))))))) (sSeq (sIf (Pu.tNot (tTruth (eCall f__law_residues (aCons (eVar 2) (aCons (eVar 21) (aCons (e1 bLen (ePeek 6)) (aNil))))))) (sRet (eC (.bl false))) (sNil)) (sSeq (sFor (iRng1 (e1 bLen (ePeek 6))) (gNm 7) (sSeq (sSet 24 (eCall f__law_sum (aCons (eVar 2) (aCons (eVar 14) (aCons (e2 oIx (e2 oIx (ePeek 6) (eVar 7)) (eC (.int 0))) (aCons (eVar 19) (aNil))))))) (sSeq (sSet 25 (eCall f__law_sum (aCons (eVar 2) (aCons (eVar 15) (aCons (e2 oIx (e2 oIx (ePeek 6) (eVar 7)) (eC (.int 1))) (aCons (eVar 20) (aNil))))))) (sSeq (sIf (Pu.tOr (tVal (e2 oNe (e2 oIx (eVar 21) (eVar 7)) (eCall f__law_product (aCons (eVar 2) (aCons (eVar 17) (aCons (eVar 24) (aCons (eVar 25) (aNil)))))))) (tVal (e2 oNe (eCall f_cross_answer (aCons (eVar 2) (aCons (eVar 17) (aCons (eVar 24) (aCons (e1 bTuple (eVar 25)) (aNil)))))) (e2 oIx (eVar 21) (eVar 7))))) (sRet (eC (.bl false))) (sNil)) (sSeq (sSet 26 (eCall f_crossed (aCons (eVar 2) (aCons (e2 oIx (e2 oIx (ePeek 6) (eVar 7)) (eC (.int 0))) (aCons (e2 oIx (e2 oIx (ePeek 6) (eVar 7)) (eC (.int 1))) (aNil)))))) (sIf (tVal (e2 oNe (eVar 26) (e1 bTuple (eL (lComp (iRng1 (e2 oMul (eVar 3) (eVar 4))) (gNm 30) (tYes) (e2 oMod (e1 bInt (e2 oMul (e2 oIx (e2 oIx (e2 oIx (ePeek 6) (eVar 7)) (eC (.int 0))) (e2 oDiv (eVar 30) (eVar 4))) (e2 oIx (e2 oIx (e2 oIx (ePeek 6) (eVar 7)) (eC (.int 1))) (e2 oMod (eVar 30) (eVar 4))))) (eVar 2)) [30]))))) (sRet (eC (.bl false))) (sNil))))))) (sRet (eC (.bl true)))))))))))))) : rest [some (.val (.ext (ns.map D.int))), some (.val (lI dr)), some (.val (.int p)), some (.val (.int (l : Nat))), some (.val (.int (o : Nat))), some (.val (lI nm)), some (.val (rowsD R)), a, c8, c9, c10, none, some (.val (tableD p l o (redOf p R))), none, none, none, none, none, none, none, none, none, b, c, none, none, none, none, none, none, none, none, none] = .rt (.bl true) := by
  subst hrest
  obtain ⟨c2, mo, hc2, hd2, hmo, hmor⟩ := d60_ok ns hns 2 (by decide)
  obtain ⟨c3, la, hc3, hd3, hla, hlar⟩ := d60_ok ns hns 3 (by decide)
  have hL : LOk (gmat (fun i k => pick mo ((1 + h6 : Nat) * i + k)) (1 + h5) (1 + h6)) (1 + h5) (1 + h6) (gmat (fun i k => pick la ((1 + h5 : Nat) * i + k)) l (1 + h5)) (gmat (fun i k => pick la (59 - (1 + h6 : Nat) * i - k)) o (1 + h6)) :=
    ⟨gmat_len _ _ _, fun r hr => gmat_row hr, gmat_small fun i k => pick_small hmo hmor _, fun e => by have := gmat_len (fun i k => pick la ((1 + h5 : Nat) * i + k)) l (1 + h5); rw [e, List.length_nil] at this; omega, fun e => by have := gmat_len (fun i k => pick la (59 - (1 + h6 : Nat) * i - k)) o (1 + h6); rw [e, List.length_nil] at this; omega,
      fun r hr => gmat_row hr, fun r hr => gmat_row hr, by omega, by omega⟩
  have hRR : ∀ q ∈ redOf p R, Res01 p q.1 ∧ Res01 p q.2 := fun q hq => by
    unfold redOf at hq
    obtain ⟨pr, _, rfl⟩ := List.mem_map.mp hq
    refine ⟨fun x hx => ?_, fun x hx => ?_⟩
    · obtain ⟨y, _, rfl⟩ := List.mem_map.mp hx
      exact ⟨Int.emod_nonneg _ (by omega), Int.emod_lt_of_pos _ hp⟩
    · obtain ⟨y, _, rfl⟩ := List.mem_map.mp hx
      exact ⟨Int.emod_nonneg _ (by omega), Int.emod_lt_of_pos _ hp⟩
  have hredl : (redOf p R).length = R.length := by unfold redOf; rw [List.length_map]
  refine seq_go (set_ok (d := .int ((1 + h5 : Nat) : Int)) (e2_ok rfl (e2_ok rfl rfl (ix_lI (i := 5) g5)) (by rw [Int.natCast_add]; rfl))) ?_
  refine seq_go (set_ok (d := .int ((1 + h6 : Nat) : Int)) (e2_ok rfl (e2_ok rfl rfl (ix_lI (i := 6) g6)) (by rw [Int.natCast_add]; rfl))) ?_
  refine seq_go (set_ok (callGo (cons_ok (callGo rfl hc2) (cons_ok (src60 _) rfl)) hd2)) ?_
  refine seq_go (set_ok (gmat_ok (f := fun i k => pick mo ((1 + h6 : Nat) * i + k)) rfl (by omega) (by omega) (fun i => rfl) fun i k => pick_ok (j := 0) hmo rfl (e2_ok (e2_ok rfl rfl (mul_ok (mulOk_l (by omega) (by omega)))) rfl rfl))) ?_
  refine seq_go (set_ok (callGo (cons_ok (callGo rfl hc3) (cons_ok (src60 _) rfl)) hd3)) ?_
  refine seq_go (set_ok (gmat_ok (f := fun i k => pick la ((1 + h5 : Nat) * i + k)) rfl (by omega) (by omega) (fun i => rfl) fun i k => pick_ok (j := 0) hla rfl (e2_ok (e2_ok rfl rfl (mul_ok (mulOk_l (by omega) (by omega)))) rfl rfl))) ?_
  refine seq_go (set_ok (gmat_ok (f := fun i k => pick la (59 - (1 + h6 : Nat) * i - k)) rfl (by omega) (by omega) (fun i => rfl) fun i k => pick_ok (j := 0) hla rfl (e2_ok (e2_ok rfl (e2_ok rfl rfl (mul_ok (mulOk_l (by omega) (by omega)))) rfl) rfl rfl))) ?_
  refine seq_go (set_ok (callGo (cons_ok rfl (cons_ok (l_ok (comp_ok (ds := (gmat _ _ _).map lI) rfl (compL_of lI lI _ fun r _ => ⟨_, rfl, rfl, e1_ok rfl rfl⟩))) (cons_ok (l_ok (comp_ok (ds := (gmat _ _ _).map lI) rfl (compL_of lI lI _ fun r _ => ⟨_, rfl, rfl, e1_ok rfl rfl⟩))) (cons_ok (l_ok (comp_ok (ds := (gmat _ _ _).map lI) rfl (compL_of lI tI _ fun r _ => ⟨_, rfl, rfl, e1_ok rfl rfl⟩))) rfl)))) (cross_answers_ok hp hp2 hL hRR (by omega)))) ?_
  have hlen : ∀ ρ : Env, ePeek 6 ρ = .ok (rowsD R) → e1 bLen (ePeek 6) ρ = .ok (.int R.length) := fun ρ hρ => e1_ok hρ (by
    show Res.ok (D.int (R.map pD).length) = _
    rw [len_pD])
  refine seq_go (if_f (tNot_ok (k := true) (tTruth_b (callGo (cons_ok rfl (cons_ok rfl (cons_ok (hlen _ rfl) rfl))) ?_))) rfl) ?_
  · have := residues_ok (p := p) (xs := (redOf p R).map (answerOf p (gmat (fun i k => pick mo ((1 + h6 : Nat) * i + k)) (1 + h5) (1 + h6)) (1 + h5) (1 + h6) (gmat (fun i k => pick la ((1 + h5 : Nat) * i + k)) l (1 + h5)) (gmat (fun i k => pick la (59 - (1 + h6 : Nat) * i - k)) o (1 + h6)))) fun x hx => by
      obtain ⟨q, _, rfl⟩ := List.mem_map.mp hx
      exact ⟨Int.emod_nonneg _ (by omega), Int.emod_lt_of_pos _ hp⟩
    rw [List.length_map, hredl] at this
    exact this
  obtain ⟨ρ', hlast⟩ := last_ok hp hp2 (l := l) (o := o) (by omega) (by omega) (by omega) (by omega) hL (gmat_len _ _ _) (gmat_len _ _ _) (R := R) (by omega) hrow (told := (redOf p R).map (answerOf p (gmat (fun i k => pick mo ((1 + h6 : Nat) * i + k)) (1 + h5) (1 + h6)) (1 + h5) (1 + h6) (gmat (fun i k => pick la ((1 + h5 : Nat) * i + k)) l (1 + h5)) (gmat (fun i k => pick la (59 - (1 + h6 : Nat) * i - k)) o (1 + h6)))) rfl
    (some (.val (.ext (ns.map D.int)))) (some (.val (lI dr))) (some (.val (lI nm))) a c8 c9 c10 (some (.val (tableD p l o (redOf p R)))) (some (.val (lI mo))) (some (.val (lI la))) b c none none none
  exact seq_go (for_go (ds := (List.range R.length).map fun (i : Nat) => .int i) (rng1_ok (n := R.length) (hlen _ rfl) (by omega)) hlast) (ret_ok rfl)
end Pu


set_option maxHeartbeats 8000000
namespace Pu
open PySem
theorem math (ns : List Int) (hns : ns.length ≤ 63) : f_law [.ext (ns.map D.int)] = .ok (.bl true) := by
  obtain ⟨c0, hc0⟩ := cell_ok ns hns 0 (by decide)
  obtain ⟨dr, hd0, hg⟩ := digits_ok c0 [11, 3, 3, 10, 12, 6, 6, 7, 9] (by decide) (by decide)
  have at_ : ∀ (j : Nat) (s : Nat), [11, 3, 3, 10, 12, 6, 6, 7, 9][j]? = some (s : Int) → ∃ r : Nat, dr[j]? = some (r : Int) ∧ r < s := fun j s e => by
    have hj : j < dr.length := by
      rw [hg.1]
      exact (List.getElem?_eq_some_iff.mp e).1
    have h1 := hg.2 j s dr[j] e (List.getElem?_eq_getElem hj)
    refine ⟨dr[j].toNat, ?_, by omega⟩
    rw [List.getElem?_eq_getElem hj]
    congr 1
    omega
  obtain ⟨e0, g0, _⟩ := at_ 0 11 rfl
  obtain ⟨e1', g1, b1⟩ := at_ 1 3 rfl
  obtain ⟨e2', g2, b2⟩ := at_ 2 3 rfl
  obtain ⟨n, g3, b3⟩ := at_ 3 10 rfl
  obtain ⟨k4, g4, b4⟩ := at_ 4 12 rfl
  obtain ⟨h5, g5, b5⟩ := at_ 5 6 rfl
  obtain ⟨h6, g6, b6⟩ := at_ 6 6 rfl
  obtain ⟨d7, g7, b7⟩ := at_ 7 7 rfl
  obtain ⟨d8, g8, b8⟩ := at_ 8 9 rfl
  obtain ⟨p, hpr, hgp⟩ := great_ok e0
  obtain ⟨hpi, hp3⟩ := pr_is hpr
  have hp := hpi.pos rfl
  obtain ⟨c1, nm, hc1, hd1, hnm, hnmr⟩ := d60_ok ns hns 1 (by decide)
  obtain ⟨l, hle⟩ : ∃ l : Nat, l = 1 + e1' := ⟨_, rfl⟩
  obtain ⟨o, hoe⟩ : ∃ o : Nat, o = 1 + e2' := ⟨_, rfl⟩
  have hl : 1 ≤ l ∧ l ≤ 3 := by omega
  have ho : 1 ≤ o ∧ o ≤ 3 := by omega
  have hrow := drawn_is hnm hnmr l o n
  have hRl : (drawn nm l o n).length = n := by unfold drawn; rw [List.length_map, List.length_range]
  obtain ⟨a, b, c, hrows⟩ := rows_ok (ns := ns) (dr := dr) (p := p) (l := l) (o := o) (n := n) hnm (by omega) (by omega) (by omega)
  generalize hRe : drawn nm l o n = R at hrow hRl hrows
  refine defD_rt rfl ?_
  refine seq_go (set_ok (callGo (cons_ok (callGo rfl hc0) (cons_ok (d := lI [11, 3, 3, 10, 12, 6, 6, 7, 9]) rfl rfl)) hd0)) ?_
  refine seq_go (set_ok (callGo (cons_ok (e2_ok rfl rfl (ix_lI (i := 0) g0)) rfl) hgp)) ?_
  refine seq_go (set_ok (d := .int (l : Int)) (e2_ok rfl (e2_ok rfl rfl (ix_lI (i := 1) g1)) (by rw [hle, Int.natCast_add]; rfl))) ?_
  refine seq_go (set_ok (d := .int (o : Int)) (e2_ok rfl (e2_ok rfl rfl (ix_lI (i := 2) g2)) (by rw [hoe, Int.natCast_add]; rfl))) ?_
  refine seq_go (set_ok (callGo (cons_ok (callGo rfl hc1) (cons_ok (src60 _) rfl)) hd1)) ?_
  refine seq_go (own_ok rfl) ?_
  refine seq_go (for_go (ds := (List.range n).map fun (i : Nat) => .int i) (rng1_ok (n := n) (e2_ok rfl rfl (ix_lI (i := 3) g3)) (by omega)) hrows) ?_
  refine seq_go (ρ' := [some (.val (.ext (ns.map D.int))), some (.val (lI dr)), some (.val (.int p)), some (.val (.int (l : Nat))), some (.val (.int (o : Nat))), some (.val (lI nm)), some (.own (R.map pD)), a, some (.own (R.map pD)), none, none, none, none, none, none, none, none, none, none, none, none, none, b, c, none, none, none, none, none, none, none, none, none]) (own_ok (l := lComp (iSeq (ePeek 6)) (gNm 13) (tYes) (e1 bList (eVar 13)) [13]) (ds := R.map pD) (comp_ok (ds := R.map pD) rfl (compL_of pD pD R fun x _ => ⟨_, rfl, rfl, e1_ok (f := bList) (d := pD x) (c := pD x) rfl rfl⟩))) ?_
  have h0 : R ≠ [] → ∃ u v : List Int, R[0]? = some [u, v] ∧ u.length ≤ 10 ∧ v.length ≤ 10 := fun hne => by
    cases R with
    | nil => exact absurd rfl hne
    | cons pr R =>
      obtain ⟨u, v, rfl, hu, hv, _⟩ := hrow pr List.mem_cons_self
      exact ⟨u, v, rfl, by omega, by omega⟩
  obtain ⟨B, hB, eB⟩ := bad_ok (ns := ns) (nm := nm) (p := p) (l := l) (o := o) (R := R) (a := a) (b := b) (c := c) g7 g8 (by omega) (by omega) (by omega) h0 (sSeq (sSet 9 (eL (aCons (eL (aCons (eVar 2) (aCons (eVar 3) (aCons (eVar 4) (aNil))))) (aCons (eL (aCons (eC (.int 1)) (aCons (eVar 3) (aCons (eVar 4) (aNil))))) (aCons (eL (aCons (eC (.int 999)) (aCons (eVar 3) (aCons (eVar 4) (aNil))))) (aCons (eL (aCons (eVar 2) (aCons (eC (.int 0)) (aCons (eVar 4) (aNil))))) (aCons (eL (aCons (eVar 2) (aCons (eVar 3) (aCons (eC (.int 4)) (aNil))))) (aCons (eL (aCons (eVar 2) (aCons (eC (.int 4)) (aCons (eC (.int 0)) (aNil))))) (aCons (eL (aCons (eC (.int 4)) (aCons (eC (.int 4)) (aCons (eC (.int 4)) (aNil))))) (aNil)))))))))) (sSeq (sSet 10 (e2 oIx (e2 oAdd (eVar 9) (e2 oMul (eL (aCons (eL (aCons (eVar 2) (aCons (eVar 3) (aCons (eVar 4) (aNil))))) (aNil))) (eC (.int 5)))) (e2 oIx (eVar 1) (eC (.int 4))))) (sFrz 6 (sFrz 8 (sSeq (sIf (Pu.tOr (Pu.tNot (tTruth (eCall f__law_built (aCons (e2 oIx (eVar 10) (eC (.int 0))) (aCons (e2 oIx (eVar 10) (eC (.int 1))) (aCons (e2 oIx (eVar 10) (eC (.int 2))) (aCons (eVar 8) (aNil)))))))) (Pu.tNot (tTruth (eCall f__law_built (aCons (eVar 2) (aCons (eVar 3) (aCons (eVar 4) (aCons (eVar 6) (aNil))))))))) (sRet (eC (.bl false))) (sNil)) (sScratch 11 12 13 (lComp (iSeq (ePeek 6)) (gNm 13) (tYes) (eL (aCons (eN (lSeq (e2 oIx (eVar 13) (eC (.int 0))))) (aCons (eN (lSeq (e2 oIx (eVar 13) (eC (.int 1))))) (aNil)))) [13]) (eMake "CrossTable" f_CrossTable (aCons (eVar 2) (aCons (eVar 3) (aCons (eVar 4) (aCons (eVar 11) (aNil)))))) (sSeq (sSet 14 (e2 oAdd (eC (.int 1)) (e2 oIx (eVar 1) (eC (.int 5))))) (sSeq (sSet 15 (e2 oAdd (eC (.int 1)) (e2 oIx (eVar 1) (eC (.int 6))))) (sSeq (sSet 16 (eCall f__law_digits (aCons (eCall f__law_cell (aCons (eVar 0) (aCons (eC (.int 2)) (aNil)))) (aCons (eL (lComp (iRng1 (eC (.int 60))) (gNm 30) (tYes) (eC (.int 1994)) [30])) (aNil))))) (sSeq (sSet 17 (eL (lComp (iRng1 (eVar 14)) (gNm 27) (tYes) (eL (lComp (iRng1 (eVar 15)) (gNm 28) (tYes) (e2 oSub (e2 oIx (eVar 16) (e2 oMod (e2 oAdd (e2 oMul (eVar 15) (eVar 27)) (eVar 28)) (eC (.int 60)))) (eC (.int 997))) [28])) [27]))) (sSeq (sSet 18 (eCall f__law_digits (aCons (eCall f__law_cell (aCons (eVar 0) (aCons (eC (.int 3)) (aNil)))) (aCons (eL (lComp (iRng1 (eC (.int 60))) (gNm 30) (tYes) (eC (.int 1994)) [30])) (aNil))))) (sSeq (sSet 19 (eL (lComp (iRng1 (eVar 3)) (gNm 29) (tYes) (eL (lComp (iRng1 (eVar 14)) (gNm 30) (tYes) (e2 oSub (e2 oIx (eVar 18) (e2 oMod (e2 oAdd (e2 oMul (eVar 14) (eVar 29)) (eVar 30)) (eC (.int 60)))) (eC (.int 997))) [30])) [29]))) (sSeq (sSet 20 (eL (lComp (iRng1 (eVar 4)) (gNm 31) (tYes) (eL (lComp (iRng1 (eVar 15)) (gNm 30) (tYes) (e2 oSub (e2 oIx (eVar 18) (e2 oMod (e2 oSub (e2 oSub (eC (.int 59)) (e2 oMul (eVar 15) (eVar 31))) (eVar 30)) (eC (.int 60)))) (eC (.int 997))) [30])) [31]))) (sSeq (sSet 21 (eCall f_cross_answers (aCons (eVar 12) (aCons (eL (lComp (iSeq (eVar 17)) (gNm 32) (tYes) (e1 bList (eVar 32)) [32])) (aCons (eL (lComp (iSeq (eVar 19)) (gNm 32) (tYes) (e1 bList (eVar 32)) [32])) (aCons (eL (lComp (iSeq (eVar 20)) (gNm 32) (tYes) (e1 bTuple (eVar 32)) [32])) (aNil))))))) (sSeq (sIf (Pu.tNot (tTruth (eCall f__law_residues (aCons (eVar 2) (aCons (eVar 21) (aCons (e1 bLen (ePeek 6)) (aNil))))))) (sRet (eC (.bl false))) (sNil)) (sSeq (sFor (iRng1 (e1 bLen (ePeek 6))) (gNm 7) (sSeq (sSet 24 (eCall f__law_sum (aCons (eVar 2) (aCons (eVar 14) (aCons (e2 oIx (e2 oIx (ePeek 6) (eVar 7)) (eC (.int 0))) (aCons (eVar 19) (aNil))))))) (sSeq (sSet 25 (eCall f__law_sum (aCons (eVar 2) (aCons (eVar 15) (aCons (e2 oIx (e2 oIx (ePeek 6) (eVar 7)) (eC (.int 1))) (aCons (eVar 20) (aNil))))))) (sSeq (sIf (Pu.tOr (tVal (e2 oNe (e2 oIx (eVar 21) (eVar 7)) (eCall f__law_product (aCons (eVar 2) (aCons (eVar 17) (aCons (eVar 24) (aCons (eVar 25) (aNil)))))))) (tVal (e2 oNe (eCall f_cross_answer (aCons (eVar 2) (aCons (eVar 17) (aCons (eVar 24) (aCons (e1 bTuple (eVar 25)) (aNil)))))) (e2 oIx (eVar 21) (eVar 7))))) (sRet (eC (.bl false))) (sNil)) (sSeq (sSet 26 (eCall f_crossed (aCons (eVar 2) (aCons (e2 oIx (e2 oIx (ePeek 6) (eVar 7)) (eC (.int 0))) (aCons (e2 oIx (e2 oIx (ePeek 6) (eVar 7)) (eC (.int 1))) (aNil)))))) (sIf (tVal (e2 oNe (eVar 26) (e1 bTuple (eL (lComp (iRng1 (e2 oMul (eVar 3) (eVar 4))) (gNm 30) (tYes) (e2 oMod (e1 bInt (e2 oMul (e2 oIx (e2 oIx (e2 oIx (ePeek 6) (eVar 7)) (eC (.int 0))) (e2 oDiv (eVar 30) (eVar 4))) (e2 oIx (e2 oIx (e2 oIx (ePeek 6) (eVar 7)) (eC (.int 1))) (e2 oMod (eVar 30) (eVar 4))))) (eVar 2)) [30]))))) (sRet (eC (.bl false))) (sNil))))))) (sRet (eC (.bl true)))))))))))))))))))
  refine eB.trans ?_
  refine seq_go (set_ok (d := .lst [lI [p, l, o], lI [1, l, o], lI [999, l, o], lI [p, 0, o], lI [p, l, 4], lI [p, 4, 0], lI [4, 4, 4]]) rfl) ?_
  obtain ⟨cp, cl, co, bb, hch, hpb⟩ : ∃ (cp cl co : Int) (bb : Bool), ([lI [p, (l : Int), o], lI [1, l, o], lI [999, l, o], lI [p, 0, o], lI [p, l, 4], lI [p, 4, 0], lI [4, 4, 4], lI [p, l, o], lI [p, l, o], lI [p, l, o], lI [p, l, o], lI [p, l, o]] : List D)[k4]? = some (lI [cp, cl, co]) ∧ PrimeIs cp bb := by
    have : k4 = 0 ∨ k4 = 1 ∨ k4 = 2 ∨ k4 = 3 ∨ k4 = 4 ∨ k4 = 5 ∨ k4 = 6 ∨ k4 = 7 ∨ k4 = 8 ∨ k4 = 9 ∨ k4 = 10 ∨ k4 = 11 := by omega
    rcases this with rfl | rfl | rfl | rfl | rfl | rfl | rfl | rfl | rfl | rfl | rfl | rfl
    · exact ⟨p, l, o, true, rfl, hpi⟩
    · exact ⟨1, l, o, false, rfl, pi1⟩
    · exact ⟨999, l, o, false, rfl, pi999⟩
    · exact ⟨p, 0, o, true, rfl, hpi⟩
    · exact ⟨p, l, 4, true, rfl, hpi⟩
    · exact ⟨p, 4, 0, true, rfl, hpi⟩
    · exact ⟨4, 4, 4, false, rfl, pi4⟩
    · exact ⟨p, l, o, true, rfl, hpi⟩
    · exact ⟨p, l, o, true, rfl, hpi⟩
    · exact ⟨p, l, o, true, rfl, hpi⟩
    · exact ⟨p, l, o, true, rfl, hpi⟩
    · exact ⟨p, l, o, true, rfl, hpi⟩
  refine seq_go (set_ok (d := lI [cp, cl, co]) (e2_ok (d := .lst [lI [p, (l : Int), o], lI [1, l, o], lI [999, l, o], lI [p, 0, o], lI [p, l, 4], lI [p, 4, 0], lI [4, 4, 4], lI [p, l, o], lI [p, l, o], lI [p, l, o], lI [p, l, o], lI [p, l, o]]) (e2_ok rfl (e2_ok (d := .lst [lI [p, (l : Int), o]]) (c := .int 5) rfl rfl rfl) rfl) (e2_ok rfl rfl (ix_lI (i := 4) g4)) (ix_lst (i := k4) hch))) ?_
  show (sSeq (sIf (Pu.tOr (Pu.tNot (tTruth (eCall f__law_built (aCons (e2 oIx (eVar 10) (eC (.int 0))) (aCons (e2 oIx (eVar 10) (eC (.int 1))) (aCons (e2 oIx (eVar 10) (eC (.int 2))) (aCons (eVar 8) (aNil)))))))) (Pu.tNot (tTruth (eCall f__law_built (aCons (eVar 2) (aCons (eVar 3) (aCons (eVar 4) (aCons (eVar 6) (aNil))))))))) (sRet (eC (.bl false))) (sNil)) (sScratch 11 12 13 (lComp (iSeq (ePeek 6)) (gNm 13) (tYes) (eL (aCons (eN (lSeq (e2 oIx (eVar 13) (eC (.int 0))))) (aCons (eN (lSeq (e2 oIx (eVar 13) (eC (.int 1))))) (aNil)))) [13]) (eMake "CrossTable" f_CrossTable (aCons (eVar 2) (aCons (eVar 3) (aCons (eVar 4) (aCons (eVar 11) (aNil)))))) (sSeq (sSet 14 (e2 oAdd (eC (.int 1)) (e2 oIx (eVar 1) (eC (.int 5))))) (sSeq (sSet 15 (e2 oAdd (eC (.int 1)) (e2 oIx (eVar 1) (eC (.int 6))))) (sSeq (sSet 16 (eCall f__law_digits (aCons (eCall f__law_cell (aCons (eVar 0) (aCons (eC (.int 2)) (aNil)))) (aCons (eL (lComp (iRng1 (eC (.int 60))) (gNm 30) (tYes) (eC (.int 1994)) [30])) (aNil))))) (sSeq (sSet 17 (eL (lComp (iRng1 (eVar 14)) (gNm 27) (tYes) (eL (lComp (iRng1 (eVar 15)) (gNm 28) (tYes) (e2 oSub (e2 oIx (eVar 16) (e2 oMod (e2 oAdd (e2 oMul (eVar 15) (eVar 27)) (eVar 28)) (eC (.int 60)))) (eC (.int 997))) [28])) [27]))) (sSeq (sSet 18 (eCall f__law_digits (aCons (eCall f__law_cell (aCons (eVar 0) (aCons (eC (.int 3)) (aNil)))) (aCons (eL (lComp (iRng1 (eC (.int 60))) (gNm 30) (tYes) (eC (.int 1994)) [30])) (aNil))))) (sSeq (sSet 19 (eL (lComp (iRng1 (eVar 3)) (gNm 29) (tYes) (eL (lComp (iRng1 (eVar 14)) (gNm 30) (tYes) (e2 oSub (e2 oIx (eVar 18) (e2 oMod (e2 oAdd (e2 oMul (eVar 14) (eVar 29)) (eVar 30)) (eC (.int 60)))) (eC (.int 997))) [30])) [29]))) (sSeq (sSet 20 (eL (lComp (iRng1 (eVar 4)) (gNm 31) (tYes) (eL (lComp (iRng1 (eVar 15)) (gNm 30) (tYes) (e2 oSub (e2 oIx (eVar 18) (e2 oMod (e2 oSub (e2 oSub (eC (.int 59)) (e2 oMul (eVar 15) (eVar 31))) (eVar 30)) (eC (.int 60)))) (eC (.int 997))) [30])) [31]))) (sSeq (sSet 21 (eCall f_cross_answers (aCons (eVar 12) (aCons (eL (lComp (iSeq (eVar 17)) (gNm 32) (tYes) (e1 bList (eVar 32)) [32])) (aCons (eL (lComp (iSeq (eVar 19)) (gNm 32) (tYes) (e1 bList (eVar 32)) [32])) (aCons (eL (lComp (iSeq (eVar 20)) (gNm 32) (tYes) (e1 bTuple (eVar 32)) [32])) (aNil))))))) (sSeq (sIf (Pu.tNot (tTruth (eCall f__law_residues (aCons (eVar 2) (aCons (eVar 21) (aCons (e1 bLen (ePeek 6)) (aNil))))))) (sRet (eC (.bl false))) (sNil)) (sSeq (sFor (iRng1 (e1 bLen (ePeek 6))) (gNm 7) (sSeq (sSet 24 (eCall f__law_sum (aCons (eVar 2) (aCons (eVar 14) (aCons (e2 oIx (e2 oIx (ePeek 6) (eVar 7)) (eC (.int 0))) (aCons (eVar 19) (aNil))))))) (sSeq (sSet 25 (eCall f__law_sum (aCons (eVar 2) (aCons (eVar 15) (aCons (e2 oIx (e2 oIx (ePeek 6) (eVar 7)) (eC (.int 1))) (aCons (eVar 20) (aNil))))))) (sSeq (sIf (Pu.tOr (tVal (e2 oNe (e2 oIx (eVar 21) (eVar 7)) (eCall f__law_product (aCons (eVar 2) (aCons (eVar 17) (aCons (eVar 24) (aCons (eVar 25) (aNil)))))))) (tVal (e2 oNe (eCall f_cross_answer (aCons (eVar 2) (aCons (eVar 17) (aCons (eVar 24) (aCons (e1 bTuple (eVar 25)) (aNil)))))) (e2 oIx (eVar 21) (eVar 7))))) (sRet (eC (.bl false))) (sNil)) (sSeq (sSet 26 (eCall f_crossed (aCons (eVar 2) (aCons (e2 oIx (e2 oIx (ePeek 6) (eVar 7)) (eC (.int 0))) (aCons (e2 oIx (e2 oIx (ePeek 6) (eVar 7)) (eC (.int 1))) (aNil)))))) (sIf (tVal (e2 oNe (eVar 26) (e1 bTuple (eL (lComp (iRng1 (e2 oMul (eVar 3) (eVar 4))) (gNm 30) (tYes) (e2 oMod (e1 bInt (e2 oMul (e2 oIx (e2 oIx (e2 oIx (ePeek 6) (eVar 7)) (eC (.int 0))) (e2 oDiv (eVar 30) (eVar 4))) (e2 oIx (e2 oIx (e2 oIx (ePeek 6) (eVar 7)) (eC (.int 1))) (e2 oMod (eVar 30) (eVar 4))))) (eVar 2)) [30]))))) (sRet (eC (.bl false))) (sNil))))))) (sRet (eC (.bl true))))))))))))))) [some (.val (.ext (ns.map D.int))), some (.val (lI dr)), some (.val (.int p)), some (.val (.int (l : Nat))), some (.val (.int (o : Nat))), some (.val (lI nm)), some (.val (rowsD R)), a, some (.val (rowsD B)), some (.val (.lst [lI [p, l, o], lI [1, l, o], lI [999, l, o], lI [p, 0, o], lI [p, l, 4], lI [p, 4, 0], lI [4, 4, 4]])), some (.val (lI [cp, cl, co])), none, none, none, none, none, none, none, none, none, none, none, b, c, none, none, none, none, none, none, none, none, none] = .rt (.bl true)
  refine seq_go (if_f (tOr_f (tNot_ok (k := true) (tTruth_b (callGo (cons_ok (e2_ok rfl rfl (ix_lI (i := 0) rfl)) (cons_ok (e2_ok rfl rfl (ix_lI (i := 1) rfl)) (cons_ok (e2_ok rfl rfl (ix_lI (i := 2) rfl)) (cons_ok rfl rfl)))) (built_ok hpb cl co B (by omega))))) (tNot_ok (k := true) (tTruth_b (callGo rfl (built_ok hpi l o R (by omega)))))) rfl) ?_
  refine (scratch_ok (ds := R.map pD) (d := tableD p l o (redOf p R)) (comp_ok (ds := R.map pD) (ys := R.map pD) rfl (compL_of pD pD R fun pr hpr => ?_)) ?_ ⟨⟨noLst_table _ _ _ _, scratchOk_rows (by omega) R hrow, by rw [len_pD]; show _ < 16777216; omega⟩, by show (11 : Nat) < 33; decide, by show (13 : Nat) < 33; decide⟩).trans ?_
  · obtain ⟨u, v, rfl, _⟩ := hrow pr hpr
    exact ⟨_, rfl, rfl, l_ok (cons_ok (eN_ok (u := u) (by unfold lSeq; rw [e2_ok rfl rfl (ix_lst (i := 0) (d := lI u) rfl)]; rfl)) (cons_ok (eN_ok (u := v) (by unfold lSeq; rw [e2_ok rfl rfl (ix_lst (i := 1) (d := lI v) rfl)]; rfl)) rfl))⟩
  · have ht := (table_ok hpi (l : Int) (o : Int) R (by omega)).trans (table_good hl ho (by omega) hrow)
    show objOf "CrossTable" (f_CrossTable [.int p, .int (l : Int), .int (o : Int), rowsD R]) = _
    rw [ht]
    rfl
  · exact tail_ok (n := n) hns hp (by omega) hl ho (by omega) hrow g5 g6 b5 b6 a b c _ _ _ rfl
end Pu


set_option maxHeartbeats 0
namespace Pu
open PySem PySem.Spec PyProof.Rows L2 He
abbrev hk : PySem.W.Hook := hookP 4 fa fn fp
def ob (s : PySem.W.SharedT) : AlP := obsPG 4 fa fn fp (HandSHeadRun.getT s)
theorem ob_eq (s : PySem.W.SharedT) : ob s = hk.obs s.abs := obsPG_eq (HandSHeadRun.getT_eq s)
theorem run (w : World) : HandSHeadRun.RunEq R (PySem.W.view R.prog [lawAt]) hk ob 4000 loose w := by
  intro os
  kernel_rfl
end Pu
open PySem PySem.W PySem.Calls PyProof.Rows
theorem PySem.Challenge.cw_hiredhands_k71_crossed_answers_holds : PySem.Challenge.rw_hiredhands_k71_crossed_answers.Holds := by
  w_on; o_law
  refine HandSHeadRun.head_any (r := OpenLaw.row PySem.Challenge.rw_hiredhands_k71_crossed_answers) (q := view (OpenLaw.row PySem.Challenge.rw_hiredhands_k71_crossed_answers).prog [Pu.lawAt]) (H := Pu.hk) (ob := Pu.ob) (M := 4000) (loose := Pu.loose) (d := HandSHeadRun.topDef (OpenLaw.row PySem.Challenge.rw_hiredhands_k71_crossed_answers).prog Pu.lawAt) (kwd := []) Pu.ob_eq
    (by kernel_rfl) (fun s => by kernel_rfl) Pu.run (by kernel_rfl) (by kernel_rfl) (by kernel_rfl) (by rfl) (by first | assumption | decide +kernel) (by decide +kernel) ⟨rfl, rfl, rfl, rfl, rfl, by decide +kernel⟩ ?hw ?hc
  case hw => w_witness2
  case hc =>
    refine L2.walk_ofE (l := PySem.Challenge.rw_hiredhands_k71_crossed_answers) (n := 63) (k := Pu.lawLevel) (x := "script") (CX := L2.CX0) rfl (by decide) (by kernel_rfl) ⟨rfl, by decide, by decide⟩ ?F (fun _ _ _ _ z => z)
    intro w mg fa h Y G hmg0
    obtain ⟨K, KX, c⟩ := Y
    have hmg : mg ("law" : PySem.Str) = some (.ref fa) := by
      have e : (HandSHeadRun.topDef (OpenLaw.row PySem.Challenge.rw_hiredhands_k71_crossed_answers).prog Pu.lawAt).name = ("law" : PySem.Str) := by kernel_rfl
      rw [← e]
      exact hmg0
    obtain ⟨fd, F⟩ := Pu.law_df c
    have V0 : Pu.WD K mg h := ⟨KX, G, c⟩
    have e := hmg.symm.trans (Pu.law_glo V0)
    cases e
    have b := L2.FunD.bindsA (ps := ["script"]) F fun _ _ _ _ _ _ us hl => match us, hl with | [_], _ => rfl
    exact ⟨K, fd, fun vs H Q _ => Pu.spD K 1 Pu.f_law vs H Q fun _ _ _ => False, KX, fun s v => b s [v] rfl, fun H a ns hl _ hS => Pu.law_end (Pu.math ns hl) hS, fun base hb hn => Pu.toCX0 (Pu.law0 (P := (PySem.Challenge.rw_hiredhands_k71_crossed_answers).prog) (w := w) ⟨hb, hn, c⟩ F)⟩

