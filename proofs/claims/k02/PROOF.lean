import PyProof.Rows.All
import Wide.All
import OpenK.AllK
import Wide.FinOn
import HandS.ForMost
import HandS.ForExc
import HandS.IsInst
import HandS.Wide
import HandS.TupAny
import HandS.Walk
import HandS.Zip
import HandS.TupLe
import HandS.Style
import HandS.Text
import HandS.NoneIn
import KE.GoesEnum
import KE.GoesZip
import KE.GoesMore
import HandS.Conv
import HandS.RevRange
import HandS.More
import HandS.Sort
import PyProof.ReprRoads
import PyProof.ReprLen
import KE.KExcSuper
import HandS.TryMany
import HandS.Deep
import HandS.TupMul
import HandS.SetFor
import HandS.ExcIs
import KE.KExcIs
import HandS.Gcd
import Flt.RightSqrt
import HandS.Dict
import KE.IntTextLaws
import KE.KExcLine
import KE.KExcTry
import PySem.Challenge.RW_fastestalong_k02_texts_of_fractions
set_option Elab.async false
set_option linter.all false
set_option autoImplicit false
/-! The pure part: data without a heap, and what a text asks of data. -/
namespace DL
open PySem

/-- data: what does not change any more -/
inductive D where
  | non | bl (b : Bool) | int (i : Int) | str (s : Str) | tup (xs : List D) | lst (xs : List D) | ins (C : Str) (ns : List Str) (xs : List D)
/-- a slot: not known | data | a list that this frame alone holds | the law's source of numbers | an instance that this frame alone holds -/
inductive SV where
  | un | d (x : D) | own (xs : List D) | src | obj (x : Addr) (C : Str) (fs : List (Str × D))
/-- what a def hands back: data, or a list that is the caller's own from there on -/
inductive RV where
  | d (x : D) | own (xs : List D)
def RV.toD : RV → D
  | .d x => x
  | .own xs => .lst xs
structure Exc where
  cls : Str
  fld : Option (Str × D)

abbrev Env := List SV
abbrev XD := Env → Exc → Prop
abbrev EW := XD → Env → (D → Prop) → Prop
abbrev LW := XD → Env → (List D → Prop) → Prop
abbrev TW := XD → Env → (Bool → Prop) → Prop
abbrev AW := XD → Env → (List SV → Prop) → Prop
abbrev GW := D → Env → (Env → Prop) → Prop
structure DEnds where
  nx : Env → Prop
  rt : RV → Prop
  bk : Env → Prop := fun _ => False
  ct : Env → Prop := fun _ => False
abbrev SW := XD → DEnds → Env → Prop
abbrev Spec := List SV → (RV → Prop) → (Exc → Prop) → Prop

/-! ### expressions -/
def wVar (i : Nat) : EW := fun _ ρ Q => match ρ[i]? with
  | some (.d x) => Q x
  | _ => False
def wC (x : D) : EW := fun _ _ Q => Q x
abbrev Op2 := D → D → (D → Prop) → Prop
abbrev Op1 := D → (D → Prop) → Prop
def wBin (r : Op2) (a b : EW) : EW := fun X ρ Q => a X ρ fun x => b X ρ fun y => r x y Q
def wUn (r : Op1) (a : EW) : EW := fun X ρ Q => a X ρ fun x => r x Q
def wIf (t : TW) (a b : EW) : EW := fun X ρ Q => t X ρ fun k => if k = true then a X ρ Q else b X ρ Q
def wNil : AW := fun _ _ Q => Q []
def wCons (a : EW) (r : AW) : AW := fun X ρ Q => a X ρ fun x => r X ρ fun xs => Q (.d x :: xs)
/-- the source handed on -/
def wConsS (i : Nat) (r : AW) : AW := fun X ρ Q => match ρ[i]? with
  | some .src => r X ρ fun xs => Q (.src :: xs)
  | _ => False
def datas : List SV → Option (List D)
  | [] => some []
  | .d x :: r => (datas r).map (x :: ·)
  | _ :: _ => none
def wTup (t : AW) : EW := fun X ρ Q => t X ρ fun ss => match datas ss with
  | some xs => xs.length ≤ 100000 ∧ Q (.tup xs)
  | none => False
def wLst (t : AW) : EW := fun X ρ Q => t X ρ fun ss => match datas ss with
  | some xs => xs.length ≤ 100000 ∧ Q (.lst xs)
  | none => False
def lLst (t : AW) : LW := fun X ρ Q => t X ρ fun ss => match datas ss with
  | some xs => xs.length ≤ 100000 ∧ Q xs
  | none => False
/-- a built-in's call on data -/
abbrev OpN := List D → (D → Prop) → Prop
def wCB (r : OpN) (t : AW) : EW := fun X ρ Q => t X ρ fun ss => match datas ss with
  | some xs => r xs Q
  | none => False
def lCB (r : List D → (List D → Prop) → Prop) (t : AW) : LW := fun X ρ Q => t X ρ fun ss => match datas ss with
  | some xs => r xs Q
  | none => False
/-- a def's call -/
def wCall (sp : Spec) (t : AW) : EW := fun X ρ Q => t X ρ fun ss => sp ss (fun r => Q r.toD) (X ρ)
def lCall (sp : Spec) (t : AW) : LW := fun X ρ Q => t X ρ fun ss => sp ss (fun r => match r with | .own xs => Q xs | _ => False) (X ρ)
/-- a list that is made as data -/
def wOfL (l : LW) : EW := fun X ρ Q => l X ρ fun xs => Q (.lst xs)

/-! ### tests -/
def tB (a : EW) : TW := fun X ρ Q => a X ρ fun x => match x with
  | .bl k => Q k
  | _ => False
def tAndW (t u : TW) : TW := fun X ρ Q => t X ρ fun k => if k = true then u X ρ Q else Q false
def tOrW (t u : TW) : TW := fun X ρ Q => t X ρ fun k => if k = true then Q true else u X ρ Q
def tNotW (t : TW) : TW := fun X ρ Q => t X ρ fun k => Q (!k)
/-- and, or, not as values (of truths) -/
def wAnd (a b : EW) : EW := fun X ρ Q => a X ρ fun x => match x with
  | .bl k => if k = true then b X ρ Q else Q (.bl false)
  | _ => False
def wOr (a b : EW) : EW := fun X ρ Q => a X ρ fun x => match x with
  | .bl k => if k = true then Q (.bl true) else b X ρ Q
  | _ => False
def wNot (a : EW) : EW := fun X ρ Q => a X ρ fun x => match x with
  | .bl k => Q (.bl (!k))
  | _ => False
/-- a < b < c -/
def wChain (r r' : Op2) (a b c : EW) : EW := fun X ρ Q => a X ρ fun x => b X ρ fun y => r x y fun z => match z with
  | .bl k => if k = true then c X ρ fun u => r' y u Q else Q (.bl false)
  | _ => False
def tChainW (r r' : Op2) (a b c : EW) : TW := tB (wChain r r' a b c)

/-! ### operations on data -/
/-- one of both is small, or both together below a million bits -/
def IMul (i j : Int) : Prop := i.natAbs < 2 ^ 63 ∨ j.natAbs < 2 ^ 63 ∨ i.natAbs.log2 + j.natAbs.log2 < 1000000
def IDiv (j : Int) : Prop := 0 < j ∧ j.natAbs.log2 < 9000
def bAdd : Op2
  | .int i, .int j, Q => Q (.int (i + j))
  | .str s, .str t, Q => s.length + t.length ≤ 100000 ∧ Q (.str (s ++ t))
  | .tup xs, .tup ys, Q => xs.length + ys.length ≤ 100000 ∧ Q (.tup (xs ++ ys))
  | .lst xs, .lst ys, Q => xs.length + ys.length ≤ 100000 ∧ Q (.lst (xs ++ ys))
  | _, _, _ => False
def bSub : Op2
  | .int i, .int j, Q => Q (.int (i - j))
  | _, _, _ => False
def bMul : Op2
  | .int i, .int j, Q => IMul i j ∧ Q (.int (i * j))
  | _, _, _ => False
/-- a // b, b above 0 -/
def bFdiv : Op2
  | .int i, .int j, Q => IDiv j ∧ Q (.int (i / j))
  | _, _, _ => False
/-- a // b, b of any sign -/
def bFdivN : Op2
  | .int i, .int j, Q => (j ≠ 0 ∧ j.natAbs.log2 < 9000) ∧ Q (.int (i.fdiv j))
  | _, _, _ => False
def bMod : Op2
  | .int i, .int j, Q => 0 < j ∧ Q (.int (i % j))
  | _, _, _ => False
def bPow : Op2
  | .int i, .int j, Q => (0 ≤ j ∧ j ≤ 1000000 ∧ i.natAbs < 2 ^ 64) ∧ Q (.int (i ^ j.toNat))
  | _, _, _ => False
def bLt : Op2
  | .int i, .int j, Q => Q (.bl (decide (i < j)))
  | _, _, _ => False
def bLe : Op2
  | .int i, .int j, Q => Q (.bl (decide (i ≤ j)))
  | _, _, _ => False
def bGt : Op2
  | .int i, .int j, Q => Q (.bl (decide (j < i)))
  | _, _, _ => False
def bGe : Op2
  | .int i, .int j, Q => Q (.bl (decide (j ≤ i)))
  | _, _, _ => False
def bNeg : Op1
  | .int i, Q => Q (.int (-i))
  | _, _ => False
def bIsN : Op1
  | .non, Q => Q (.bl true)
  | _, Q => Q (.bl false)
def bNotN : Op1
  | .non, Q => Q (.bl false)
  | _, Q => Q (.bl true)

/-- Python's == of data without instances: none where it is not told -/
def toI : D → Option Int
  | .bl b => some (if b then 1 else 0)
  | .int i => some i
  | _ => none
mutual
def peq : D → D → Bool
  | .non, .non => true
  | .bl a, .bl b => a == b
  | .bl a, .int j => (if a then 1 else 0) == j
  | .int i, .bl b => i == (if b then 1 else 0)
  | .int i, .int j => i == j
  | .str s, .str t => s == t
  | .tup xs, .tup ys => peqL xs ys
  | .lst xs, .lst ys => peqL xs ys
  | _, _ => false
def peqL : List D → List D → Bool
  | [], [] => true
  | x :: xs, y :: ys => peq x y && peqL xs ys
  | _, _ => false
end
/-- data that may be compared: no instances, nested at most n deep -/
def toPy0 : D → PyData
  | .non => .none
  | .bl b => .bool b
  | .int i => .int i
  | .str s => .str s
  | _ => .none
mutual
def toPy : D → PyData
  | .non => .none
  | .bl b => .bool b
  | .int i => .int i
  | .str s => .str s
  | .tup xs => .tuple (toPyL xs)
  | .lst xs => .list (toPyL xs)
  | .ins _ _ _ => .none
def toPyL : List D → List PyData
  | [] => []
  | x :: xs => toPy x :: toPyL xs
end
mutual
def plain : Nat → D → Bool
  | 0, _ => false
  | _ + 1, .non => true
  | _ + 1, .bl _ => true
  | _ + 1, .int _ => true
  | _ + 1, .str s => PyData.strOk s
  | n + 1, .tup xs => plainL n xs
  | n + 1, .lst xs => plainL n xs
  | _ + 1, .ins _ _ _ => false
def plainL : Nat → List D → Bool
  | _, [] => true
  | n, x :: xs => plain n x && plainL n xs
end
/-- is True, is False, is not .. -/
def bIs : Op2
  | .bl a, .bl b, Q => Q (.bl (decide (a = b)))
  | _, _, _ => False
def bIsNot : Op2
  | .bl a, .bl b, Q => Q (.bl (!decide (a = b)))
  | _, _, _ => False
/-- x[i] -/
def bIx : Op2
  | .tup xs, .int i, Q => match L2.atI xs i with
    | some x => Q x
    | none => False
  | .lst xs, .int i, Q => match L2.atI xs i with
    | some x => Q x
    | none => False
  | .str s, .int i, Q => s.length ≤ 100000 ∧ match L2.atI s.cps.toList i with
    | some c => Q (.str ⟨#[c]⟩)
    | none => False
  | _, _, _ => False
/-- x[lo:hi] -/
def cutD (xs : List D) (lo hi : Option Int) : List D := (xs.drop (HT.sIx xs.length 0 lo)).take (HT.sIx xs.length xs.length hi - HT.sIx xs.length 0 lo)
abbrev OW := XD → Env → (Option Int → Prop) → Prop
def oNone : OW := fun _ _ Q => Q none
def oSome (a : EW) : OW := fun X ρ Q => a X ρ fun x => match x with
  | .int i => Q (some i)
  | _ => False
def wSl (a : EW) (lo hi : OW) : EW := fun X ρ Q => a X ρ fun x => lo X ρ fun l => hi X ρ fun h => match x with
  | .tup xs => Q (.tup (cutD xs l h))
  | .lst xs => Q (.lst (cutD xs l h))
  | .str s => s.length ≤ 100000 ∧ Q (.str (L2.cutS s l h))
  | _ => False
/-- x[::-1] of a list -/
def bRev : Op1
  | .lst xs, Q => Q (.lst xs.reverse)
  | _, _ => False
/-! ### built-ins -/
def bAbs : OpN
  | [.int i], Q => Q (.int (if i < 0 then -i else i))
  | _, _ => False
def bMax2 : OpN
  | [.int i, .int j], Q => Q (.int (if j > i then j else i))
  | _, _ => False
def bMin2 : OpN
  | [.int i, .int j], Q => Q (.int (if j < i then j else i))
  | _, _ => False
def bInt : OpN
  | [.int i], Q => Q (.int i)
  | [.bl b], Q => Q (.int (if b then 1 else 0))
  | _, _ => False
def bStr : OpN
  | [.int i], Q => i.natAbs.log2 < 1920 ∧ Q (.str (toString i))
  | _, _ => False
def bLen : OpN
  | [.tup xs], Q => Q (.int xs.length)
  | [.lst xs], Q => Q (.int xs.length)
  | [.str s], Q => s.length ≤ 100000 ∧ Q (.int s.length)
  | _, _ => False
def bTuple : OpN
  | [.lst xs], Q => Q (.tup xs)
  | [.tup xs], Q => Q (.tup xs)
  | _, _ => False
def bList : List D → (List D → Prop) → Prop
  | [.lst xs], Q => Q xs
  | [.tup xs], Q => Q xs
  | _, _ => False
def bools : List D → Option (List Bool)
  | [] => some []
  | .bl b :: r => (bools r).map (b :: ·)
  | _ :: _ => none
def bAll : OpN
  | [.lst xs], Q => match bools xs with
    | some bs => Q (.bl (bs.all id))
    | none => False
  | _, _ => False
def bAny : OpN
  | [.lst xs], Q => match bools xs with
    | some bs => Q (.bl (bs.any id))
    | none => False
  | _, _ => False
def intsD : List D → Option (List Int)
  | [] => some []
  | .int b :: r => (intsD r).map (b :: ·)
  | _ :: _ => none
def bSum : OpN
  | [.lst xs], Q => match intsD xs with
    | some ns => Q (.int ns.sum)
    | none => False
  | _, _ => False
def tyOf : D → Option String
  | .non => some "NoneType"
  | .bl _ => some "bool"
  | .int _ => some "int"
  | .str _ => some "str"
  | .tup _ => some "tuple"
  | .lst _ => some "list"
  | .ins _ _ _ => none
/-- isinstance(x, T) of built-in types -/
def isT : String → String → Bool
  | "bool", "bool" => true
  | "bool", "int" => true
  | "int", "int" => true
  | "str", "str" => true
  | "tuple", "tuple" => true
  | "list", "list" => true
  | _, _ => false
def bIsi (T : String) : Op1 := fun x Q => match tyOf x with
  | some t => Q (.bl (isT t T))
  | none => False
def bIsi2 (T U : String) : Op1 := fun x Q => match tyOf x with
  | some t => Q (.bl (isT t T || isT t U))
  | none => False
def bEq : Op2 := fun x y Q => plain 40 x = true ∧ plain 40 y = true ∧ Q (.bl (peq x y))
def bNe : Op2 := fun x y Q => plain 40 x = true ∧ plain 40 y = true ∧ Q (.bl (!peq x y))

/-! ### statements -/
def sNext : SW := fun _ DD ρ => DD.nx ρ
def sSeq (t u : SW) : SW := fun X DD ρ => t X { DD with nx := u X DD } ρ
def sBreak : SW := fun _ DD ρ => DD.bk ρ
def sCont : SW := fun _ DD ρ => DD.ct ρ
def sNever : SW := fun _ _ _ => False
def sDrop (a : EW) : SW := fun X DD ρ => a X ρ fun _ => DD.nx ρ
def sRet (a : EW) : SW := fun X DD ρ => a X ρ fun x => DD.rt (.d x)
def sRetN : SW := fun _ DD _ => DD.rt (.d .non)
/-- return x, x the frame's own list: the caller's own from there on -/
def sRetOwn (i : Nat) : SW := fun _ DD ρ => match ρ[i]? with
  | some (.own xs) => DD.rt (.own xs)
  | _ => False
def sRetL (l : LW) : SW := fun X DD ρ => l X ρ fun xs => DD.rt (.own xs)
def sIf (c : TW) (t u : SW) : SW := fun X DD ρ => c X ρ fun b => if b = true then t X DD ρ else u X DD ρ
def sAsg (a : EW) (g : GW) : SW := fun X DD ρ => a X ρ fun x => g x ρ DD.nx
def gNm (i : Nat) : GW := fun x ρ Q => Q (ρ.set i (.d x))
def gNilW : List D → Env → (Env → Prop) → Prop := fun xs ρ Q => xs = [] ∧ Q ρ
def gConsW (g : GW) (r : List D → Env → (Env → Prop) → Prop) : List D → Env → (Env → Prop) → Prop := fun xs ρ Q => match xs with
  | x :: t => g x ρ fun ρ' => r t ρ' Q
  | [] => False
def gTupW (r : List D → Env → (Env → Prop) → Prop) : GW := fun x ρ Q => match x with
  | .tup xs => r xs ρ Q
  | .lst xs => r xs ρ Q
  | _ => False
def sSetL (i : Nat) (l : LW) : SW := fun X DD ρ => l X ρ fun xs => DD.nx (ρ.set i (.own xs))
/-- arguments that may be fresh lists -/
def wConsL (l : LW) (r : AW) : AW := fun X ρ Q => l X ρ fun xs => r X ρ fun ss => Q (.own xs :: ss)
def setAll : List Nat → List SV → Env → Option Env
  | [], [], ρ => some ρ
  | i :: is, s :: ss, ρ => setAll is ss (ρ.set i s)
  | _, _, _ => none
/-- a, b, .. = x, y, .. -/
def sPar (is : List Nat) (t : AW) : SW := fun X DD ρ => t X ρ fun ss => match setAll is ss ρ with
  | some ρ' => DD.nx ρ'
  | none => False
def sAugI (i : Nat) (f : Int → Int → Int) (a : EW) : SW := fun X DD ρ => match ρ[i]? with
  | some (.d (.int x)) => a X ρ fun y => match y with
    | .int y => DD.nx (ρ.set i (.d (.int (f x y))))
    | _ => False
  | _ => False
/-- x.append(e), x[k] = e, x.pop(), x.pop(k), x.insert(k, e): x the frame's own list -/
def sAppend (i : Nat) (a : EW) : SW := fun X DD ρ => match ρ[i]? with
  | some (.own xs) => a X ρ fun x => xs.length < 100000 ∧ DD.nx (ρ.set i (.own (xs ++ [x])))
  | _ => False
def sSetItem (i : Nat) (k a : EW) : SW := fun X DD ρ => match ρ[i]? with
  | some (.own xs) => a X ρ fun x => k X ρ fun y => match y with
    | .int j => match L2.ixN xs.length j with
      | some n => DD.nx (ρ.set i (.own (xs.set n x)))
      | none => False
    | _ => False
  | _ => False
def sPop (i : Nat) : SW := fun _ DD ρ => match ρ[i]? with
  | some (.own xs) => xs ≠ [] ∧ DD.nx (ρ.set i (.own xs.dropLast))
  | _ => False
/-- from here on the list is data -/
def sFreeze (i : Nat) (t : SW) : SW := fun X DD ρ => match ρ[i]? with
  | some (.own xs) => t X DD (ρ.set i (.d (.lst xs)))
  | some (.d _) => t X DD ρ
  | _ => False
/-- x[k], the list x the frame's own -/
def wIxOwn (i : Nat) (k : EW) : EW := fun X ρ Q => match ρ[i]? with
  | some (.own xs) => k X ρ fun y => match y with
    | .int j => match L2.atI xs j with
      | some d => Q d
      | none => False
    | _ => False
  | _ => False
def scalarD : D → Prop
  | .non => True
  | .bl _ => True
  | .int _ => True
  | .str _ => True
  | _ => False
/-- x read as data in an expression that gives no object -/
def wBorrow (i : Nat) (w : EW) : EW := fun X ρ Q => match ρ[i]? with
  | some (.own xs) => w (fun _ _ => False) (ρ.set i (.d (.lst xs))) fun d => scalarD d ∧ Q d
  | _ => False
def tBorrow (i : Nat) (w : TW) : TW := fun X ρ Q => match ρ[i]? with
  | some (.own xs) => w (fun _ _ => False) (ρ.set i (.d (.lst xs))) Q
  | _ => False

/-! ### what is walked -/
abbrev IW := XD → Env → (List D → Prop) → Prop
def iSeq (a : EW) : IW := fun X ρ Q => a X ρ fun x => match x with
  | .tup xs => Q xs
  | .lst xs => Q xs
  | .str s => Q (s.cps.toList.map fun c => .str ⟨#[c]⟩)
  | _ => False
def rangeD (lo : Int) (n : Nat) : List D := (List.range n).map fun (k : Nat) => D.int (lo + (k : Int))
def iRange1 (a : EW) : IW := fun X ρ Q => a X ρ fun x => match x with
  | .int n => (-(2 ^ 62) ≤ n ∧ n < 2 ^ 62) ∧ Q (rangeD 0 n.toNat)
  | _ => False
def iRange2 (a b : EW) : IW := fun X ρ Q => a X ρ fun x => b X ρ fun y => match x, y with
  | .int m, .int n => (-(2 ^ 62) ≤ m ∧ m < 2 ^ 62 ∧ -(2 ^ 62) ≤ n ∧ n < 2 ^ 62) ∧ Q (rangeD m (n - m).toNat)
  | _, _ => False
def seqD : D → Option (List D)
  | .tup xs => some xs
  | .lst xs => some xs
  | _ => none
def pairD (xs ys : List D) : List D := List.zipWith (fun x y => .tup [x, y]) xs ys
def iZipW (a b : EW) : IW := fun X ρ Q => a X ρ fun x => b X ρ fun y => match x, y with
  | .lst xs, .lst ys => Q (pairD xs ys)
  | .tup xs, .tup ys => Q (pairD xs ys)
  | _, _ => False
def enumD (xs : List D) : List D := pairD (rangeD 0 xs.length) xs
def iEnumW (a : EW) : IW := fun X ρ Q => a X ρ fun x => match x with
  | .lst xs => Q (enumD xs)
  | .tup xs => Q (enumD xs)
  | _ => False
def forGo (g : GW) (b : SW) (X : XD) (DD : DEnds) : List D → Env → Prop
  | [], ρ => DD.nx ρ
  | x :: xs, ρ => g x ρ fun ρ' => b X { DD with nx := forGo g b X DD xs, ct := forGo g b X DD xs, bk := DD.nx } ρ'
def sFor (it : IW) (g : GW) (b : SW) : SW := fun X DD ρ => it X ρ fun xs => forGo g b X DD xs ρ
def sWhile (c : TW) (b : SW) : SW := fun X DD ρ => ∃ I : Nat → Env → Prop, (∃ m, I m ρ) ∧ ∀ m ρ, I m ρ →
  c X ρ fun k => if k = true then b X { DD with nx := fun ρ' => ∃ m', m' < m ∧ I m' ρ', ct := fun ρ' => ∃ m', m' < m ∧ I m' ρ', bk := DD.nx } ρ else DD.nx ρ
def tYesW : TW := fun _ _ Q => Q true
def wipeW (ρ : Env) : List Nat → Env
  | [] => ρ
  | v :: vs => (wipeW ρ vs).set v .un
def X0 : XD := fun _ _ => False
def compGo (g : GW) (t : TW) (a : EW) (ρ : Env) (Q : List D → Prop) : List D → List D → Prop
  | [], acc => Q acc
  | x :: xs, acc => g x ρ fun ρ' => t X0 ρ' fun k => if k = true then a X0 ρ' fun y => acc.length < 100000 ∧ compGo g t a ρ Q xs (acc ++ [y]) else compGo g t a ρ Q xs acc
/-- [a for g in it if t]: vs the comprehension's own slots -/
def lComp (it : IW) (g : GW) (t : TW) (a : EW) (vs : List Nat) : LW := fun X ρ Q => it X ρ fun xs => compGo g t a (wipeW ρ vs) Q xs []

def permL {α : Type} (idx : List Nat) (xs : List α) : List α := idx.filterMap fun i => xs[i]?
/-- f(k = e, ..): the values in the parameters' order -/
def wCallK (sp : Spec) (idx : List Nat) (t : AW) : EW := fun X ρ Q => t X ρ fun ss => ss.length = idx.length ∧ sp (permL idx ss) (fun r => Q r.toD) (X ρ)
end DL
set_option linter.all false
set_option autoImplicit false
set_option maxHeartbeats 2000000
/-! Each rule of the hand layer, lifted to data. -/
namespace DL
open PySem PySem.Spec PyProof.Rows L2

/-- a source of numbers: an object (and what it holds) that calls may change -/
structure SrcK where
  P : Addr → List Addr → Hp → Prop
  loc : ∀ {a : Addr} {fp : List Addr} {H H' : Hp}, P a fp H → (∀ b ∈ fp, H' b = H b) → P a fp H'
  tr : ∀ {a : Addr} {fp : List Addr} {H : Hp}, P a fp H → a ∈ fp ∧ ∀ b ∈ fp, H b ≠ none

section
variable (K : PySem.W.Frag)
mutual
def Rep (F : Hp) : D → V → Prop
  | .non, v => v = .non
  | .bl b, v => v = .bl b
  | .int i, v => v = .int i
  | .str s, v => v = .str s
  | .tup xs, v => ∃ (a : Addr) (vs : List V), v = .ref a ∧ SqT K F a vs ∧ RepL F xs vs
  | .lst xs, v => ∃ (a : Addr) (vs : List V), v = .ref a ∧ SqL K F a vs ∧ RepL F xs vs
  | .ins C ns xs, v => ∃ (a dx : Addr) (fs : List (Str × V)), v = .ref a ∧ (∃ CA : Addr, F a = some (.ins CA dx fs) ∧ PySem.W.nsIn K mainGlobals C = some (some (.ref CA))) ∧ fs.map (·.1) = ns ∧ RepL F xs (fs.map (·.2))
def RepL (F : Hp) : List D → List V → Prop
  | [], vs => vs = []
  | x :: xs, vs => ∃ (v : V) (r : List V), vs = v :: r ∧ Rep F x v ∧ RepL F xs r
end
end

section
variable {K : PySem.W.Frag} {F F' H H' : Hp}
theorem rd_same {a : Addr} {u : HO} (e : Same F F') (h : Rd F a u) : Rd F' a u := h.elim (fun z => .inl (e _ _ z)) fun ⟨o, z⟩ => .inr ⟨o, e _ _ z⟩
theorem same_l {a : Addr} {xs : List V} (e : Same F F') (h : SqL K F a xs) : SqL K F' a xs := h.elim (fun z => .inl (rd_same e z)) .inr
theorem same_t {a : Addr} {xs : List V} (e : Same F F') (h : SqT K F a xs) : SqT K F' a xs := by
  rcases h with (h | ⟨o, h⟩) | h
  · exact .inl (.inl (e _ _ h))
  · exact .inl (.inr ⟨o, e _ _ h⟩)
  · exact .inr h
mutual
theorem Rep.mono (e : Same F F') : ∀ (d : D) (v : V), Rep K F d v → Rep K F' d v
  | .non, _, h => h
  | .bl _, _, h => h
  | .int _, _, h => h
  | .str _, _, h => h
  | .tup xs, v, h => by
    obtain ⟨a, vs, e1, e2, e3⟩ := h
    exact ⟨a, vs, e1, same_t e e2, RepL.mono e xs vs e3⟩
  | .lst xs, v, h => by
    obtain ⟨a, vs, e1, e2, e3⟩ := h
    exact ⟨a, vs, e1, same_l e e2, RepL.mono e xs vs e3⟩
  | .ins C ns xs, v, h => by
    obtain ⟨a, dx, fs, e1, ⟨CA, e2, e0⟩, e3, e4⟩ := h
    exact ⟨a, dx, fs, e1, ⟨CA, e _ _ e2, e0⟩, e3, RepL.mono e xs _ e4⟩
theorem RepL.mono (e : Same F F') : ∀ (ds : List D) (vs : List V), RepL K F ds vs → RepL K F' ds vs
  | [], _, h => h
  | x :: xs, vs, h => by
    obtain ⟨v, r, e1, e2, e3⟩ := h
    exact ⟨v, r, e1, Rep.mono e x v e2, RepL.mono e xs r e3⟩
end
theorem RepL.len : ∀ {ds : List D} {vs : List V}, RepL K F ds vs → vs.length = ds.length
  | [], _, h => by
    have h : _ = [] := h
    rw [h] <;> rfl
  | x :: xs, vs, h => by
    obtain ⟨v, r, rfl, _, e3⟩ := h
    rw [List.length_cons, List.length_cons, RepL.len e3]
theorem RepL.get : ∀ {ds : List D} {vs : List V} {i : Nat} {d : D}, RepL K F ds vs → ds[i]? = some d → ∃ v, vs[i]? = some v ∧ Rep K F d v
  | [], _, _, _, _, e => by simp at e
  | x :: xs, vs, 0, d, h, e => by
    obtain ⟨v, r, rfl, e2, _⟩ := h
    have e : x = d := by simpa using e
    subst e
    exact ⟨v, rfl, e2⟩
  | x :: xs, vs, i + 1, d, h, e => by
    obtain ⟨v, r, rfl, _, e3⟩ := h
    have e : xs[i]? = some d := by simpa using e
    obtain ⟨u, h1, h2⟩ := RepL.get e3 e
    exact ⟨u, by simpa using h1, h2⟩
theorem RepL.app : ∀ {xs ys : List D} {vs ws : List V}, RepL K F xs vs → RepL K F ys ws → RepL K F (xs ++ ys) (vs ++ ws)
  | [], _, _, _, h, k => by
    have h : _ = [] := h
    subst h
    exact k
  | x :: xs, ys, vs, ws, h, k => by
    obtain ⟨v, r, rfl, e2, e3⟩ := h
    exact ⟨v, r ++ ws, rfl, e2, RepL.app e3 k⟩
theorem RepL.one {d : D} {v : V} (h : Rep K F d v) : RepL K F [d] [v] := ⟨v, [], rfl, h, rfl⟩
theorem RepL.take : ∀ {xs : List D} {vs : List V} (n : Nat), RepL K F xs vs → RepL K F (xs.take n) (vs.take n)
  | [], _, n, h => by
    have h : _ = [] := h
    subst h
    simp
    rfl
  | x :: xs, _, 0, h => rfl
  | x :: xs, _, n + 1, h => by
    obtain ⟨v, r, rfl, e2, e3⟩ := h
    exact ⟨v, r.take n, rfl, e2, RepL.take n e3⟩
theorem RepL.drop : ∀ {xs : List D} {vs : List V} (n : Nat), RepL K F xs vs → RepL K F (xs.drop n) (vs.drop n)
  | [], _, n, h => by
    have h : _ = [] := h
    subst h
    simp
    rfl
  | x :: xs, _, 0, h => h
  | x :: xs, _, n + 1, h => by
    obtain ⟨v, r, rfl, e2, e3⟩ := h
    exact RepL.drop n e3
theorem RepL.set : ∀ {xs : List D} {vs : List V} {d : D} {v : V} (n : Nat), RepL K F xs vs → Rep K F d v → RepL K F (xs.set n d) (vs.set n v)
  | [], _, _, _, n, h, k => by
    have h : _ = [] := h
    subst h
    rfl
  | x :: xs, _, d, v, 0, h, k => by
    obtain ⟨u, r, rfl, e2, e3⟩ := h
    exact ⟨v, r, rfl, k, e3⟩
  | x :: xs, _, d, v, n + 1, h, k => by
    obtain ⟨u, r, rfl, e2, e3⟩ := h
    exact ⟨u, r.set n v, rfl, e2, RepL.set n e3 k⟩
theorem RepL.erase : ∀ {xs : List D} {vs : List V} (n : Nat), RepL K F xs vs → RepL K F (xs.eraseIdx n) (vs.eraseIdx n)
  | [], _, n, h => by
    have h : _ = [] := h
    subst h
    rfl
  | x :: xs, _, 0, h => by
    obtain ⟨u, r, rfl, e2, e3⟩ := h
    exact e3
  | x :: xs, _, n + 1, h => by
    obtain ⟨u, r, rfl, e2, e3⟩ := h
    exact ⟨u, r.eraseIdx n, rfl, e2, RepL.erase n e3⟩
theorem RepL.rev : ∀ {xs : List D} {vs : List V}, RepL K F xs vs → RepL K F xs.reverse vs.reverse
  | [], _, h => by
    have h : _ = [] := h
    subst h
    rfl
  | x :: xs, _, h => by
    obtain ⟨u, r, rfl, e2, e3⟩ := h
    rw [List.reverse_cons, List.reverse_cons]
    exact RepL.app (RepL.rev e3) (RepL.one e2)
theorem RepL.dropLast {xs : List D} {vs : List V} (h : RepL K F xs vs) : RepL K F xs.dropLast vs.dropLast := by
  rw [List.dropLast_eq_take, List.dropLast_eq_take, h.len]
  exact h.take _
end

/-! ### what a frame holds -/
structure Cfg where
  src : Option (Addr × List Addr)
  F0 : Hp
  H0 : Hp
def Cfg.fp (c : Cfg) : List Addr := match c.src with
  | some p => p.2
  | none => []
/-- an instance of C with these fields, or (C is "{}") a dict with these texts as keys -/
def ObAt (K : PySem.W.Frag) (C : Str) (gs : List (Str × V)) : HO → Prop
  | .ins CA _ hs => hs = gs ∧ C ≠ ("{}" : Str) ∧ PySem.W.nsIn K mainGlobals C = some (some (.ref CA))
  | .dK kvs => C = "{}" ∧ kvs = gs.map fun p => (.inr p.1, p.2)
  | _ => False
theorem ObAt.ins {K : PySem.W.Frag} {C : Str} {gs : List (Str × V)} {ob : HO} (h : ObAt K C gs ob) (hC : C ≠ ("{}" : Str)) : ∃ CA dx, ob = .ins CA dx gs ∧ PySem.W.nsIn K mainGlobals C = some (some (.ref CA)) := by
  cases ob with
  | ins CA dx hs =>
    obtain ⟨rfl, _, h⟩ := h
    exact ⟨CA, dx, rfl, h⟩
  | dK kvs => exact absurd h.1 hC
  | _ => exact h.elim
theorem ObAt.dic {K : PySem.W.Frag} {gs : List (Str × V)} {ob : HO} (h : ObAt K "{}" gs ob) : ob = .dK (gs.map fun p => (.inr p.1, p.2)) := by
  cases ob with
  | ins CA dx hs => exact absurd rfl h.2.1
  | dK kvs => rw [h.2]
  | _ => exact h.elim
theorem ObAt.nl {K : PySem.W.Frag} {C : Str} {gs : List (Str × V)} {ob : HO} (h : ObAt K C gs ob) (vs : List V) : ob ≠ .lst vs := fun e => by
  subst e
  exact h
def SlotOk (K : PySem.W.Frag) (c : Cfg) (F H : Hp) : SV → Option V → Prop
  | .un, _ => True
  | .d x, o => ∃ v, o = some v ∧ Rep K F x v
  | .own xs, o => ∃ (a : Addr) (vs : List V), o = some (.ref a) ∧ F a = none ∧ c.H0 a = none ∧ H a = some (.lst vs) ∧ RepL K F xs vs
  | .src, o => ∃ (a : Addr) (fp : List Addr), c.src = some (a, fp) ∧ o = some (.ref a)
  | .obj a C fs, o => ∃ (ob : HO) (gs : List (Str × V)), o = some (.ref a) ∧ F a = none ∧ c.H0 a = none ∧ H a = some ob ∧ ObAt K C gs ob ∧ gs.map (·.1) = fs.map (·.1) ∧ RepL K F (fs.map (·.2)) (gs.map (·.2))
theorem obj_kx {K : PySem.W.Frag} {c : Cfg} {F H F' H' : Hp} {px : Addr} {C : Str} {fs : List (Str × D)} {o : Option V} (h : SlotOk K c F H (.obj px C fs) o) (sF : Same F F') (kp : ∀ a u, H a = some u → c.H0 a = none → (∀ vs, u ≠ .lst vs) → H' a = some u)
    (new : ∀ b, F' b ≠ none → F b ≠ none ∨ H b = none ∨ ∃ vs, H b = some (.lst vs)) : SlotOk K c F' H' (.obj px C fs) o := by
  obtain ⟨ob, gs, r1, r2, r3, r4, r5, r6, r7⟩ := h
  refine ⟨ob, gs, r1, ?_, r3, kp _ _ r4 r3 r5.nl, r5, r6, RepL.mono sF _ _ r7⟩
  cases q : F' px with
  | none => rfl
  | some u =>
    rcases new px (by rw [q]; simp) with z | z | ⟨vs, z⟩
    · exact absurd r2 z
    · rw [r4] at z
      cases z
    · rw [r4] at z
      exact absurd (Option.some.inj z) (r5.nl vs)
structure EnvOk (Z : SrcK) (K : PySem.W.Frag) (c : Cfg) (F H : Hp) (σ : L2.St) (ρ : Env) : Prop where
  len : σ.length = ρ.length
  slot : ∀ (i : Nat) s, ρ[i]? = some s → ∃ o, σ[i]? = some o ∧ SlotOk K c F H s o
  sep : ∀ (i j : Nat) xs ys, i ≠ j → ρ[i]? = some (SV.own xs) → ρ[j]? = some (SV.own ys) → σ[i]? ≠ σ[j]?
  fh : Same F H
  f0 : Same c.F0 F
  new : ∀ b, F b ≠ none → c.F0 b ≠ none ∨ c.H0 b = none
  keep : ∀ b o, c.H0 b = some o → b ∉ c.fp → H b = some o
  all : ∀ b, c.H0 b ≠ none → H b ≠ none
  src : ∀ a fp, c.src = some (a, fp) → Z.P a fp H ∧ ∀ b ∈ fp, F b = none ∧ c.H0 b ≠ none
/-- all is kept, some is new -/
structure Ext (F H F' H' : Hp) : Prop where
  ff : Same F F'
  hh : Same H H'
  fh : Same F' H'
  new : ∀ b, F' b ≠ none → F b ≠ none ∨ H b = none
def Nx (H H' : Hp) : Prop := ∀ b, H b ≠ none → H' b ≠ none
theorem Nx.refl (H : Hp) : Nx H H := fun _ h => h
theorem Nx.trans {H H1 H2 : Hp} (a : Nx H H1) (b : Nx H1 H2) : Nx H H2 := fun x h => b x (a x h)
theorem Nx.free {H H' : Hp} (n : Nx H H') {a : Addr} (h : H' a = none) : H a = none := by
  cases q : H a with
  | none => rfl
  | some o => exact absurd h (n a (by rw [q]; simp))
theorem Same.nx {H H' : Hp} (e : Same H H') : Nx H H' := fun b h => by
  cases q : H b with
  | none => exact absurd q h
  | some o => rw [e b o q]; simp
/-- all that is tracked stays so; and stays as it is, but for the source; what is data from now on was so, or is new -/
structure Kx (fp : List Addr) (F H F' H' : Hp) : Prop where
  nx : Nx H H'
  kp : ∀ b o, H b = some o → b ∉ fp → H' b = some o
  new : ∀ b, F' b ≠ none → F b ≠ none ∨ H b = none
theorem Kx.refl (fp : List Addr) (F H : Hp) : Kx fp F H F H := ⟨Nx.refl H, fun _ _ h _ => h, fun _ h => .inl h⟩
theorem Kx.trans {fp : List Addr} {F H F1 H1 F2 H2 : Hp} (a : Kx fp F H F1 H1) (b : Kx fp F1 H1 F2 H2) : Kx fp F H F2 H2 :=
  ⟨a.nx.trans b.nx, fun x o h n => b.kp x o (a.kp x o h n) n, fun x h => (b.new x h).elim (a.new x) fun n => .inr (a.nx.free n)⟩
theorem Kx.free {fp : List Addr} {F H F' H' : Hp} (n : Kx fp F H F' H') {a : Addr} (h : H' a = none) : H a = none := n.nx.free h
theorem Ext.kx {fp : List Addr} {F H F' H' : Hp} (x : Ext F H F' H') : Kx fp F H F' H' := ⟨Same.nx x.hh, fun b o h _ => x.hh b o h, x.new⟩
theorem Kx.lay {fp : List Addr} {F H : Hp} {p : Addr} {o : HO} (h : H p = none) : Kx fp F H F (upd H p o) := ⟨fun b q => by
  by_cases hb : b = p
  · subst hb
    rw [upd_same]
    simp
  · rw [upd_ne hb]
    exact q, fun b u q _ => by
  rw [upd_ne (ne_of_none q h)]
  exact q, fun _ h => .inl h⟩
theorem ne_some {H : Hp} {b : Addr} (h : H b ≠ none) : ∃ o, H b = some o := by
  cases q : H b with
  | none => exact absurd q h
  | some o => exact ⟨o, rfl⟩
theorem Ext.refl {F H : Hp} (h : Same F H) : Ext F H F H := ⟨Same.refl _, Same.refl _, h, fun _ h => .inl h⟩
theorem Ext.trans {F H F1 H1 F2 H2 : Hp} (a : Ext F H F1 H1) (b : Ext F1 H1 F2 H2) : Ext F H F2 H2 :=
  ⟨a.ff.trans b.ff, a.hh.trans b.hh, b.fh, fun x h => (b.new x h).elim (a.new x) fun n => .inr ((Same.nx a.hh).free n)⟩
/-- a new object laid, frozen at once -/
theorem Ext.lay {F H : Hp} {p : Addr} {o : HO} (h : Same F H) (n : H p = none) : Ext F H (upd F p o) (upd H p o) := by
  have nf : F p = none := h.free n
  refine ⟨fun b u e => ?_, fun b u e => ?_, fun b u e => ?_, fun b e => ?_⟩
  · rw [upd_ne (ne_of_none e nf)]
    exact e
  · rw [upd_ne (ne_of_none e n)]
    exact e
  · by_cases hb : b = p
    · subst hb
      rw [upd_same] at e ⊢
      exact e
    · rw [upd_ne hb] at e ⊢
      exact h b u e
  · by_cases hb : b = p
    · subst hb
      exact .inr n
    · rw [upd_ne hb] at e
      exact .inl e
section
variable {Z : SrcK} {K : PySem.W.Frag} {c : Cfg} {F H F' H' : Hp} {σ : L2.St} {ρ : Env}
theorem Cfg.fp_of {a : Addr} {fp : List Addr} (h : c.src = some (a, fp)) : c.fp = fp := by
  unfold Cfg.fp
  rw [h]
theorem Cfg.of_fp {b : Addr} (h : b ∈ c.fp) : ∃ a fp, c.src = some (a, fp) ∧ b ∈ fp := by
  unfold Cfg.fp at h
  cases q : c.src with
  | none =>
    rw [q] at h
    cases h
  | some p =>
    rw [q] at h
    exact ⟨p.1, p.2, rfl, h⟩
theorem EnvOk.ext (e : EnvOk Z K c F H σ ρ) (x : Ext F H F' H') : EnvOk Z K c F' H' σ ρ where
  len := e.len
  slot := fun i s h => by
    obtain ⟨o, h1, h2⟩ := e.slot i s h
    refine ⟨o, h1, ?_⟩
    cases s with
    | un => trivial
    | d y =>
      obtain ⟨v, r1, r2⟩ := h2
      exact ⟨v, r1, Rep.mono x.ff _ _ r2⟩
    | own ys =>
      obtain ⟨a, vs, r1, r2, r3, r4, r5⟩ := h2
      refine ⟨a, vs, r1, ?_, r3, x.hh _ _ r4, RepL.mono x.ff _ _ r5⟩
      cases q : F' a with
      | none => rfl
      | some u =>
        rcases x.new a (by rw [q]; simp) with z | z
        · exact absurd r2 z
        · rw [r4] at z
          cases z
    | src => exact h2
    | obj px C fs => exact obj_kx h2 x.ff (fun a u z _ _ => x.hh _ _ z) fun b z => (x.new b z).elim .inl fun z => .inr (.inl z)
  sep := e.sep
  fh := x.fh
  f0 := e.f0.trans x.ff
  new := fun b h => (x.new b h).elim (e.new b) fun n => .inr (by
    cases q : c.H0 b with
    | none => rfl
    | some o => exact absurd n (e.all b (by rw [q]; simp)))
  keep := fun b o h hb => x.hh _ _ (e.keep b o h hb)
  all := fun b h => Same.nx x.hh b (e.all b h)
  src := fun a fp h => by
    obtain ⟨p, q⟩ := e.src a fp h
    have t := (Z.tr p).2
    refine ⟨Z.loc p fun b hb => ?_, fun b hb => ⟨?_, (q b hb).2⟩⟩
    · obtain ⟨o, ho⟩ := ne_some (t b hb)
      rw [ho, x.hh _ _ ho]
    · cases z : F' b with
      | none => rfl
      | some u =>
        rcases x.new b (by rw [z]; simp) with k | k
        · exact absurd (q b hb).1 k
        · exact absurd k (t b hb)
end

/-! ### exceptions -/
def ExRep (K : PySem.W.Frag) (F : Hp) (ex : Exc) (cls : Value) (dd : Option Addr) : Prop :=
  (∃ C : Addr, cls = .ref C ∧ PySem.W.nsIn K mainGlobals ex.cls = some (some (.ref C))) ∧ match ex.fld with
    | none => dd = none
    | some (f, x) => ∃ (dx : Addr) (v : V), dd = some dx ∧ F dx = some (.xd [(f, v)]) ∧ Rep K F x v
def ELk (Z : SrcK) (K : PySem.W.Frag) (c : Cfg) (F H : Hp) (E : L2.St → XK) (Xd : XD) : Prop :=
  ∀ (σ : L2.St) (ρ : Env) (ex : Exc) (F' H' : Hp) (cls : Value) (dd : Option Addr), Xd ρ ex → EnvOk Z K c F' H' σ ρ → Same F F' → Nx H H' → ExRep K F' ex cls dd → E σ cls dd H'
theorem ELk.mono {Z : SrcK} {K : PySem.W.Frag} {c : Cfg} {F H F1 H1 : Hp} {E : L2.St → XK} {Xd : XD} (h : ELk Z K c F H E Xd) (e : Same F F1) (n : Nx H H1) : ELk Z K c F1 H1 E Xd :=
  fun σ ρ ex F' H' cls dd x o s m r => h σ ρ ex F' H' cls dd x o (e.trans s) (n.trans m) r

/-! ### what a reading does to data -/
def LE (Z : SrcK) (K : PySem.W.Frag) (E : L2.St → XK) (t : TE) (w : EW) : Prop :=
  ∀ (c : Cfg) (F H : Hp) (σ : L2.St) (ρ : Env) (Xd : XD) (Qd : D → Prop) (Qv : VK), EnvOk Z K c F H σ ρ → ELk Z K c F H E Xd → w Xd ρ Qd →
    (∀ d v F' H', Qd d → EnvOk Z K c F' H' σ ρ → Same F F' → Kx c.fp F H F' H' → Rep K F' d v → Qv v H') → t σ H Qv
def LL (Z : SrcK) (K : PySem.W.Frag) (E : L2.St → XK) (t : TE) (w : LW) : Prop :=
  ∀ (c : Cfg) (F H : Hp) (σ : L2.St) (ρ : Env) (Xd : XD) (Qd : List D → Prop) (Qv : VK), EnvOk Z K c F H σ ρ → ELk Z K c F H E Xd → w Xd ρ Qd →
    (∀ xs (a : Addr) vs F' H', Qd xs → EnvOk Z K c F' H' σ ρ → Same F F' → Kx c.fp F H F' H' → H a = none → F' a = none → H' a = some (.lst vs) → RepL K F' xs vs → Qv (.ref a) H') → t σ H Qv
def LT (Z : SrcK) (K : PySem.W.Frag) (E : L2.St → XK) (t : TT) (w : TW) : Prop :=
  ∀ (c : Cfg) (F H : Hp) (σ : L2.St) (ρ : Env) (Xd : XD) (Qd : Bool → Prop) (Qv : Bool → Hp → Prop), EnvOk Z K c F H σ ρ → ELk Z K c F H E Xd → w Xd ρ Qd →
    (∀ b F' H', Qd b → EnvOk Z K c F' H' σ ρ → Same F F' → Kx c.fp F H F' H' → Qv b H') → t σ H Qv
def ArgOk (K : PySem.W.Frag) (src : Option (Addr × List Addr)) (F : Hp) : SV → V → Prop
  | .un, _ => False
  | .d x, v => Rep K F x v
  | .own _, _ => False
  | .src, v => ∃ (a : Addr) (fp : List Addr), src = some (a, fp) ∧ v = .ref a
  | .obj _ _ _, _ => False
def ArgsOk (K : PySem.W.Frag) (src : Option (Addr × List Addr)) (F : Hp) : List SV → List V → Prop
  | [], vs => vs = []
  | s :: r, vs => ∃ (v : V) (t : List V), vs = v :: t ∧ ArgOk K src F s v ∧ ArgsOk K src F r t
def LA (Z : SrcK) (K : PySem.W.Frag) (E : L2.St → XK) (t : TA) (w : AW) : Prop :=
  ∀ (c : Cfg) (F H : Hp) (σ : L2.St) (ρ : Env) (Xd : XD) (Qd : List SV → Prop) (Qv : List V → Hp → Prop), EnvOk Z K c F H σ ρ → ELk Z K c F H E Xd → w Xd ρ Qd →
    (∀ ss vs F' H', Qd ss → EnvOk Z K c F' H' σ ρ → Same F F' → Kx c.fp F H F' H' → ArgsOk K c.src F' ss vs → Qv vs H') → t σ H Qv
def RepR (K : PySem.W.Frag) (F H0 H : Hp) : RV → V → Prop
  | .d x, v => Rep K F x v
  | .own xs, v => ∃ (a : Addr) (vs : List V), v = .ref a ∧ F a = none ∧ H0 a = none ∧ H a = some (.lst vs) ∧ RepL K F xs vs
structure EndsOk (Z : SrcK) (K : PySem.W.Frag) (c : Cfg) (F H : Hp) (DD : DEnds) (D : Ends) : Prop where
  nx : ∀ (σ : L2.St) (ρ : Env) (F' H' : Hp), DD.nx ρ → EnvOk Z K c F' H' σ ρ → Same F F' → Nx H H' → D.nx σ H'
  rt : ∀ (r : RV) (v : V) (σ : L2.St) (ρ : Env) (F' H' : Hp), DD.rt r → EnvOk Z K c F' H' σ ρ → Same F F' → RepR K F' c.H0 H' r v → D.rt v H'
  bk : ∀ (σ : L2.St) (ρ : Env) (F' H' : Hp), DD.bk ρ → EnvOk Z K c F' H' σ ρ → Same F F' → Nx H H' → D.bk σ H'
  ct : ∀ (σ : L2.St) (ρ : Env) (F' H' : Hp), DD.ct ρ → EnvOk Z K c F' H' σ ρ → Same F F' → Nx H H' → D.ct σ H'
theorem EndsOk.mono {Z : SrcK} {K : PySem.W.Frag} {c : Cfg} {F H F1 H1 : Hp} {DD : DEnds} {D : Ends} (h : EndsOk Z K c F H DD D) (e : Same F F1) (n : Nx H H1) : EndsOk Z K c F1 H1 DD D :=
  ⟨fun σ ρ F' H' a b s m => h.nx σ ρ F' H' a b (e.trans s) (n.trans m), fun r v σ ρ F' H' a b s m => h.rt r v σ ρ F' H' a b (e.trans s) m,
   fun σ ρ F' H' a b s m => h.bk σ ρ F' H' a b (e.trans s) (n.trans m), fun σ ρ F' H' a b s m => h.ct σ ρ F' H' a b (e.trans s) (n.trans m)⟩
def LS (Z : SrcK) (K : PySem.W.Frag) (E : L2.St → XK) (t : TS) (w : SW) : Prop :=
  ∀ (c : Cfg) (F H : Hp) (σ : L2.St) (ρ : Env) (Xd : XD) (DD : DEnds) (D : Ends), EnvOk Z K c F H σ ρ → ELk Z K c F H E Xd → w Xd DD ρ → EndsOk Z K c F H DD D → t D σ H

/-! ### the judgements -/
def DE (Z : SrcK) (X : Cx) (E : L2.St → XK) (e : Expr) (w : EW) : Prop := ∃ t, PE X e t ∧ LE Z X.K E t w
def DLs (Z : SrcK) (X : Cx) (E : L2.St → XK) (e : Expr) (w : LW) : Prop := ∃ t, PE X e t ∧ LL Z X.K E t w
def DT (Z : SrcK) (X : Cx) (E : L2.St → XK) (e : Expr) (w : TW) : Prop := ∃ t, PT X e t ∧ LT Z X.K E t w
def DA (Z : SrcK) (X : Cx) (E : L2.St → XK) (es : List Expr) (w : AW) : Prop := ∃ t, PA X es t ∧ LA Z X.K E t w
def DS (Z : SrcK) (X : Cx) (E : L2.St → XK) (st : Stmt) (w : SW) : Prop := ∃ t, PS X st t ∧ LS Z X.K E t w
def DSs (Z : SrcK) (X : Cx) (E : L2.St → XK) (st : List Stmt) (w : SW) : Prop := ∃ t, PSs X st t ∧ LS Z X.K E t w

section
variable {Z : SrcK} {X : Cx} {E : L2.St → XK} {K : PySem.W.Frag} {a b e : Expr} {wa wb wc : EW} {pos : Pos}
/-! ### expressions -/
theorem le_var {i : Nat} : LE Z K E (tVar i) (wVar i) := fun c F H σ ρ Xd Qd Qv e _ h q => by
  unfold wVar at h
  cases q1 : ρ[i]? with
  | none =>
    rw [q1] at h
    exact h.elim
  | some s =>
    rw [q1] at h
    cases s with
    | d x =>
      obtain ⟨o, h1, v, h2, h3⟩ := e.slot i _ q1
      subst h2
      exact ⟨v, h1, q x v F H h e (Same.refl _) (Kx.refl _ _ _) h3⟩
    | un => exact h.elim
    | own _ => exact h.elim
    | src => exact h.elim
    | obj _ _ _ => exact h.elim
theorem de_var (i : Nat) {x : Str} (hN : X.N[i]? = some x := by rfl) (hv : Vis X.env.scope x := by first | exact Or.inl rfl | exact Or.inr (Or.inl rfl) | exact Or.inr (Or.inr rfl)) (hd : (x == ("__debug__" : Str)) = false := by decide)
    (hcd : (x == ("__classdict__" : Str)) = false := by decide) : DE Z X E (.Name x pos) (wVar i) := ⟨_, pe_var hN hv hd hcd, le_var⟩
theorem le_c {x : D} {v : V} (h : ∀ F, Rep K F x v) : LE Z K E (tC v) (wC x) := fun c F H σ ρ Xd Qd Qv e _ k q => q x v F H k e (Same.refl _) (Kx.refl _ _ _) (h F)
theorem de_int {i : Int} {j : Nat} : DE Z X E (.Constant (.int i) j pos) (wC (.int i)) := ⟨_, pe_int, le_c fun _ => rfl⟩
theorem de_bl {i : Bool} {j : Nat} : DE Z X E (.Constant (.bool i) j pos) (wC (.bl i)) := ⟨_, pe_bl, le_c fun _ => rfl⟩
theorem de_non {j : Nat} : DE Z X E (.Constant .none j pos) (wC .non) := ⟨_, pe_non, le_c fun _ => rfl⟩
theorem de_str {s : Str} {j : Nat} : DE Z X E (.Constant (.str s) j pos) (wC (.str s)) := ⟨_, pe_str, le_c fun _ => rfl⟩
/-- a constant of the module -/
theorem de_glob {x : Str} {d : D} {v : V} {u : Value} (r0 : ∀ F, Rep X.K F d v) (hm : X.mg x = some u) (r : RelV v u) (hg : Gl X x := by rfl) (hd : (x == ("__debug__" : Str)) = false := by decide) : DE Z X E (.Name x pos) (wC d) :=
  ⟨_, pe_glob hg hm r hd, le_c r0⟩
/-- two operands -/
def LOp (K : PySem.W.Frag) (r : R2) (o : Op2) : Prop := ∀ (F H : Hp) (dx dy : D) (vx vy : V) (Qd : D → Prop) (Qv : VK), Same F H → Rep K F dx vx → Rep K F dy vy → o dx dy Qd →
  (∀ d v F' H', Qd d → Ext F H F' H' → Rep K F' d v → Qv v H') → r vx vy H Qv
def LUn (K : PySem.W.Frag) (r : V → Hp → VK → Prop) (o : Op1) : Prop := ∀ (F H : Hp) (dx : D) (vx : V) (Qd : D → Prop) (Qv : VK), Same F H → Rep K F dx vx → o dx Qd →
  (∀ d v F' H', Qd d → Ext F H F' H' → Rep K F' d v → Qv v H') → r vx H Qv
theorem le_bin {r : R2} {o : Op2} {ta tb : TE} (ho : LOp K r o) (ha : LE Z K E ta wa) (hb : LE Z K E tb wb) : LE Z K E (tOp r ta tb) (wBin o wa wb) := fun c F H σ ρ Xd Qd Qv e l h q => by
  refine ha c F H σ ρ Xd _ _ e l h fun dx vx F1 H1 h1 e1 s1 n1 r1 => ?_
  refine hb c F1 H1 σ ρ Xd _ _ e1 (l.mono s1 n1.nx) h1 fun dy vy F2 H2 h2 e2 s2 n2 r2 => ?_
  refine ho F2 H2 dx dy vx vy _ _ e2.fh (Rep.mono s2 _ _ r1) r2 h2 fun d v F3 H3 h3 x3 r3 => ?_
  exact q d v F3 H3 h3 (e2.ext x3) ((s1.trans s2).trans x3.ff) ((n1.trans n2).trans x3.kx) r3
theorem le_un {r : V → Hp → VK → Prop} {o : Op1} {ta : TE} (ho : LUn K r o) (ha : LE Z K E ta wa) : LE Z K E (tUn r ta) (wUn o wa) := fun c F H σ ρ Xd Qd Qv e l h q => by
  refine ha c F H σ ρ Xd _ _ e l h fun dx vx F1 H1 h1 e1 s1 n1 r1 => ?_
  refine ho F1 H1 dx vx _ _ e1.fh r1 h1 fun d v F3 H3 h3 x3 r3 => ?_
  exact q d v F3 H3 h3 (e1.ext x3) (s1.trans x3.ff) (n1.trans x3.kx) r3
theorem LOp.or {r r' : R2} {o o' : Op2} (h : LOp K r o) (h' : LOp K r' o') : LOp K (fun x y H Q => r x y H Q ∨ r' x y H Q) (fun x y Q => o x y Q ∨ o' x y Q) := fun F H dx dy vx vy Qd Qv s rx ry z q =>
  z.elim (fun z => .inl (h F H dx dy vx vy Qd Qv s rx ry z q)) fun z => .inr (h' F H dx dy vx vy Qd Qv s rx ry z q)
theorem LOp.imp {r : R2} {o o' : Op2} (h : LOp K r o) (i : ∀ x y Q, o' x y Q → o x y Q) : LOp K r o' := fun F H dx dy vx vy Qd Qv s rx ry z q => h F H dx dy vx vy Qd Qv s rx ry (i _ _ _ z) q
theorem de_bin {op : Operator} {r : R2} {o : Op2} (ho : OpR X (binaryOp op) r) (hl : LOp X.K r o) (ha : DE Z X E a wa) (hb : DE Z X E b wb) : DE Z X E (.BinOp a op b pos) (wBin o wa wb) := by
  obtain ⟨ta, pa, la⟩ := ha
  obtain ⟨tb, pb, lb⟩ := hb
  exact ⟨_, pe_op ho pa pb, le_bin hl la lb⟩
theorem de_un {op : UnaryOp} {r : V → Hp → VK → Prop} {o : Op1} (ho : UnR X (unaryOp op) r) (hl : LUn X.K r o) (ha : DE Z X E a wa) : DE Z X E (.UnaryOp op a pos) (wUn o wa) := by
  obtain ⟨ta, pa, la⟩ := ha
  exact ⟨_, pe_un ho pa, le_un hl la⟩
theorem de_cmp {op : CmpOp} {r : R2} {o : Op2} (ho : OpR X (compareOp op) r) (hl : LOp X.K r o) (ha : DE Z X E a wa) (hb : DE Z X E b wb) (hm : behindInMarks op b = false) : DE Z X E (.Compare a [op] [b] pos) (wBin o wa wb) := by
  obtain ⟨ta, pa, la⟩ := ha
  obtain ⟨tb, pb, lb⟩ := hb
  exact ⟨_, pe_cmpR ho pa pb hm, le_bin hl la lb⟩
theorem lt_test {t : TE} {w : EW} (h : LE Z K E t w) : LT Z K E (tTest t) (tB w) := fun c F H σ ρ Xd Qd Qv e l k q => by
  refine h c F H σ ρ Xd _ _ e l k fun d v F1 H1 h1 e1 s1 n1 r1 => ?_
  cases d with
  | bl y =>
    have r1 : v = .bl y := r1
    exact ⟨y, r1, q y F1 H1 h1 e1 s1 n1⟩
  | non => exact h1.elim
  | int _ => exact h1.elim
  | str _ => exact h1.elim
  | tup _ => exact h1.elim
  | lst _ => exact h1.elim
  | ins _ _ _ => exact h1.elim
theorem dt_cmp {op : CmpOp} {r : R2} {o : Op2} (ho : OpR X (compareOp op) r) (hl : LOp X.K r o) (ha : DE Z X E a wa) (hb : DE Z X E b wb) (hm : behindInMarks op b = false) : DT Z X E (.Compare a [op] [b] pos) (tB (wBin o wa wb)) := by
  obtain ⟨ta, pa, la⟩ := ha
  obtain ⟨tb, pb, lb⟩ := hb
  exact ⟨_, pt_cmpR ho pa pb hm, lt_test (le_bin hl la lb)⟩
theorem dt_val {w : EW} (h : DE Z X E e w) (he : ∀ whole, isTrue e X.env whole = (do let v ← whole; standAt e.pos; holding [v] (truthy v)) := by intro _; rfl) : DT Z X E e (tB w) := by
  obtain ⟨t, p, l⟩ := h
  exact ⟨_, pt_val p he, lt_test l⟩
theorem dt_not {w : TW} (h : DT Z X E a w) : DT Z X E (.UnaryOp .Not a pos) (tNotW w) := by
  obtain ⟨t, p, l⟩ := h
  exact ⟨_, pt_not p, fun c F H σ ρ Xd Qd Qv e k z q => l c F H σ ρ Xd _ _ e k z fun b F1 H1 h1 e1 s1 n1 => q _ F1 H1 h1 e1 s1 n1⟩
/-- chains of and, or -/
def DW (Z : SrcK) (X : Cx) (E : L2.St → XK) (e : Expr) (w : TW) : Prop := ∃ t, PW X e t ∧ LT Z X.K E t w
theorem DW.dt {w : TW} (h : DW Z X E e w) : DT Z X E e w := by
  obtain ⟨t, p, l⟩ := h
  exact ⟨t, p.pt, l⟩
theorem lt_and {t u : TT} {w v : TW} (h : LT Z K E t w) (k : LT Z K E u v) : LT Z K E (tAnd t u) (tAndW w v) := fun c F H σ ρ Xd Qd Qv e l z q => by
  refine h c F H σ ρ Xd _ _ e l z fun b F1 H1 h1 e1 s1 n1 => ?_
  cases b with
  | true => exact k c F1 H1 σ ρ Xd _ _ e1 (l.mono s1 n1.nx) h1 fun b F2 H2 h2 e2 s2 n2 => q b F2 H2 h2 e2 (s1.trans s2) (n1.trans n2)
  | false => exact q false F1 H1 h1 e1 s1 n1
theorem lt_or {t u : TT} {w v : TW} (h : LT Z K E t w) (k : LT Z K E u v) : LT Z K E (tOr t u) (tOrW w v) := fun c F H σ ρ Xd Qd Qv e l z q => by
  refine h c F H σ ρ Xd _ _ e l z fun b F1 H1 h1 e1 s1 n1 => ?_
  cases b with
  | false => exact k c F1 H1 σ ρ Xd _ _ e1 (l.mono s1 n1.nx) h1 fun b F2 H2 h2 e2 s2 n2 => q b F2 H2 h2 e2 (s1.trans s2) (n1.trans n2)
  | true => exact q true F1 H1 h1 e1 s1 n1
variable {rest : List Expr}
theorem dw_and1 {w : TW} (h : DT Z X E a w) : DW Z X E (.BoolOp .And [a] pos) w := by
  obtain ⟨t, p, l⟩ := h
  exact ⟨t, pw_and1 p, l⟩
theorem dw_or1 {w : TW} (h : DT Z X E a w) : DW Z X E (.BoolOp .Or [a] pos) w := by
  obtain ⟨t, p, l⟩ := h
  exact ⟨t, pw_or1 p, l⟩
theorem dw_and {w v : TW} (h : DT Z X E a w) (k : DW Z X E (.BoolOp .And (b :: rest) pos) v) : DW Z X E (.BoolOp .And (a :: b :: rest) pos) (tAndW w v) := by
  obtain ⟨t, p, l⟩ := h
  obtain ⟨u, p', l'⟩ := k
  exact ⟨_, pw_and p p', lt_and l l'⟩
theorem dw_or {w v : TW} (h : DT Z X E a w) (k : DW Z X E (.BoolOp .Or (b :: rest) pos) v) : DW Z X E (.BoolOp .Or (a :: b :: rest) pos) (tOrW w v) := by
  obtain ⟨t, p, l⟩ := h
  obtain ⟨u, p', l'⟩ := k
  exact ⟨_, pw_or p p', lt_or l l'⟩
/-- as values -/
theorem de_one {op : BoolOp} {w : EW} (h : DE Z X E a w) : DE Z X E (.BoolOp op [a] pos) w := by
  obtain ⟨t, p, l⟩ := h
  exact ⟨t, pe_one p, l⟩
theorem le_and {ta tb : TE} (h : LE Z K E ta wa) (k : LE Z K E tb wb) : LE Z K E (tAndV ta tb) (wAnd wa wb) := fun c F H σ ρ Xd Qd Qv e l z q => by
  refine h c F H σ ρ Xd _ _ e l z fun d v F1 H1 h1 e1 s1 n1 r1 => ?_
  cases d with
  | bl y =>
    have r1 : v = .bl y := r1
    refine ⟨y, r1, ?_⟩
    cases y with
    | true => exact k c F1 H1 σ ρ Xd _ _ e1 (l.mono s1 n1.nx) h1 fun b v F2 H2 h2 e2 s2 n2 r2 => q b v F2 H2 h2 e2 (s1.trans s2) (n1.trans n2) r2
    | false => exact q (.bl false) _ F1 H1 h1 e1 s1 n1 rfl
  | non => exact h1.elim
  | int _ => exact h1.elim
  | str _ => exact h1.elim
  | tup _ => exact h1.elim
  | lst _ => exact h1.elim
  | ins _ _ _ => exact h1.elim
theorem le_or {ta tb : TE} (h : LE Z K E ta wa) (k : LE Z K E tb wb) : LE Z K E (tOrV ta tb) (wOr wa wb) := fun c F H σ ρ Xd Qd Qv e l z q => by
  refine h c F H σ ρ Xd _ _ e l z fun d v F1 H1 h1 e1 s1 n1 r1 => ?_
  cases d with
  | bl y =>
    have r1 : v = .bl y := r1
    refine ⟨y, r1, ?_⟩
    cases y with
    | false => exact k c F1 H1 σ ρ Xd _ _ e1 (l.mono s1 n1.nx) h1 fun b v F2 H2 h2 e2 s2 n2 r2 => q b v F2 H2 h2 e2 (s1.trans s2) (n1.trans n2) r2
    | true => exact q (.bl true) _ F1 H1 h1 e1 s1 n1 rfl
  | non => exact h1.elim
  | int _ => exact h1.elim
  | str _ => exact h1.elim
  | tup _ => exact h1.elim
  | lst _ => exact h1.elim
  | ins _ _ _ => exact h1.elim
theorem de_and (h : DE Z X E a wa) (k : DE Z X E (.BoolOp .And (b :: rest) pos) wb) : DE Z X E (.BoolOp .And (a :: b :: rest) pos) (wAnd wa wb) := by
  obtain ⟨t, p, l⟩ := h
  obtain ⟨u, p', l'⟩ := k
  exact ⟨_, pe_and p p', le_and l l'⟩
theorem de_or (h : DE Z X E a wa) (k : DE Z X E (.BoolOp .Or (b :: rest) pos) wb) : DE Z X E (.BoolOp .Or (a :: b :: rest) pos) (wOr wa wb) := by
  obtain ⟨t, p, l⟩ := h
  obtain ⟨u, p', l'⟩ := k
  exact ⟨_, pe_or p p', le_or l l'⟩
theorem de_not (h : DE Z X E a wa) : DE Z X E (.UnaryOp .Not a pos) (wNot wa) := by
  obtain ⟨t, p, l⟩ := h
  refine ⟨_, pe_not p, fun c F H σ ρ Xd Qd Qv e k z q => ?_⟩
  refine l c F H σ ρ Xd _ _ e k z fun d v F1 H1 h1 e1 s1 n1 r1 => ?_
  cases d with
  | bl y =>
    have r1 : v = .bl y := r1
    exact ⟨y, r1, q _ _ F1 H1 h1 e1 s1 n1 rfl⟩
  | non => exact h1.elim
  | int _ => exact h1.elim
  | str _ => exact h1.elim
  | tup _ => exact h1.elim
  | lst _ => exact h1.elim
  | ins _ _ _ => exact h1.elim
theorem de_if {c : Expr} {w : TW} (hc : DT Z X E c w) (ha : DE Z X E a wa) (hb : DE Z X E b wb) : DE Z X E (.IfExp c a b pos) (wIf w wa wb) := by
  obtain ⟨t, p, l⟩ := hc
  obtain ⟨ta, p1, l1⟩ := ha
  obtain ⟨tb, p2, l2⟩ := hb
  refine ⟨_, pe_ifExp p p1 p2, fun c F H σ ρ Xd Qd Qv e k z q => ?_⟩
  refine l c F H σ ρ Xd _ _ e k z fun b F1 H1 h1 e1 s1 n1 => ?_
  cases b with
  | true => exact l1 c F1 H1 σ ρ Xd _ _ e1 (k.mono s1 n1.nx) h1 fun b v F2 H2 h2 e2 s2 n2 r2 => q b v F2 H2 h2 e2 (s1.trans s2) (n1.trans n2) r2
  | false => exact l2 c F1 H1 σ ρ Xd _ _ e1 (k.mono s1 n1.nx) h1 fun b v F2 H2 h2 e2 s2 n2 r2 => q b v F2 H2 h2 e2 (s1.trans s2) (n1.trans n2) r2
theorem le_is {t : TE} {w : EW} : LE Z K E t w → LE Z K E t w := id
end
end DL
set_option linter.all false
set_option autoImplicit false
set_option maxHeartbeats 2000000
/-! Operators, displays, subscripts, calls. -/
namespace DL
open PySem PySem.Spec PyProof.Rows L2

theorem sz {n : Nat} (h : n ≤ 100000) : n ≤ sizeLine := Nat.le_trans h (by decide)
theorem szlt {n : Nat} (h : n < 100000) : n < sizeLine := Nat.lt_of_lt_of_le h (by decide)
/-! ### what a reading of a value gives back -/
section
variable {K : PySem.W.Frag} {F H : Hp} {v : V}
theorem rep_tup {xs : List D} {a : Addr} {vs : List V} (h : SqT K F a vs) (r : RepL K F xs vs) : Rep K F (.tup xs) (.ref a) := ⟨a, vs, rfl, h, r⟩
theorem rep_lst {xs : List D} {a : Addr} {vs : List V} (h : SqL K F a vs) (r : RepL K F xs vs) : Rep K F (.lst xs) (.ref a) := ⟨a, vs, rfl, h, r⟩
/-- a new tuple | list of what is represented -/
theorem lay_tup {xs : List D} {vs : List V} {p : Addr} (h : Same F H) (r : RepL K F xs vs) (n : H p = none) : Ext F H (upd F p (.tup vs)) (upd H p (.tup vs)) ∧ Rep K (upd F p (.tup vs)) (.tup xs) (.ref p) := by
  have x := Ext.lay (o := .tup vs) h n
  exact ⟨x, p, vs, rfl, SqT.of upd_same, RepL.mono x.ff _ _ r⟩
theorem lay_lst {xs : List D} {vs : List V} {p : Addr} (h : Same F H) (r : RepL K F xs vs) (n : H p = none) : Ext F H (upd F p (.lst vs)) (upd H p (.lst vs)) ∧ Rep K (upd F p (.lst vs)) (.lst xs) (.ref p) := by
  have x := Ext.lay (o := .lst vs) h n
  exact ⟨x, p, vs, rfl, SqL.of upd_same, RepL.mono x.ff _ _ r⟩
end

/-! ### operators -/
section
variable {X : Cx} {K : PySem.W.Frag}
theorem lop_I {C : Int → Int → Prop} {g : Int → Int → Int} {o : Op2} (h : ∀ x y Q, o x y Q → ∃ i j, x = .int i ∧ y = .int j ∧ C i j ∧ Q (.int (g i j))) : LOp K (rI C fun i j => .int (g i j)) o := fun F H dx dy vx vy Qd Qv s rx ry z q => by
  obtain ⟨i, j, rfl, rfl, hc, hq⟩ := h _ _ _ z
  exact ⟨i, j, rx, ry, hc, q _ _ F H hq (Ext.refl s) rfl⟩
theorem lop_I0 {g : Int → Int → Int} {o : Op2} (h : ∀ x y Q, o x y Q → ∃ i j, x = .int i ∧ y = .int j ∧ Q (.int (g i j))) : LOp K (rI0 fun i j => .int (g i j)) o := fun F H dx dy vx vy Qd Qv s rx ry z q => by
  obtain ⟨i, j, rfl, rfl, hq⟩ := h _ _ _ z
  exact ⟨i, j, rx, ry, q _ _ F H hq (Ext.refl s) rfl⟩
theorem lop_B0 {g : Int → Int → Bool} {o : Op2} (h : ∀ x y Q, o x y Q → ∃ i j, x = .int i ∧ y = .int j ∧ Q (.bl (g i j))) : LOp K (rI0 fun i j => .bl (g i j)) o := fun F H dx dy vx vy Qd Qv s rx ry z q => by
  obtain ⟨i, j, rfl, rfl, hq⟩ := h _ _ _ z
  exact ⟨i, j, rx, ry, q _ _ F H hq (Ext.refl s) rfl⟩
theorem lop_sub : LOp K (rI0 fun i j => .int (i - j)) bSub := lop_I0 fun x y Q h => by
  unfold bSub at h
  split at h
  · exact ⟨_, _, rfl, rfl, h⟩
  · exact h.elim
theorem intBits_log (x : Int) : Builtin.Int.intBits x ≤ x.natAbs.log2 + 1 := by
  unfold Builtin.Int.intBits
  split <;> omega
theorem intBits_small {x : Int} (h : x.natAbs < 2 ^ 63) : Builtin.Int.intBits x ≤ 64 := by
  have a := intBits_log x
  have b : x.natAbs.log2 < 63 := PySem.Flt.log2_lt_of (by decide) h
  omega
theorem IMul.ok {i j : Int} (h : IMul i j) : IntMulOk i j := by
  rcases h with h | h | h
  · exact .of_left (intBits_small h)
  · exact .of_right (intBits_small h)
  · exact CMulW.ok h
theorem op_mulD : OpR X (binaryOp .Mult) (rI IMul fun i j => .int (i * j)) := opI fun _ _ _ _ _ _ _ hc q => mul_int q hc.ok
theorem lop_mul : LOp K (rI IMul fun i j => .int (i * j)) bMul := lop_I fun x y Q h => by
  unfold bMul at h
  split at h
  · exact ⟨_, _, rfl, rfl, h.1, h.2⟩
  · exact h.elim
theorem lop_fdiv : LOp K (rI CDivW fun i j => .int (i / j)) bFdiv := lop_I fun x y Q h => by
  unfold bFdiv at h
  split at h
  · exact ⟨_, _, rfl, rfl, h.1, h.2⟩
  · exact h.elim
theorem op_fdivNW : OpR X (binaryOp .FloorDiv) (rI (fun _ j => j ≠ 0 ∧ j.natAbs.log2 < 9000) fun i j => .int (i.fdiv j)) := opI fun i j _ _ _ _ _ hc q =>
  floordiv_int hc.1 q (.inl (PyProof.noPylong_of_log2 hc.2))
theorem lop_fdivN : LOp K (rI (fun _ j => j ≠ 0 ∧ j.natAbs.log2 < 9000) fun i j => .int (i.fdiv j)) bFdivN := lop_I fun x y Q h => by
  unfold bFdivN at h
  split at h
  · exact ⟨_, _, rfl, rfl, h.1, h.2⟩
  · exact h.elim
theorem lop_mod : LOp K (rI (fun _ j => 0 < j) fun i j => .int (i % j)) bMod := lop_I (C := fun _ j => 0 < j) fun x y Q h => by
  unfold bMod at h
  split at h
  · exact ⟨_, _, rfl, rfl, h.1, h.2⟩
  · exact h.elim
theorem lop_pow : LOp K (rI CPow fun i j => .int (i ^ j.toNat)) bPow := lop_I fun x y Q h => by
  unfold bPow at h
  split at h
  · exact ⟨_, _, rfl, rfl, h.1, h.2⟩
  · exact h.elim
theorem lop_lt : LOp K (rI0 fun i j => .bl (decide (i < j))) bLt := lop_B0 fun x y Q h => by
  unfold bLt at h
  split at h
  · exact ⟨_, _, rfl, rfl, h⟩
  · exact h.elim
theorem lop_le : LOp K (rI0 fun i j => .bl (decide (i ≤ j))) bLe := lop_B0 fun x y Q h => by
  unfold bLe at h
  split at h
  · exact ⟨_, _, rfl, rfl, h⟩
  · exact h.elim
theorem lop_gt : LOp K (rI0 fun i j => .bl (decide (j < i))) bGt := lop_B0 fun x y Q h => by
  unfold bGt at h
  split at h
  · exact ⟨_, _, rfl, rfl, h⟩
  · exact h.elim
theorem lop_ge : LOp K (rI0 fun i j => .bl (decide (j ≤ i))) bGe := lop_B0 fun x y Q h => by
  unfold bGe at h
  split at h
  · exact ⟨_, _, rfl, rfl, h⟩
  · exact h.elim
theorem lun_neg : LUn K (rU fun i => .int (-i)) bNeg := fun F H dx vx Qd Qv s rx z q => by
  unfold bNeg at z
  split at z
  · exact ⟨_, rx, q _ _ F H z (Ext.refl s) rfl⟩
  · exact z.elim
/-- + of ints, texts, tuples, lists -/
def rAddS : R2 := fun x y H Q => ∃ i j, x = .str i ∧ y = .str j ∧ i.length + j.length ≤ sizeLine ∧ Q (.str (i ++ j)) H
theorem op_addS : OpR X (binaryOp .Add) rAddS := op_add_str
def rCatR (K : PySem.W.Frag) : R2 := fun x y H Q => ∃ l b xs zs, x = .ref l ∧ y = .ref b ∧ SqL K H l xs ∧ SqL K H b zs ∧ xs.length + zs.length ≤ sizeLine ∧ ∀ p, H p = none → Q (.ref p) (upd H p (.lst (xs ++ zs)))
section
variable {l b : Addr} {us ws : Array Value} {n m : Nat} {s1 s2 : Array (Option Value)}
/-- two lists as they stand -/
def Two (l b : Addr) (us ws : Array Value) (n m : Nat) (s1 s2 : Array (Option Value)) (h : Heap) : Prop := h.get? l = some ⟨.type "list", none, .seq us n, s1⟩ ∧ h.get? b = some ⟨.type "list", none, .seq ws m, s2⟩
theorem meets_cat (hz : us.size + ws.size ≤ sizeLine) : Meets (Builtin.«list.__add__» ⟨[.ref l, .ref b], []⟩) (fun _ R s => Two l b us ws n m s1 s2 s.heap ∧ R (.ok (.ret (Value.ref s.heap.objs.size))) { s with heap := s.heap.push { cls := Value.type "list", data := Data.seq (us ++ ws) } }) :=
  .of_wp fun prog w A R s h => by
    obtain ⟨hp, g, d, tk, os⟩ := s
    obtain ⟨⟨hl, hb⟩, h⟩ := h
    have f3 := sub_list_list
    have f5 := sub_list_tuple
    wp_walk using wpAny_loadPart' hl, wpAny_loadPart' hb
    exact ⟨_, rfl, h⟩
end
theorem plain_obj {h : Heap} {a : Addr} {its : Array Value} (p : PlainL h a its) : ∃ n sl, h.get? a = some ⟨.type "list", none, .seq its n, sl⟩ := by
  obtain ⟨o, n, e, e1, e2, e3⟩ := p
  obtain ⟨oc, od, oda, osl⟩ := o
  cases e1
  cases e2
  cases e3
  exact ⟨n, osl, e⟩
theorem op_catR : OpR X (binaryOp .Add) (rCatR X.K) := by
  intro pins s σ H x y v u Q I rx ry h
  obtain ⟨l, b, xs, zs, rfl, rfl, hH, hB, hz, q⟩ := h
  cases rx
  cases ry
  obtain ⟨its, r, pl, z⟩ := I.list hH
  obtain ⟨its2, r2, pl2, z2⟩ := I.list hB
  obtain ⟨n, sl, e⟩ := plain_obj pl
  obtain ⟨n2, sl2, e2⟩ := plain_obj pl2
  have hl := r.length
  have hl2 := r2.length
  have hzz : its.toArray.size + its2.toArray.size ≤ sizeLine := by rw [List.size_toArray, List.size_toArray]; omega
  refine PySem.concat_meets ⟨_, e, rfl⟩ ⟨_, e2, rfl⟩ PySem.noFill_list_add PySem.seq_list_add F.slot_list_add F.entry_list_add (F.args_list_add_2 _ _) (meets_cat hzz) ⟨⟨e, e2⟩, ?_⟩
  have ea : its.toArray ++ its2.toArray = (its ++ its2).toArray := by simp
  rw [ea]
  exact ⟨.ref _, _, I.lnew (t' := s.toks) (r.append r2) (by rw [List.length_append]; omega), rfl, q _ I.fresh⟩
def rAddD (K : PySem.W.Frag) : R2 := fun x y H Q => (rI0 fun i j => .int (i + j)) x y H Q ∨ rAddS x y H Q ∨ rCatA K x y H Q ∨ rCatR K x y H Q
theorem op_addD : OpR X (binaryOp .Add) (rAddD X.K) := op_add.or (op_addS.or (op_catA.or op_catR))
theorem lop_add : LOp K (rAddD K) bAdd := fun F H dx dy vx vy Qd Qv s rx ry z q => by
  unfold bAdd at z
  split at z
  · exact .inl ⟨_, _, rx, ry, q _ _ F H z (Ext.refl s) rfl⟩
  · exact .inr (.inl ⟨_, _, rx, ry, sz z.1, q _ _ F H z.2 (Ext.refl s) rfl⟩)
  · rename_i xs ys
    obtain ⟨a, vs, rfl, ha, ra⟩ := rx
    obtain ⟨b, ws, rfl, hb, rb⟩ := ry
    have hl : vs.length + ws.length ≤ sizeLine := by rw [ra.len, rb.len]; exact sz z.1
    refine .inr (.inr (.inl ⟨a, b, vs, ws, rfl, rfl, same_t s ha, same_t s hb, hl, fun e => ?_, fun _ e => ?_, fun _ _ p hp => ?_⟩))
    · subst e
      have e2 : xs = [] := List.eq_nil_of_length_eq_zero (by rw [← ra.len]; rfl)
      subst e2
      exact q _ _ F H z.2 (Ext.refl s) (rep_tup hb rb)
    · subst e
      have e2 : ys = [] := List.eq_nil_of_length_eq_zero (by rw [← rb.len]; rfl)
      subst e2
      refine q _ _ F H z.2 (Ext.refl s) ?_
      rw [List.append_nil]
      exact rep_tup ha ra
    · obtain ⟨x, r⟩ := lay_tup s (ra.app rb) hp
      exact q _ _ _ _ z.2 x r
  · rename_i xs ys
    obtain ⟨a, vs, rfl, ha, ra⟩ := rx
    obtain ⟨b, ws, rfl, hb, rb⟩ := ry
    refine .inr (.inr (.inr ⟨a, b, vs, ws, rfl, rfl, same_l s ha, same_l s hb, by rw [ra.len, rb.len]; exact sz z.1, fun p hp => ?_⟩))
    obtain ⟨x, r⟩ := lay_lst s (ra.app rb) hp
    exact q _ _ _ _ z.2 x r
  · exact z.elim

/-! ### == -/
mutual
theorem rep_dp {F H : Hp} (e : Same F H) : ∀ (n : Nat) (d : D) (v : V), plain n d = true → Rep K F d v → Dp K H v (toPy d)
  | 0, _, _, h, _ => by
    simp [plain] at h
  | n + 1, .non, v, _, r => by
    have r : v = .non := r
    subst r
    exact .non
  | n + 1, .bl b, v, _, r => by
    have r : v = .bl b := r
    subst r
    exact .bl b
  | n + 1, .int b, v, _, r => by
    have r : v = .int b := r
    subst r
    exact .int b
  | n + 1, .str b, v, _, r => by
    have r : v = .str b := r
    subst r
    exact .str b
  | n + 1, .tup xs, v, h, r => by
    obtain ⟨a, vs, e1, e2, e3⟩ := r
    subst e1
    have h : plainL n xs = true := by
      simp only [plain] at h
      exact h
    exact .tup (same_t e e2) (repL_dp e n xs vs h e3)
  | n + 1, .lst xs, v, h, r => by
    obtain ⟨a, vs, e1, e2, e3⟩ := r
    subst e1
    have h : plainL n xs = true := by
      simp only [plain] at h
      exact h
    exact .lst (same_l e e2) (repL_dp e n xs vs h e3)
  | n + 1, .ins C ns xs, _, h, _ => by
    simp [plain] at h
theorem repL_dp {F H : Hp} (e : Same F H) : ∀ (n : Nat) (ds : List D) (vs : List V), plainL n ds = true → RepL K F ds vs → DpAll K H vs (toPyL ds)
  | _, [], vs, _, r => by
    have r : vs = [] := r
    subst r
    exact .nil
  | n, x :: xs, vs, h, r => by
    obtain ⟨v, t, e1, e2, e3⟩ := r
    subst e1
    simp only [plainL, Bool.and_eq_true] at h
    exact .cons (rep_dp e n x v h.1 e2) (repL_dp e n xs t h.2 e3)
end
mutual
theorem plain_lay : ∀ (n : Nat) (d : D), plain n d = true → (toPy d).canLay0 = true ∧ (toPy d).depth ≤ n
  | 0, _, h => by
    simp [plain] at h
  | n + 1, .non, _ => by simp [toPy, PyData.canLay0, PyData.depth]
  | n + 1, .bl b, _ => by simp [toPy, PyData.canLay0, PyData.depth]
  | n + 1, .int b, _ => by simp [toPy, PyData.canLay0, PyData.depth]
  | n + 1, .str b, h => by
    simp only [plain] at h
    simp [toPy, PyData.canLay0, PyData.depth, h]
  | n + 1, .tup xs, h => by
    simp only [plain] at h
    have q := plainL_lay n xs h
    simp only [toPy, PyData.canLay0, PyData.depth]
    exact ⟨q.1, by omega⟩
  | n + 1, .lst xs, h => by
    simp only [plain] at h
    have q := plainL_lay n xs h
    simp only [toPy, PyData.canLay0, PyData.depth]
    exact ⟨q.1, by omega⟩
  | n + 1, .ins C ns xs, h => by
    simp [plain] at h
theorem plainL_lay : ∀ (n : Nat) (ds : List D), plainL n ds = true → PyData.canLayAll0 (toPyL ds) = true ∧ PyData.depthAll (toPyL ds) ≤ n
  | n, [], _ => by simp [toPyL, PyData.canLayAll0, PyData.depthAll]
  | n, x :: xs, h => by
    simp only [plainL, Bool.and_eq_true] at h
    have q1 := plain_lay n x h.1
    have q2 := plainL_lay n xs h.2
    simp only [toPyL, PyData.canLayAll0, PyData.depthAll, Bool.and_eq_true]
    exact ⟨⟨q1.1, q2.1⟩, by omega⟩
end
theorem plain_shaped {d : D} (h : plain 40 d = true) : SeqAt.shaped (toPy d) = true := by
  obtain ⟨a, b⟩ := plain_lay 40 d h
  unfold SeqAt.shaped
  rw [a, decide_eq_true (Nat.le_trans b (by decide))]
  rfl
mutual
theorem eqv_peq : ∀ (n : Nat) (d e : D), plain n d = true → plain n e = true → PyData.eqv (toPy d) (toPy e) = peq d e
  | 0, _, _, h, _ => by simp [plain] at h
  | n + 1, .tup xs, .tup ys, h, k => by
    simp only [plain] at h k
    simp only [toPy, PyData.eqv, peq]
    exact eqv_peqL n xs ys h k
  | n + 1, .lst xs, .lst ys, h, k => by
    simp only [plain] at h k
    simp only [toPy, PyData.eqv, peq]
    exact eqv_peqL n xs ys h k
  | n + 1, .ins _ _ _, _, h, _ => by simp [plain] at h
  | n + 1, .non, e, h, k => by cases e <;> simp_all [toPy, PyData.eqv, peq, plain]
  | n + 1, .bl b, e, h, k => by cases e <;> simp_all [toPy, PyData.eqv, peq, plain]
  | n + 1, .int b, e, h, k => by cases e <;> simp_all [toPy, PyData.eqv, peq, plain]
  | n + 1, .str b, e, h, k => by cases e <;> simp_all [toPy, PyData.eqv, peq, plain]
  | n + 1, .tup xs, .non, h, k => by simp [toPy, PyData.eqv, peq]
  | n + 1, .tup xs, .bl _, h, k => by simp [toPy, PyData.eqv, peq]
  | n + 1, .tup xs, .int _, h, k => by simp [toPy, PyData.eqv, peq]
  | n + 1, .tup xs, .str _, h, k => by simp [toPy, PyData.eqv, peq]
  | n + 1, .tup xs, .lst _, h, k => by simp [toPy, PyData.eqv, peq]
  | n + 1, .tup xs, .ins _ _ _, h, k => by simp [plain] at k
  | n + 1, .lst xs, .non, h, k => by simp [toPy, PyData.eqv, peq]
  | n + 1, .lst xs, .bl _, h, k => by simp [toPy, PyData.eqv, peq]
  | n + 1, .lst xs, .int _, h, k => by simp [toPy, PyData.eqv, peq]
  | n + 1, .lst xs, .str _, h, k => by simp [toPy, PyData.eqv, peq]
  | n + 1, .lst xs, .tup _, h, k => by simp [toPy, PyData.eqv, peq]
  | n + 1, .lst xs, .ins _ _ _, h, k => by simp [plain] at k
theorem eqv_peqL : ∀ (n : Nat) (d e : List D), plainL n d = true → plainL n e = true → PyData.eqvAll (toPyL d) (toPyL e) = peqL d e
  | n, [], [], _, _ => by simp [toPyL, PyData.eqvAll, peqL]
  | n, [], y :: ys, _, _ => by simp [toPyL, PyData.eqvAll, peqL]
  | n, x :: xs, [], _, _ => by simp [toPyL, PyData.eqvAll, peqL]
  | n, x :: xs, y :: ys, h, k => by
    simp only [plainL, Bool.and_eq_true] at h k
    simp only [toPyL, PyData.eqvAll, peqL]
    rw [eqv_peq n x y h.1 k.1, eqv_peqL n xs ys h.2 k.2]
end
theorem lop_eq : LOp K (rEqD K) bEq := fun F H dx dy vx vy Qd Qv s rx ry z q => by
  obtain ⟨h1, h2, h3⟩ := z
  refine ⟨toPy dx, toPy dy, rep_dp s _ _ _ h1 rx, rep_dp s _ _ _ h2 ry, plain_shaped h1, plain_shaped h2, ?_⟩
  rw [eqv_peq _ _ _ h1 h2]
  exact q _ _ F H h3 (Ext.refl s) rfl
theorem lop_ne : LOp K (rNeD K) bNe := fun F H dx dy vx vy Qd Qv s rx ry z q => by
  obtain ⟨h1, h2, h3⟩ := z
  refine ⟨toPy dx, toPy dy, rep_dp s _ _ _ h1 rx, rep_dp s _ _ _ h2 ry, plain_shaped h1, plain_shaped h2, ?_⟩
  rw [eqv_peq _ _ _ h1 h2]
  exact q _ _ F H h3 (Ext.refl s) rfl
end
end DL
set_option linter.all false
set_option autoImplicit false
set_option maxHeartbeats 2000000
/-! Subscripts, arguments, displays, built-ins, calls. -/
namespace DL
open PySem PySem.Spec PyProof.Rows L2

section
variable {Z : SrcK} {X : Cx} {E : L2.St → XK} {K : PySem.W.Frag} {a b e : Expr} {wa wb wc : EW} {pos : Pos}
/-! ### is None, is True -/
theorem lun_isN {ta : TE} (ha : LE Z K E ta wa) : LE Z K E (tOp (fun x y H Q => y = .non ∧ Q (.bl (decide (x = .non))) H) ta (tC .non)) (wUn bIsN wa) := fun c F H σ ρ Xd Qd Qv e l h q => by
  refine ha c F H σ ρ Xd _ _ e l h fun d v F1 H1 h1 e1 s1 n1 r1 => ⟨rfl, ?_⟩
  cases d with
  | non =>
    have r1 : v = .non := r1
    subst r1
    exact q _ _ F1 H1 h1 e1 s1 n1 rfl
  | bl _ => (have r1 : v = _ := r1); subst r1; exact q _ _ F1 H1 h1 e1 s1 n1 rfl
  | int _ => (have r1 : v = _ := r1); subst r1; exact q _ _ F1 H1 h1 e1 s1 n1 rfl
  | str _ => (have r1 : v = _ := r1); subst r1; exact q _ _ F1 H1 h1 e1 s1 n1 rfl
  | tup _ => obtain ⟨_, _, r1, _⟩ := r1; subst r1; exact q _ _ F1 H1 h1 e1 s1 n1 rfl
  | lst _ => obtain ⟨_, _, r1, _⟩ := r1; subst r1; exact q _ _ F1 H1 h1 e1 s1 n1 rfl
  | ins _ _ _ => obtain ⟨_, _, _, r1, _⟩ := r1; subst r1; exact q _ _ F1 H1 h1 e1 s1 n1 rfl
theorem lun_notN {ta : TE} (ha : LE Z K E ta wa) : LE Z K E (tOp (fun x y H Q => y = .non ∧ Q (.bl (!decide (x = .non))) H) ta (tC .non)) (wUn bNotN wa) := fun c F H σ ρ Xd Qd Qv e l h q => by
  refine ha c F H σ ρ Xd _ _ e l h fun d v F1 H1 h1 e1 s1 n1 r1 => ⟨rfl, ?_⟩
  cases d with
  | non =>
    have r1 : v = .non := r1
    subst r1
    exact q _ _ F1 H1 h1 e1 s1 n1 rfl
  | bl _ => (have r1 : v = _ := r1); subst r1; exact q _ _ F1 H1 h1 e1 s1 n1 rfl
  | int _ => (have r1 : v = _ := r1); subst r1; exact q _ _ F1 H1 h1 e1 s1 n1 rfl
  | str _ => (have r1 : v = _ := r1); subst r1; exact q _ _ F1 H1 h1 e1 s1 n1 rfl
  | tup _ => obtain ⟨_, _, r1, _⟩ := r1; subst r1; exact q _ _ F1 H1 h1 e1 s1 n1 rfl
  | lst _ => obtain ⟨_, _, r1, _⟩ := r1; subst r1; exact q _ _ F1 H1 h1 e1 s1 n1 rfl
  | ins _ _ _ => obtain ⟨_, _, _, r1, _⟩ := r1; subst r1; exact q _ _ F1 H1 h1 e1 s1 n1 rfl
theorem de_isN {j : Nat} {p : Pos} (ha : DE Z X E a wa) : DE Z X E (.Compare a [.Is] [.Constant .none j p] pos) (wUn bIsN wa) := by
  obtain ⟨t, p, l⟩ := ha
  exact ⟨_, pe_cmpR op_isN p pe_non (nomark _), lun_isN l⟩
theorem de_notN {j : Nat} {p : Pos} (ha : DE Z X E a wa) : DE Z X E (.Compare a [.IsNot] [.Constant .none j p] pos) (wUn bNotN wa) := by
  obtain ⟨t, p, l⟩ := ha
  exact ⟨_, pe_cmpR op_notN p pe_non (nomark _), lun_notN l⟩
theorem dt_isN {j : Nat} {p : Pos} (ha : DE Z X E a wa) : DT Z X E (.Compare a [.Is] [.Constant .none j p] pos) (tB (wUn bIsN wa)) := by
  obtain ⟨t, p, l⟩ := ha
  exact ⟨_, pt_cmpR op_isN p pe_non (nomark _), lt_test (lun_isN l)⟩
theorem dt_notN {j : Nat} {p : Pos} (ha : DE Z X E a wa) : DT Z X E (.Compare a [.IsNot] [.Constant .none j p] pos) (tB (wUn bNotN wa)) := by
  obtain ⟨t, p, l⟩ := ha
  exact ⟨_, pt_cmpR op_notN p pe_non (nomark _), lt_test (lun_notN l)⟩
theorem lop_is : LOp K (fun x y H Q => ∃ a b, x = .bl a ∧ y = .bl b ∧ Q (.bl (decide (a = b))) H) bIs := fun F H dx dy vx vy Qd Qv s rx ry z q => by
  unfold bIs at z
  split at z
  · exact ⟨_, _, rx, ry, q _ _ F H z (Ext.refl s) rfl⟩
  · exact z.elim
theorem lop_isNot : LOp K (fun x y H Q => ∃ a b, x = .bl a ∧ y = .bl b ∧ Q (.bl (!decide (a = b))) H) bIsNot := fun F H dx dy vx vy Qd Qv s rx ry z q => by
  unfold bIsNot at z
  split at z
  · exact ⟨_, _, rx, ry, q _ _ F H z (Ext.refl s) rfl⟩
  · exact z.elim

/-! ### chains -/
theorem le_chain {r r' : R2} {o o' : Op2} {ta tb tc : TE} (ho : LOp K r o) (ho' : LOp K r' o') (ha : LE Z K E ta wa) (hb : LE Z K E tb wb) (hc : LE Z K E tc wc) : LE Z K E (tChain r r' ta tb tc) (wChain o o' wa wb wc) := fun c F H σ ρ Xd Qd Qv e l h q => by
  refine ha c F H σ ρ Xd _ _ e l h fun dx vx F1 H1 h1 e1 s1 n1 r1 => ?_
  refine hb c F1 H1 σ ρ Xd _ _ e1 (l.mono s1 n1.nx) h1 fun dy vy F2 H2 h2 e2 s2 n2 r2 => ?_
  refine ho F2 H2 dx dy vx vy _ _ e2.fh (Rep.mono s2 _ _ r1) r2 h2 fun d v F3 H3 h3 x3 r3 => ?_
  cases d with
  | bl k =>
    refine ⟨k, r3, ?_⟩
    have e3 := e2.ext x3
    have s3 := (s1.trans s2).trans x3.ff
    have n3 := (n1.trans n2).trans x3.kx
    cases k with
    | true =>
      have h3 : wc Xd ρ fun u => o' dy u Qd := h3
      rw [if_pos rfl]
      refine hc c F3 H3 σ ρ Xd _ _ e3 (l.mono s3 n3.nx) h3 fun dz vz F4 H4 h4 e4 s4 n4 r4 => ?_
      refine ho' F4 H4 dy dz vy vz _ _ e4.fh (Rep.mono (x3.ff.trans s4) _ _ r2) r4 h4 fun d v F5 H5 h5 x5 r5 => ?_
      exact q d v F5 H5 h5 (e4.ext x5) ((s3.trans s4).trans x5.ff) ((n3.trans n4).trans x5.kx) r5
    | false =>
      exact q _ _ F3 H3 h3 e3 s3 n3 rfl
  | non => exact h3.elim
  | int _ => exact h3.elim
  | str _ => exact h3.elim
  | tup _ => exact h3.elim
  | lst _ => exact h3.elim
  | ins _ _ _ => exact h3.elim
theorem lt_chain {r r' : R2} {o o' : Op2} {ta tb tc : TE} (ho : LOp K r o) (ho' : LOp K r' o') (ha : LE Z K E ta wa) (hb : LE Z K E tb wb) (hc : LE Z K E tc wc) : LT Z K E (tTest (tChain r r' ta tb tc)) (tB (wChain o o' wa wb wc)) := lt_test (le_chain ho ho' ha hb hc)
theorem dt_chain {c : Expr} {op op' : CmpOp} {r r' : R2} {o o' : Op2} (ho : OpR X (compareOp op) r) (ho' : OpR X (compareOp op') r') (hl : LOp X.K r o) (hl' : LOp X.K r' o') (ha : DE Z X E a wa) (hb : DE Z X E b wb) (hc : DE Z X E c wc)
    (hm : lastMarks [op, op'] [b, c] = false := by with_unfolding_all rfl) : DT Z X E (.Compare a [op, op'] [b, c] pos) (tB (wChain o o' wa wb wc)) := by
  obtain ⟨ta, pa, la⟩ := ha
  obtain ⟨tb, pb, lb⟩ := hb
  obtain ⟨tc, pc, lc⟩ := hc
  exact ⟨_, pt_chain ho ho' pa pb pc hm, lt_chain hl hl' la lb lc⟩
theorem de_chain {c : Expr} {op op' : CmpOp} {r r' : R2} {o o' : Op2} (ho : OpR X (compareOp op) r) (ho' : OpR X (compareOp op') r') (hl : LOp X.K r o) (hl' : LOp X.K r' o') (ha : DE Z X E a wa) (hb : DE Z X E b wb) (hc : DE Z X E c wc)
    (hm : lastMarks [op, op'] [b, c] = false := by with_unfolding_all rfl) : DE Z X E (.Compare a [op, op'] [b, c] pos) (wChain o o' wa wb wc) := by
  obtain ⟨ta, pa, la⟩ := ha
  obtain ⟨tb, pb, lb⟩ := hb
  obtain ⟨tc, pc, lc⟩ := hc
  exact ⟨_, pe_chain ho ho' pa pb pc hm, le_chain hl hl' la lb lc⟩

/-! ### subscripts -/
theorem atI_rep {F : Hp} {xs : List D} {vs : List V} {i : Int} {d : D} (r : RepL K F xs vs) (h : atI xs i = some d) : ∃ v, atI vs i = some v ∧ Rep K F d v := by
  unfold atI at h ⊢
  rw [r.len]
  cases q : ixN xs.length i with
  | none =>
    rw [q] at h
    cases h
  | some j =>
    rw [q] at h
    exact r.get h
theorem lop_ix : LOp K (rIx K) bIx := fun F H dx dy vx vy Qd Qv s rx ry z q => by
  unfold bIx at z
  split at z
  · rename_i xs i
    obtain ⟨p, vs, rfl, h1, h2⟩ := rx
    cases k : atI xs i with
    | none => rw [k] at z; exact z.elim
    | some d =>
      rw [k] at z
      obtain ⟨v, h3, h4⟩ := atI_rep h2 k
      exact .inr (.inl ⟨p, vs, i, v, rfl, ry, same_t s h1, h3, q d v F H z (Ext.refl s) h4⟩)
  · rename_i xs i
    obtain ⟨p, vs, rfl, h1, h2⟩ := rx
    cases k : atI xs i with
    | none => rw [k] at z; exact z.elim
    | some d =>
      rw [k] at z
      obtain ⟨v, h3, h4⟩ := atI_rep h2 k
      exact .inl ⟨p, vs, i, v, rfl, ry, same_l s h1, h3, q d v F H z (Ext.refl s) h4⟩
  · rename_i t i
    obtain ⟨z1, z⟩ := z
    cases k : atI t.cps.toList i with
    | none => rw [k] at z; exact z.elim
    | some c =>
      rw [k] at z
      exact .inr (.inr ⟨t, i, c, rx, ry, sz z1, k, q _ _ F H z (Ext.refl s) rfl⟩)
  · exact z.elim
theorem de_ix (ha : DE Z X E a wa) (hb : DE Z X E b wb) (hs : PlainIx b := by exact fun _ _ => rfl) : DE Z X E (.Subscript a b pos) (wBin bIx wa wb) := by
  obtain ⟨ta, pa, la⟩ := ha
  obtain ⟨tb, pb, lb⟩ := hb
  exact ⟨_, pe_ix ix_seq pa pb hs, le_bin lop_ix la lb⟩
/-! ### slices -/
def LO (Z : SrcK) (K : PySem.W.Frag) (E : L2.St → XK) (t : TO) (w : OW) : Prop :=
  ∀ (c : Cfg) (F H : Hp) (σ : L2.St) (ρ : Env) (Xd : XD) (Qd : Option Int → Prop) (Qv : Option Int → Hp → Prop), EnvOk Z K c F H σ ρ → ELk Z K c F H E Xd → w Xd ρ Qd →
    (∀ o F' H', Qd o → EnvOk Z K c F' H' σ ρ → Same F F' → Kx c.fp F H F' H' → Qv o H') → t σ H Qv
def DO (Z : SrcK) (X : Cx) (E : L2.St → XK) (e : Option Expr) (w : OW) : Prop := ∃ t, PO X e t ∧ LO Z X.K E t w
theorem do_none : DO Z X E none oNone := ⟨_, po_none, fun c F H σ ρ Xd Qd Qv e _ h q => q none F H h e (Same.refl _) (Kx.refl _ _ _)⟩
theorem do_some (h : DE Z X E e wa) : DO Z X E (some e) (oSome wa) := by
  obtain ⟨t, p, l⟩ := h
  refine ⟨_, po_some p, fun c F H σ ρ Xd Qd Qv e k h q => ?_⟩
  refine l c F H σ ρ Xd _ _ e k h fun d v F1 H1 h1 e1 s1 n1 r1 => ?_
  cases d with
  | int i => exact ⟨i, r1, q _ F1 H1 h1 e1 s1 n1⟩
  | non => exact h1.elim
  | bl _ => exact h1.elim
  | str _ => exact h1.elim
  | tup _ => exact h1.elim
  | lst _ => exact h1.elim
  | ins _ _ _ => exact h1.elim
theorem cut_rep {F : Hp} {xs : List D} {vs : List V} {lo hi : Option Int} (r : RepL K F xs vs) : RepL K F (cutD xs lo hi) (cutV vs lo hi) := by
  unfold cutD cutV
  rw [r.len]
  exact (r.drop _).take _
theorem cut_whole {xs : List D} {lo hi : Option Int} (h : HT.sIx xs.length 0 lo = 0 ∧ HT.sIx xs.length xs.length hi = xs.length) : cutD xs lo hi = xs := by
  unfold cutD
  rw [h.1, h.2, List.drop_zero, Nat.sub_zero, List.take_length]
def rSlD (K : PySem.W.Frag) : V → Option Int → Option Int → Hp → VK → Prop := fun x lo hi H Q => rSlA K x lo hi H Q ∨ rSlL K x lo hi H Q ∨ rSlS x lo hi H Q
theorem de_slice {lo hi : Option Expr} {wl wh : OW} {p2 : Pos} (ha : DE Z X E a wa) (hl : DO Z X E lo wl) (hh : DO Z X E hi wh) : DE Z X E (.Subscript a (.Slice lo hi none p2) pos) (wSl wa wl wh) := by
  obtain ⟨t, p, l⟩ := ha
  obtain ⟨t1, p1, l1⟩ := hl
  obtain ⟨t2, p3, l2⟩ := hh
  refine ⟨_, pe_slice (sl_tupA.or (sl_list.or sl_str)) p p1 p3, fun c F H σ ρ Xd Qd Qv e k h q => ?_⟩
  refine l c F H σ ρ Xd _ _ e k h fun d v F1 H1 h1 e1 s1 n1 r1 => ?_
  refine l1 c F1 H1 σ ρ Xd _ _ e1 (k.mono s1 n1.nx) h1 fun o1 F2 H2 h2 e2 s2 n2 => ?_
  refine l2 c F2 H2 σ ρ Xd _ _ e2 (k.mono (s1.trans s2) (n1.nx.trans n2.nx)) h2 fun o2 F3 H3 h3 e3 s3 n3 => ?_
  have r3 := Rep.mono (s2.trans s3) _ _ r1
  have sF := (s1.trans s2).trans s3
  have nF := (n1.trans n2).trans n3
  cases d with
  | tup xs =>
    obtain ⟨a, vs, rfl, h4, h5⟩ := r3
    refine .inl ⟨a, vs, rfl, same_t e3.fh h4, fun w => ?_, fun _ p hp => ?_⟩
    · rw [h5.len] at w
      have w2 := cut_whole w
      have h3 : Qd (.tup (cutD xs o1 o2)) := h3
      rw [w2] at h3
      exact q _ _ F3 H3 h3 e3 sF nF ⟨a, vs, rfl, h4, h5⟩
    · obtain ⟨x, r⟩ := lay_tup e3.fh (cut_rep (lo := o1) (hi := o2) h5) hp
      exact q _ _ _ _ h3 (e3.ext x) (sF.trans x.ff) (nF.trans x.kx) r
  | lst xs =>
    obtain ⟨a, vs, rfl, h4, h5⟩ := r3
    refine .inr (.inl ⟨a, vs, rfl, same_l e3.fh h4, fun p hp => ?_⟩)
    obtain ⟨x, r⟩ := lay_lst e3.fh (cut_rep (lo := o1) (hi := o2) h5) hp
    exact q _ _ _ _ h3 (e3.ext x) (sF.trans x.ff) (nF.trans x.kx) r
  | str s => exact .inr (.inr ⟨s, r3, sz h3.1, q _ _ F3 H3 h3.2 e3 sF nF rfl⟩)
  | non => exact h3.elim
  | bl _ => exact h3.elim
  | int _ => exact h3.elim
  | ins _ _ _ => exact h3.elim
theorem de_rev {k : Nat} {p1 p2 p3 : Pos} (ha : DE Z X E a wa) : DE Z X E (.Subscript a (.Slice none none (some (.UnaryOp .USub (.Constant (.int 1) k p1) p2)) p3) pos) (wUn bRev wa) := by
  obtain ⟨t, p, l⟩ := ha
  refine ⟨_, pe_revL p, fun c F H σ ρ Xd Qd Qv e k h q => ?_⟩
  refine l c F H σ ρ Xd _ _ e k h fun d v F1 H1 h1 e1 s1 n1 r1 => ?_
  cases d with
  | lst xs =>
    obtain ⟨a, vs, rfl, h4, h5⟩ := r1
    refine ⟨a, vs, rfl, same_l e1.fh h4, fun p hp => ?_⟩
    obtain ⟨x, r⟩ := lay_lst e1.fh h5.rev hp
    exact q _ _ _ _ h1 (e1.ext x) (s1.trans x.ff) (n1.trans x.kx) r
  | non => exact h1.elim
  | bl _ => exact h1.elim
  | int _ => exact h1.elim
  | str _ => exact h1.elim
  | tup _ => exact h1.elim
  | ins _ _ _ => exact h1.elim

/-! ### arguments, displays -/
theorem ArgsOk.mono {src : Option (Addr × List Addr)} {F F' : Hp} (e : Same F F') : ∀ {ss : List SV} {vs : List V}, ArgsOk K src F ss vs → ArgsOk K src F' ss vs
  | [], _, h => h
  | s :: r, vs, h => by
    obtain ⟨v, t, e1, e2, e3⟩ := h
    refine ⟨v, t, e1, ?_, ArgsOk.mono e e3⟩
    cases s with
    | d x => exact Rep.mono e _ _ e2
    | un => exact e2
    | own _ => exact e2
    | src => exact e2
    | obj _ _ _ => exact e2
theorem ArgsOk.datas {src : Option (Addr × List Addr)} {F : Hp} : ∀ {ss : List SV} {vs : List V} {xs : List D}, ArgsOk K src F ss vs → datas ss = some xs → RepL K F xs vs
  | [], _, xs, h, e => by
    have e : some [] = some xs := e
    cases e
    exact h
  | .d x :: r, vs, xs, h, e => by
    obtain ⟨v, t, e1, e2, e3⟩ := h
    cases q : DL.datas r with
    | none => rw [DL.datas, q] at e; cases e
    | some ys =>
      rw [DL.datas, q] at e
      cases e
      exact ⟨v, t, e1, e2, ArgsOk.datas e3 q⟩
  | .un :: r, _, _, h, e => by cases e
  | .own _ :: r, _, _, h, e => by cases e
  | .src :: r, _, _, h, e => by cases e
  | .obj _ _ _ :: r, _, _, h, e => by cases e
variable {es : List Expr} {ws : AW}
theorem da_nil : DA Z X E [] wNil := ⟨_, pa_nil, fun c F H σ ρ Xd Qd Qv e _ h q => q [] [] F H h e (Same.refl _) (Kx.refl _ _ _) rfl⟩
theorem da_cons (ha : DE Z X E e wa) (hr : DA Z X E es ws) (hs : starEach (e :: es) X.env = (false, eval e X.env) :: starEach es X.env := by rfl) : DA Z X E (e :: es) (wCons wa ws) := by
  obtain ⟨t, p, l⟩ := ha
  obtain ⟨t1, p1, l1⟩ := hr
  refine ⟨_, pa_cons p p1 hs, fun c F H σ ρ Xd Qd Qv e k h q => ?_⟩
  refine l c F H σ ρ Xd _ _ e k h fun d v F1 H1 h1 e1 s1 n1 r1 => ?_
  refine l1 c F1 H1 σ ρ Xd _ _ e1 (k.mono s1 n1.nx) h1 fun ss vs F2 H2 h2 e2 s2 n2 r2 => ?_
  exact q _ _ F2 H2 h2 e2 (s1.trans s2) (n1.trans n2) ⟨v, vs, rfl, Rep.mono s2 _ _ r1, r2⟩
/-- the source handed on -/
theorem da_src {x : Str} {p : Pos} (i : Nat) (hr : DA Z X E es ws) (hN : X.N[i]? = some x := by rfl) (hv : Vis X.env.scope x := by first | exact Or.inl rfl | exact Or.inr (Or.inl rfl) | exact Or.inr (Or.inr rfl)) (hd : (x == ("__debug__" : Str)) = false := by decide)
    (hcd : (x == ("__classdict__" : Str)) = false := by decide) (hs : starEach (.Name x p :: es) X.env = (false, eval (.Name x p) X.env) :: starEach es X.env := by rfl) : DA Z X E (.Name x p :: es) (wConsS i ws) := by
  obtain ⟨t1, p1, l1⟩ := hr
  refine ⟨_, pa_cons (pe_var hN hv hd hcd) p1 hs, fun c F H σ ρ Xd Qd Qv e k h q => ?_⟩
  unfold wConsS at h
  cases q1 : ρ[i]? with
  | none => rw [q1] at h; exact h.elim
  | some s =>
    rw [q1] at h
    cases s with
    | src =>
      obtain ⟨o, h1, a, fp, h2, h3⟩ := e.slot i _ q1
      subst h3
      refine ⟨.ref a, h1, ?_⟩
      exact l1 c F H σ ρ Xd _ _ e k h fun ss vs F2 H2 h2' e2 s2 n2 r2 => q _ _ F2 H2 h2' e2 s2 n2 ⟨.ref a, vs, rfl, ⟨a, fp, h2, rfl⟩, r2⟩
    | un => exact h.elim
    | own _ => exact h.elim
    | d _ => exact h.elim
    | obj _ _ _ => exact h.elim
theorem de_tup {x1 : Nat} (h : DA Z X E es ws) : DE Z X E (.Tuple es x1 pos) (wTup ws) := by
  obtain ⟨t, p, l⟩ := h
  refine ⟨_, pe_tup p, fun c F H σ ρ Xd Qd Qv e k h q => ?_⟩
  refine l c F H σ ρ Xd _ _ e k h fun ss vs F1 H1 h1 e1 s1 n1 r1 => ?_
  cases q1 : datas ss with
  | none => rw [q1] at h1; exact h1.elim
  | some xs =>
    rw [q1] at h1
    have rr := r1.datas q1
    refine ⟨by rw [rr.len]; exact sz h1.1, fun p hp => ?_⟩
    obtain ⟨x, r⟩ := lay_tup e1.fh rr hp
    exact q _ _ _ _ h1.2 (e1.ext x) (s1.trans x.ff) (n1.trans x.kx) r
theorem de_lst (h : DA Z X E es ws) : DE Z X E (.List es pos) (wLst ws) := by
  obtain ⟨t, p, l⟩ := h
  refine ⟨_, pe_lst p, fun c F H σ ρ Xd Qd Qv e k h q => ?_⟩
  refine l c F H σ ρ Xd _ _ e k h fun ss vs F1 H1 h1 e1 s1 n1 r1 => ?_
  cases q1 : datas ss with
  | none => rw [q1] at h1; exact h1.elim
  | some xs =>
    rw [q1] at h1
    have rr := r1.datas q1
    refine ⟨by rw [rr.len]; exact sz h1.1, fun p hp => ?_⟩
    obtain ⟨x, r⟩ := lay_lst e1.fh rr hp
    exact q _ _ _ _ h1.2 (e1.ext x) (s1.trans x.ff) (n1.trans x.kx) r
/-- a list that is the frame's own from here on -/
theorem EnvOk.lay {c : Cfg} {F H : Hp} {σ : L2.St} {ρ : Env} (e : EnvOk Z K c F H σ ρ) {vs : List V} {p : Addr} (hp : H p = none) : EnvOk Z K c F (upd H p (.lst vs)) σ ρ where
  len := e.len
  slot := fun i s h => by
    obtain ⟨o, h1, h2⟩ := e.slot i s h
    refine ⟨o, h1, ?_⟩
    cases s with
    | own ys =>
      obtain ⟨a, ws, r1, r2, r3, r4, r5⟩ := h2
      refine ⟨a, ws, r1, r2, r3, ?_, r5⟩
      rw [upd_ne (ne_of_none r4 hp)]
      exact r4
    | un => trivial
    | d y => exact h2
    | src => exact h2
    | obj px C fs => exact obj_kx h2 (Same.refl _) (fun a u z _ _ => by rw [upd_ne (ne_of_none z hp)]; exact z) fun b z => .inl z
  sep := e.sep
  fh := fun b o h => by
    have h2 := e.fh b o h
    rw [upd_ne (ne_of_none h2 hp)]
    exact h2
  f0 := e.f0
  new := e.new
  keep := fun b o h hb => by
    have h2 := e.keep b o h hb
    rw [upd_ne (ne_of_none h2 hp)]
    exact h2
  all := fun b h => by
    obtain ⟨o, h2⟩ := ne_some (e.all b h)
    rw [upd_ne (ne_of_none h2 hp), h2]
    simp
  src := fun a fp h => by
    obtain ⟨p1, q⟩ := e.src a fp h
    refine ⟨Z.loc p1 fun b hb => ?_, q⟩
    obtain ⟨o, h2⟩ := ne_some ((Z.tr p1).2 b hb)
    rw [upd_ne (ne_of_none h2 hp)]
/-- an own list that is data from here on -/
theorem EnvOk.freeze {c : Cfg} {F H : Hp} {σ : L2.St} {ρ : Env} (e : EnvOk Z K c F H σ ρ) {vs : List V} {a : Addr} (hf : F a = none) (h0 : c.H0 a = none) (hh : H a = some (.lst vs)) (na : ∀ (i : Nat) ys, ρ[i]? = some (SV.own ys) → σ[i]? ≠ some (some (.ref a))) :
    EnvOk Z K c (upd F a (.lst vs)) H σ ρ := by
  have sF : Same F (upd F a (.lst vs)) := fun b u hb => by
    rw [upd_ne (ne_of_none hb hf)]
    exact hb
  refine ⟨e.len, fun i s h => ?_, e.sep, fun b u hb => ?_, e.f0.trans sF, fun b hb => ?_, e.keep, e.all, fun x fp h => ?_⟩
  · obtain ⟨o, h1, h2⟩ := e.slot i s h
    refine ⟨o, h1, ?_⟩
    cases s with
    | own ys =>
      obtain ⟨b, ws, r1, r2, r3, r4, r5⟩ := h2
      refine ⟨b, ws, r1, ?_, r3, r4, RepL.mono sF _ _ r5⟩
      have hb : b ≠ a := fun z => na i ys h (by rw [h1, r1, z])
      rw [upd_ne hb]
      exact r2
    | un => trivial
    | d y =>
      obtain ⟨v, r1, r2⟩ := h2
      exact ⟨v, r1, Rep.mono sF _ _ r2⟩
    | src => exact h2
    | obj px C fs =>
      refine obj_kx h2 sF (fun _ _ z _ _ => z) fun b z => ?_
      by_cases hba : b = a
      · exact .inr (.inr ⟨vs, by rw [hba]; exact hh⟩)
      · rw [upd_ne hba] at z
        exact .inl z
  · by_cases hba : b = a
    · subst hba
      rw [upd_same] at hb
      cases hb
      exact hh
    · rw [upd_ne hba] at hb
      exact e.fh b u hb
  · by_cases hba : b = a
    · subst hba
      exact .inr h0
    · rw [upd_ne hba] at hb
      exact e.new b hb
  · obtain ⟨p1, q⟩ := e.src x fp h
    refine ⟨p1, fun b hb => ⟨?_, (q b hb).2⟩⟩
    have hba : b ≠ a := fun z => (q b hb).2 (by rw [z]; exact h0)
    rw [upd_ne hba]
    exact (q b hb).1
theorem dl_lst (h : DA Z X E es ws) : DLs Z X E (.List es pos) (lLst ws) := by
  obtain ⟨t, p, l⟩ := h
  refine ⟨_, pe_lst p, fun c F H σ ρ Xd Qd Qv e k h q => ?_⟩
  refine l c F H σ ρ Xd _ _ e k h fun ss vs F1 H1 h1 e1 s1 n1 r1 => ?_
  cases q1 : datas ss with
  | none => rw [q1] at h1; exact h1.elim
  | some xs =>
    rw [q1] at h1
    have rr := r1.datas q1
    refine ⟨by rw [rr.len]; exact sz h1.1, fun p hp => ?_⟩
    exact q xs p vs F1 _ h1.2 (e1.lay hp) s1 (n1.trans (Kx.lay hp)) (n1.free hp) (e1.fh.free hp) upd_same rr
/-- a fresh list as data -/
theorem de_ofL {w : LW} (h : DLs Z X E e w) : DE Z X E e (wOfL w) := by
  obtain ⟨t, p, l⟩ := h
  refine ⟨t, p, fun c F H σ ρ Xd Qd Qv e k h q => ?_⟩
  refine l c F H σ ρ Xd _ _ e k h fun xs a vs F1 H1 h1 e1 s1 n1 f1 f2 f3 r1 => ?_
  have na : ∀ (i : Nat) ys, ρ[i]? = some (SV.own ys) → σ[i]? ≠ some (some (V.ref a)) := fun i ys hi z => by
    obtain ⟨o, o1, b, ws, o2, o3, o4, o5, o6⟩ := e.slot i _ hi
    rw [o1, o2] at z
    have z : b = a := by simpa using z
    rw [z, f1] at o5
    cases o5
  have h0 : c.H0 a = none := by
    cases q1 : c.H0 a with
    | none => rfl
    | some u => exact absurd f1 (e.all a (by rw [q1]; simp))
  have sF : Same F1 (upd F1 a (.lst vs)) := fun b u hb => by
    rw [upd_ne (ne_of_none hb f2)]
    exact hb
  exact q _ _ _ H1 h1 (e1.freeze f2 h0 f3 na) (s1.trans sF) ⟨n1.nx, n1.kp, fun b hb => by
    by_cases hba : b = a
    · exact .inr (by rw [hba]; exact f1)
    · rw [upd_ne hba] at hb
      exact n1.new b hb⟩ ⟨a, vs, rfl, SqL.of upd_same, RepL.mono sF _ _ r1⟩

/-! ### built-ins -/
def LCB (K : PySem.W.Frag) (r : List V → Hp → VK → Prop) (o : OpN) : Prop := ∀ (F H : Hp) (ds : List D) (vs : List V) (Qd : D → Prop) (Qv : VK), Same F H → RepL K F ds vs → o ds Qd →
  (∀ d v F' H', Qd d → Ext F H F' H' → Rep K F' d v → Qv v H') → r vs H Qv
theorem le_cb {r : List V → Hp → VK → Prop} {o : OpN} {ta : TA} (ho : LCB K r o) (ha : LA Z K E ta ws) : LE Z K E (tCB r ta) (wCB o ws) := fun c F H σ ρ Xd Qd Qv e l h q => by
  refine ha c F H σ ρ Xd _ _ e l h fun ss vs F1 H1 h1 e1 s1 n1 r1 => ?_
  cases q1 : datas ss with
  | none => rw [q1] at h1; exact h1.elim
  | some xs =>
    rw [q1] at h1
    refine ho F1 H1 xs vs _ _ e1.fh (r1.datas q1) h1 fun d v F3 H3 h3 x3 r3 => ?_
    exact q d v F3 H3 h3 (e1.ext x3) (s1.trans x3.ff) (n1.trans x3.kx) r3
theorem de_cb {id : String} {x : Str} {p : Pos} {r : List V → Hp → VK → Prop} {o : OpN} (hc : CallR X (.builtin id) r) (ho : LCB X.K r o) (hm : X.mg x = none) (hv : bootBuiltins x = some (.builtin id)) (ha : DA Z X E (e :: es) ws) (hg : Gl X x := by rfl)
    (hn : x ≠ "__name__" := by decide) (hdb : (x == ("__debug__" : Str)) = false := by decide)
    (he : starEach (e :: es) X.env = (false, eval e X.env) :: starEach es X.env := by rfl) (hpl : (backTo pos (starEach es X.env)).any (·.1) = false := by rfl) : DE Z X E (.Call (.Name x p) (e :: es) [] pos) (wCB o ws) := by
  obtain ⟨t, pa, la⟩ := ha
  exact ⟨_, pe_callB hc hg hm hv pa hn hdb he hpl, le_cb ho la⟩
theorem de_cty {T : String} {x : Str} {p : Pos} {r : List V → Hp → VK → Prop} {o : OpN} (hc : CallR X (.type T) r) (ho : LCB X.K r o) (hm : X.mg x = none) (hv : bootBuiltins x = some (.type T)) (ha : DA Z X E (e :: es) ws) (hg : Gl X x := by rfl)
    (hn : x ≠ "__name__" := by decide) (hdb : (x == ("__debug__" : Str)) = false := by decide)
    (he : starEach (e :: es) X.env = (false, eval e X.env) :: starEach es X.env := by rfl) (hpl : (backTo pos (starEach es X.env)).any (·.1) = false := by rfl) : DE Z X E (.Call (.Name x p) (e :: es) [] pos) (wCB o ws) := by
  obtain ⟨t, pa, la⟩ := ha
  exact ⟨_, pe_callTy hc hg hm hv pa hn hdb he hpl, le_cb ho la⟩
theorem repL_1 {F : Hp} {d : D} {vs : List V} (h : RepL K F [d] vs) : ∃ v, vs = [v] ∧ Rep K F d v := by
  obtain ⟨v, r, rfl, h1, h2⟩ := h
  have h2 : r = [] := h2
  subst h2
  exact ⟨v, rfl, h1⟩
theorem repL_2 {F : Hp} {d d' : D} {vs : List V} (h : RepL K F [d, d'] vs) : ∃ v v', vs = [v, v'] ∧ Rep K F d v ∧ Rep K F d' v' := by
  obtain ⟨v, r, rfl, h1, h2⟩ := h
  obtain ⟨v', rfl, h3⟩ := repL_1 h2
  exact ⟨v, v', rfl, h1, h3⟩
theorem lcb_abs : LCB K (fun xs H Q => ∃ i, xs = [.int i] ∧ Q (.int (if i < 0 then -i else i)) H) bAbs := fun F H ds vs Qd Qv s r z q => by
  unfold bAbs at z
  split at z
  · obtain ⟨v, rfl, h1⟩ := repL_1 r
    have h1 : v = _ := h1
    subst h1
    exact ⟨_, rfl, q _ _ F H z (Ext.refl s) rfl⟩
  · exact z.elim
theorem lcb_max2 : LCB K (fun xs H Q => ∃ i j, xs = [.int i, .int j] ∧ Q (.int (if j > i then j else i)) H) bMax2 := fun F H ds vs Qd Qv s r z q => by
  unfold bMax2 at z
  split at z
  · obtain ⟨v, v', rfl, h1, h2⟩ := repL_2 r
    have h1 : v = _ := h1
    have h2 : v' = _ := h2
    subst h1 h2
    exact ⟨_, _, rfl, q _ _ F H z (Ext.refl s) rfl⟩
  · exact z.elim
theorem lcb_min2 : LCB K (fun xs H Q => ∃ i j, xs = [.int i, .int j] ∧ Q (.int (if j < i then j else i)) H) bMin2 := fun F H ds vs Qd Qv s r z q => by
  unfold bMin2 at z
  split at z
  · obtain ⟨v, v', rfl, h1, h2⟩ := repL_2 r
    have h1 : v = _ := h1
    have h2 : v' = _ := h2
    subst h1 h2
    exact ⟨_, _, rfl, q _ _ F H z (Ext.refl s) rfl⟩
  · exact z.elim
theorem lcb_int : LCB K (fun xs H Q => (∃ i, xs = [.int i] ∧ Q (.int i) H) ∨ ∃ k, xs = [.bl k] ∧ Q (.int (if k then 1 else 0)) H) bInt := fun F H ds vs Qd Qv s r z q => by
  unfold bInt at z
  split at z
  · obtain ⟨v, rfl, h1⟩ := repL_1 r
    have h1 : v = _ := h1
    subst h1
    exact .inl ⟨_, rfl, q _ _ F H z (Ext.refl s) rfl⟩
  · obtain ⟨v, rfl, h1⟩ := repL_1 r
    have h1 : v = _ := h1
    subst h1
    exact .inr ⟨_, rfl, q _ _ F H z (Ext.refl s) rfl⟩
  · exact z.elim
theorem lcb_str : LCB K (fun xs H Q => ∃ i, xs = [.int i] ∧ i.natAbs.log2 < 1920 ∧ Q (.str (toString i)) H) bStr := fun F H ds vs Qd Qv s r z q => by
  unfold bStr at z
  split at z
  · obtain ⟨v, rfl, h1⟩ := repL_1 r
    have h1 : v = _ := h1
    subst h1
    exact ⟨_, rfl, z.1, q _ _ F H z.2 (Ext.refl s) rfl⟩
  · exact z.elim
def rLenE (K : PySem.W.Frag) : List V → Hp → VK → Prop := fun xs H Q => (∃ p ys, xs = [.ref p] ∧ (SqL K H p ys ∨ SqT K H p ys) ∧ Q (.int ys.length) H) ∨ ∃ z, xs = [.str z] ∧ z.length ≤ sizeLine ∧ Q (.int z.length) H
theorem call_lenE : CallR X (.builtin "len") (rLenE X.K) := call_len_seq.or call_len_str
theorem lcb_len : LCB K (rLenE K) bLen := fun F H ds vs Qd Qv s r z q => by
  unfold bLen at z
  split at z
  · obtain ⟨v, rfl, a, ws, rfl, h2, h3⟩ := repL_1 r
    refine .inl ⟨a, ws, rfl, .inr (same_t s h2), ?_⟩
    rw [h3.len]
    exact q _ _ F H z (Ext.refl s) rfl
  · obtain ⟨v, rfl, a, ws, rfl, h2, h3⟩ := repL_1 r
    refine .inl ⟨a, ws, rfl, .inl (same_l s h2), ?_⟩
    rw [h3.len]
    exact q _ _ F H z (Ext.refl s) rfl
  · obtain ⟨v, rfl, h1⟩ := repL_1 r
    have h1 : v = _ := h1
    subst h1
    exact .inr ⟨_, rfl, sz z.1, q _ _ F H z.2 (Ext.refl s) rfl⟩
  · exact z.elim
theorem lcb_tuple : LCB K (fun xs H Q => ∃ p ys, xs = [.ref p] ∧ ((SqL K H p ys ∧ ∀ l, H l = none → Q (.ref l) (upd H l (.tup ys))) ∨ (SqT K H p ys ∧ Q (.ref p) H))) bTuple := fun F H ds vs Qd Qv s r z q => by
  unfold bTuple at z
  split at z
  · obtain ⟨v, rfl, a, ws, rfl, h2, h3⟩ := repL_1 r
    refine ⟨a, ws, rfl, .inl ⟨same_l s h2, fun p hp => ?_⟩⟩
    obtain ⟨x, r⟩ := lay_tup s h3 hp
    exact q _ _ _ _ z x r
  · obtain ⟨v, rfl, a, ws, rfl, h2, h3⟩ := repL_1 r
    exact ⟨a, ws, rfl, .inr ⟨same_t s h2, q _ _ F H z (Ext.refl s) ⟨a, ws, rfl, h2, h3⟩⟩⟩
  · exact z.elim
/-- built-ins that give a fresh list -/
def LCL (K : PySem.W.Frag) (r : List V → Hp → VK → Prop) (o : List D → (List D → Prop) → Prop) : Prop := ∀ (F H : Hp) (ds : List D) (vs : List V) (Qd : List D → Prop) (Qv : VK), Same F H → RepL K F ds vs → o ds Qd →
  (∀ xs p ws, Qd xs → H p = none → RepL K F xs ws → Qv (.ref p) (upd H p (.lst ws))) → r vs H Qv
theorem lcl_list : LCL K (fun xs H Q => ∃ p ys, xs = [.ref p] ∧ (SqL K H p ys ∨ SqT K H p ys) ∧ ∀ l, H l = none → Q (.ref l) (upd H l (.lst ys))) bList := fun F H ds vs Qd Qv s r z q => by
  unfold bList at z
  split at z
  · obtain ⟨v, rfl, a, ws, rfl, h2, h3⟩ := repL_1 r
    exact ⟨a, ws, rfl, .inl (same_l s h2), fun p hp => q _ p ws z hp h3⟩
  · obtain ⟨v, rfl, a, ws, rfl, h2, h3⟩ := repL_1 r
    exact ⟨a, ws, rfl, .inr (same_t s h2), fun p hp => q _ p ws z hp h3⟩
  · exact z.elim
theorem ll_cb {r : List V → Hp → VK → Prop} {o : List D → (List D → Prop) → Prop} {ta : TA} (ho : LCL K r o) (ha : LA Z K E ta ws) : LL Z K E (tCB r ta) (lCB o ws) := fun c F H σ ρ Xd Qd Qv e l h q => by
  refine ha c F H σ ρ Xd _ _ e l h fun ss vs F1 H1 h1 e1 s1 n1 r1 => ?_
  cases q1 : datas ss with
  | none => rw [q1] at h1; exact h1.elim
  | some xs =>
    rw [q1] at h1
    refine ho F1 H1 xs vs _ _ e1.fh (r1.datas q1) h1 fun ys p us h2 hp r2 => ?_
    exact q ys p us F1 _ h2 (e1.lay hp) s1 (n1.trans (Kx.lay hp)) (n1.free hp) (e1.fh.free hp) upd_same r2
theorem dl_cty {T : String} {x : Str} {p : Pos} {r : List V → Hp → VK → Prop} {o : List D → (List D → Prop) → Prop} (hc : CallR X (.type T) r) (ho : LCL X.K r o) (hm : X.mg x = none) (hv : bootBuiltins x = some (.type T)) (ha : DA Z X E (e :: es) ws) (hg : Gl X x := by rfl)
    (hn : x ≠ "__name__" := by decide) (hdb : (x == ("__debug__" : Str)) = false := by decide)
    (he : starEach (e :: es) X.env = (false, eval e X.env) :: starEach es X.env := by rfl) (hpl : (backTo pos (starEach es X.env)).any (·.1) = false := by rfl) : DLs Z X E (.Call (.Name x p) (e :: es) [] pos) (lCB o ws) := by
  obtain ⟨t, pa, la⟩ := ha
  exact ⟨_, pe_callTy hc hg hm hv pa hn hdb he hpl, ll_cb ho la⟩
theorem bools_rep {F : Hp} : ∀ {ds : List D} {vs : List V} {bs : List Bool}, RepL K F ds vs → bools ds = some bs → vs = bs.map V.bl
  | [], vs, bs, h, e => by
    have h : vs = [] := h
    have e : some [] = some bs := e
    cases e
    rw [h]
    rfl
  | .bl b :: r, vs, bs, h, e => by
    obtain ⟨v, t, e1, e2, e3⟩ := h
    cases q : bools r with
    | none => rw [bools, q] at e; cases e
    | some cs =>
      rw [bools, q] at e
      cases e
      have e2 : v = .bl b := e2
      rw [e1, e2, bools_rep e3 q]
      rfl
  | .non :: _, _, _, _, e => by cases e
  | .int _ :: _, _, _, _, e => by cases e
  | .str _ :: _, _, _, _, e => by cases e
  | .tup _ :: _, _, _, _, e => by cases e
  | .lst _ :: _, _, _, _, e => by cases e
  | .ins _ _ _ :: _, _, _, _, e => by cases e
theorem intsD_rep {F : Hp} : ∀ {ds : List D} {vs : List V} {bs : List Int}, RepL K F ds vs → intsD ds = some bs → vs = bs.map V.int
  | [], vs, bs, h, e => by
    have h : vs = [] := h
    have e : some [] = some bs := e
    cases e
    rw [h]
    rfl
  | .int b :: r, vs, bs, h, e => by
    obtain ⟨v, t, e1, e2, e3⟩ := h
    cases q : intsD r with
    | none => rw [intsD, q] at e; cases e
    | some cs =>
      rw [intsD, q] at e
      cases e
      have e2 : v = .int b := e2
      rw [e1, e2, intsD_rep e3 q]
      rfl
  | .non :: _, _, _, _, e => by cases e
  | .bl _ :: _, _, _, _, e => by cases e
  | .str _ :: _, _, _, _, e => by cases e
  | .tup _ :: _, _, _, _, e => by cases e
  | .lst _ :: _, _, _, _, e => by cases e
  | .ins _ _ _ :: _, _, _, _, e => by cases e
theorem lcb_all : LCB K (rAll K) bAll := fun F H ds vs Qd Qv s r z q => by
  unfold bAll at z
  split at z
  · obtain ⟨v, rfl, a, ws, rfl, h2, h3⟩ := repL_1 r
    split at z
    · rename_i bs hb
      have e := bools_rep h3 hb
      subst e
      exact ⟨a, bs, rfl, same_l s h2, q _ _ F H z (Ext.refl s) rfl⟩
    · exact z.elim
  · exact z.elim
theorem lcb_any : LCB K (rAny K) bAny := fun F H ds vs Qd Qv s r z q => by
  unfold bAny at z
  split at z
  · obtain ⟨v, rfl, a, ws, rfl, h2, h3⟩ := repL_1 r
    split at z
    · rename_i bs hb
      have e := bools_rep h3 hb
      subst e
      exact ⟨a, bs, rfl, same_l s h2, q _ _ F H z (Ext.refl s) rfl⟩
    · exact z.elim
  · exact z.elim
theorem lcb_sum : LCB K (rSum K) bSum := fun F H ds vs Qd Qv s r z q => by
  unfold bSum at z
  split at z
  · obtain ⟨v, rfl, a, ws, rfl, h2, h3⟩ := repL_1 r
    split at z
    · rename_i bs hb
      have e := intsD_rep h3 hb
      subst e
      exact ⟨a, bs, rfl, same_l s h2, q _ _ F H z (Ext.refl s) rfl⟩
    · exact z.elim
  · exact z.elim
/-- isinstance(e, T), T a built-in type -/
theorem tyx {F H : Hp} (s : Same F H) {d : D} {v : V} {t : String} (r : Rep K F d v) (h : tyOf d = some t) : TyX K H v (.type t) := by
  cases d with
  | non => (have r : v = _ := r); subst r; cases h; exact .base .non
  | bl _ => (have r : v = _ := r); subst r; cases h; exact .base (.bl _)
  | int _ => (have r : v = _ := r); subst r; cases h; exact .base (.int _)
  | str _ => (have r : v = _ := r); subst r; cases h; exact .base (.str _)
  | tup _ =>
    obtain ⟨a, vs, rfl, h1, _⟩ := r
    cases h
    rcases h1 with (h1 | ⟨o, h1⟩) | ⟨o, its, n, h1, h2, _⟩
    · exact .base (.tup (s _ _ h1))
    · exact .fTuple (s _ _ h1)
    · exact .kTuple h1 h2
  | lst _ =>
    obtain ⟨a, vs, rfl, h1, _⟩ := r
    cases h
    rcases h1 with (h1 | ⟨o, h1⟩) | ⟨o, its, n, h1, h2, _⟩
    · exact .base (.lst (s _ _ h1))
    · exact .base (.frz (s _ _ h1))
    · exact .kList h1 h2
  | ins _ _ _ => cases h
def goodTy (T : String) : Prop := ∀ d t, tyOf d = some t → kitB t T = some (isT t T)
theorem good_ty {T : String} (h1 : kitB "NoneType" T = some (isT "NoneType" T)) (h2 : kitB "bool" T = some (isT "bool" T)) (h3 : kitB "int" T = some (isT "int" T)) (h4 : kitB "str" T = some (isT "str" T)) (h5 : kitB "tuple" T = some (isT "tuple" T)) (h6 : kitB "list" T = some (isT "list" T)) : goodTy T := fun d t h => by
  cases d <;> cases h <;> assumption
theorem good_bool : goodTy "bool" := good_ty (by decide +kernel) (by decide +kernel) (by decide +kernel) (by decide +kernel) (by decide +kernel) (by decide +kernel)
theorem good_int : goodTy "int" := good_ty (by decide +kernel) (by decide +kernel) (by decide +kernel) (by decide +kernel) (by decide +kernel) (by decide +kernel)
theorem good_str : goodTy "str" := good_ty (by decide +kernel) (by decide +kernel) (by decide +kernel) (by decide +kernel) (by decide +kernel) (by decide +kernel)
theorem good_tuple : goodTy "tuple" := good_ty (by decide +kernel) (by decide +kernel) (by decide +kernel) (by decide +kernel) (by decide +kernel) (by decide +kernel)
theorem good_list : goodTy "list" := good_ty (by decide +kernel) (by decide +kernel) (by decide +kernel) (by decide +kernel) (by decide +kernel) (by decide +kernel)
theorem pe_bltTy {T : String} {x : Str} {p : Pos} (hm : X.mg x = none) (hv : bootBuiltins x = some (.type T)) (hg : Gl X x := by rfl) (hn : x ≠ "__name__" := by decide) (hd : (x == ("__debug__" : Str)) = false := by decide) : PE X (.Name x p) (tC (.ty T)) := pe_bltn hg hm hv rfl hn hd
theorem de_isi {T : String} {x : Str} {p p2 : Pos} (g : goodTy T) (hm : X.mg "isinstance" = none) (hmT : X.mg x = none) (hvT : bootBuiltins x = some (.type T)) (ha : DE Z X E a wa) (hg : Gl X "isinstance" := by rfl) (hgT : Gl X x := by rfl) (hn : x ≠ "__name__" := by decide) (hd : (x == ("__debug__" : Str)) = false := by decide)
    (hv : bootBuiltins "isinstance" = some (.builtin "isinstance") := by decide +kernel)
    (h1 : starEach [a, .Name x p2] X.env = (false, eval a X.env) :: starEach [.Name x p2] X.env := by rfl) (h2 : starEach [.Name x p2] X.env = (false, eval (.Name x p2) X.env) :: starEach [] X.env := by rfl)
    (hpl : (backTo pos (starEach [.Name x p2] X.env)).any (·.1) = false := by rfl) : DE Z X E (.Call (.Name "isinstance" p) [a, .Name x p2] [] pos) (wUn (bIsi T) wa) := by
  obtain ⟨t, pa, la⟩ := ha
  refine ⟨_, pe_callB call_isi hg hm hv (pa_cons pa (pa_cons (pe_bltTy hmT hvT hgT hn hd) pa_nil h2) h1) (by decide) (by decide) h1 hpl, fun c F H σ ρ Xd Qd Qv e l h q => ?_⟩
  refine la c F H σ ρ Xd _ _ e l h fun d v F1 H1 h1 e1 s1 n1 r1 => ?_
  unfold bIsi at h1
  split at h1
  · rename_i t ht
    exact ⟨v, .ty T, .type t, .type T, isT t T, rfl, .ty T, tyx e1.fh r1 ht, kit_ty (g d t ht), q _ _ F1 H1 h1 e1 s1 n1 rfl⟩
  · exact h1.elim
theorem de_isi2 {T U : String} {x y : Str} {p p2 p3 p4 : Pos} {kk : Nat} (g : goodTy T) (g' : goodTy U) (hm : X.mg "isinstance" = none) (hmT : X.mg x = none) (hvT : bootBuiltins x = some (.type T)) (hmU : X.mg y = none) (hvU : bootBuiltins y = some (.type U)) (ha : DE Z X E a wa) (hg : Gl X "isinstance" := by rfl) (hgT : Gl X x := by rfl) (hgU : Gl X y := by rfl)
    (hn : x ≠ "__name__" := by decide) (hd : (x == ("__debug__" : Str)) = false := by decide) (hn' : y ≠ "__name__" := by decide) (hd' : (y == ("__debug__" : Str)) = false := by decide)
    (hv : bootBuiltins "isinstance" = some (.builtin "isinstance") := by decide +kernel)
    (h1 : starEach [a, .Tuple [.Name x p2, .Name y p3] kk p4] X.env = (false, eval a X.env) :: starEach [.Tuple [.Name x p2, .Name y p3] kk p4] X.env := by rfl) (h2 : starEach [.Tuple [.Name x p2, .Name y p3] kk p4] X.env = (false, eval (.Tuple [.Name x p2, .Name y p3] kk p4) X.env) :: starEach [] X.env := by rfl)
    (h3 : starEach [.Name x p2, .Name y p3] X.env = (false, eval (.Name x p2) X.env) :: starEach [.Name y p3] X.env := by rfl) (h4 : starEach [.Name y p3] X.env = (false, eval (.Name y p3) X.env) :: starEach [] X.env := by rfl)
    (hpl : (backTo pos (starEach [.Tuple [.Name x p2, .Name y p3] kk p4] X.env)).any (·.1) = false := by rfl) : DE Z X E (.Call (.Name "isinstance" p) [a, .Tuple [.Name x p2, .Name y p3] kk p4] [] pos) (wUn (bIsi2 T U) wa) := by
  obtain ⟨t, pa, la⟩ := ha
  refine ⟨_, pe_callB call_isiT hg hm hv (pa_cons pa (pa_cons (pe_tup (pa_cons (pe_bltTy hmT hvT hgT hn hd) (pa_cons (pe_bltTy hmU hvU hgU hn' hd') pa_nil h4) h3)) pa_nil h2) h1) (by decide) (by decide) h1 hpl, fun c F H σ ρ Xd Qd Qv e l h q => ?_⟩
  refine la c F H σ ρ Xd _ _ e l h fun d v F1 H1 h1 e1 s1 n1 r1 => ?_
  unfold bIsi2 at h1
  split at h1
  · rename_i t ht
    refine ⟨by show 2 ≤ sizeLine; decide, fun p hp => ?_⟩
    have x := Ext.lay (o := .tup [V.ty T, V.ty U]) e1.fh hp
    refine ⟨v, p, [V.ty T, V.ty U], .type t, [.type T, .type U], isT t T || isT t U, rfl, upd_same, .cons (.ty T) (.cons (.ty U) .nil), tyx (e1.fh.trans x.hh) r1 ht, ?_, q _ _ _ _ h1 (e1.ext x) (s1.trans x.ff) (n1.trans x.kx) rfl⟩
    refine kitAny_cons (kit_ty (g d t ht)) (fun z => ?_) fun z => by rw [z]; rfl
    rw [z]
    refine kitAny_cons (kit_ty (g' d t ht)) (fun z => ?_) fun z => by rw [z]; rfl
    rw [z]
    exact kitAny_nil
  · exact h1.elim
end
end DL
set_option linter.all false
set_option autoImplicit false
set_option maxHeartbeats 2000000
/-! Statements, loops, comprehensions. -/
namespace DL
open PySem PySem.Spec PyProof.Rows L2

section
variable {Z : SrcK} {X : Cx} {E : L2.St → XK} {K : PySem.W.Frag} {a b e : Expr} {wa wb wc : EW} {pos : Pos} {c : Cfg} {F H : Hp} {σ : L2.St} {ρ : Env}
/-! ### a slot is stored -/
theorem EnvOk.setS {i : Nat} {s : SV} {v : V} (e : EnvOk Z K c F H σ ρ) (h : SlotOk K c F H s (some v)) (na : ∀ xs a, s = SV.own xs → v = V.ref a → ∀ (j : Nat) ys, j ≠ i → ρ[j]? = some (SV.own ys) → σ[j]? ≠ some (some (V.ref a))) :
    EnvOk Z K c F H (σ.set i (some v)) (ρ.set i s) := by
  refine ⟨by rw [List.length_set, List.length_set]; exact e.len, fun j t h1 => ?_, fun j k xs ys hjk h1 h2 => ?_, e.fh, e.f0, e.new, e.keep, e.all, e.src⟩
  · by_cases hj : j = i
    · subst hj
      by_cases hl : j < ρ.length
      · rw [List.getElem?_set_self hl] at h1
        cases h1
        exact ⟨some v, List.getElem?_set_self (by rw [e.len]; exact hl), h⟩
      · rw [List.getElem?_eq_none_iff.mpr (by rw [List.length_set]; omega)] at h1
        cases h1
    · rw [List.getElem?_set_ne (Ne.symm hj)] at h1 ⊢
      exact e.slot j t h1
  · by_cases hj : j = i
    · subst hj
      have hl : j < ρ.length := by
        by_cases hl : j < ρ.length
        · exact hl
        · rw [List.getElem?_eq_none_iff.mpr (by rw [List.length_set]; omega)] at h1
          cases h1
      rw [List.getElem?_set_self hl] at h1
      rw [List.getElem?_set_ne hjk] at h2
      rw [List.getElem?_set_self (by rw [e.len]; exact hl), List.getElem?_set_ne hjk]
      have h1 : s = SV.own xs := by simpa using h1
      subst h1
      obtain ⟨a, vs, r1, _⟩ := h
      have r1 : v = V.ref a := by simpa using r1
      rw [r1]
      exact fun z => na xs a rfl r1 k ys (Ne.symm hjk) h2 z.symm
    · by_cases hk : k = i
      · subst hk
        have hl : k < ρ.length := by
          by_cases hl : k < ρ.length
          · exact hl
          · rw [List.getElem?_eq_none_iff.mpr (by rw [List.length_set]; omega)] at h2
            cases h2
        rw [List.getElem?_set_self hl] at h2
        rw [List.getElem?_set_ne (Ne.symm hjk)] at h1
        rw [List.getElem?_set_self (by rw [e.len]; exact hl), List.getElem?_set_ne (Ne.symm hjk)]
        have h2 : s = SV.own ys := by simpa using h2
        subst h2
        obtain ⟨a, vs, r1, _⟩ := h
        have r1 : v = V.ref a := by simpa using r1
        rw [r1]
        exact na ys a rfl r1 j xs hjk h1
      · rw [List.getElem?_set_ne (Ne.symm hj)] at h1 ⊢
        rw [List.getElem?_set_ne (Ne.symm hk)] at h2 ⊢
        exact e.sep j k xs ys hjk h1 h2
theorem EnvOk.setD {i : Nat} {x : D} {v : V} (e : EnvOk Z K c F H σ ρ) (h : Rep K F x v) : EnvOk Z K c F H (σ.set i (some v)) (ρ.set i (.d x)) :=
  e.setS (s := .d x) ⟨v, rfl, h⟩ fun _ _ z => nomatch z
theorem EnvOk.notOwn {xs : List V} {p : Addr} {j : Nat} {ys : List D} (e : EnvOk Z K c F H σ ρ) (hp : H p = none) (h : ρ[j]? = some (SV.own ys)) : σ[j]? ≠ some (some (V.ref p)) := fun z => by
  obtain ⟨o, o1, b, ws, o2, o3, o4, o5, o6⟩ := e.slot j _ h
  rw [o1, o2] at z
  have z : b = p := by simpa using z
  rw [z, hp] at o5
  cases o5
theorem EnvOk.h0 {p : Addr} (e : EnvOk Z K c F H σ ρ) (hp : H p = none) : c.H0 p = none := by
  cases q1 : c.H0 p with
  | none => rfl
  | some u => exact absurd hp (e.all p (by rw [q1]; simp))
/-! ### targets -/
def LG (Z : SrcK) (K : PySem.W.Frag) (t : TG) (g : GW) : Prop := ∀ (c : Cfg) (F H : Hp) (σ : L2.St) (ρ : Env) (d : D) (v : V) (Qd : Env → Prop) (Qv : L2.St → Hp → Prop), EnvOk Z K c F H σ ρ → Rep K F d v → g d ρ Qd →
  (∀ σ' ρ' F' H', Qd ρ' → EnvOk Z K c F' H' σ' ρ' → Same F F' → Nx H H' → Qv σ' H') → t v σ H Qv
def LGs (Z : SrcK) (K : PySem.W.Frag) (t : TGs) (g : List D → Env → (Env → Prop) → Prop) : Prop := ∀ (c : Cfg) (F H : Hp) (σ : L2.St) (ρ : Env) (ds : List D) (vs : List V) (Qd : Env → Prop) (Qv : L2.St → Hp → Prop), EnvOk Z K c F H σ ρ → RepL K F ds vs → g ds ρ Qd →
  (∀ σ' ρ' F' H', Qd ρ' → EnvOk Z K c F' H' σ' ρ' → Same F F' → Nx H H' → Qv σ' H') → t vs σ H Qv
def DG (Z : SrcK) (X : Cx) (tg : Expr) (g : GW) : Prop := ∃ t, PG X tg t ∧ LG Z X.K t g
def DGs (Z : SrcK) (X : Cx) (n : Nat) (tgs : List Expr) (g : List D → Env → (Env → Prop) → Prop) : Prop := (∃ t, PGs X tgs t ∧ LGs Z X.K t g) ∧ ∀ ds ρ Q, g ds ρ Q → ds.length = n
theorem lg_name {i : Nat} : LG Z K (gName i) (gNm i) := fun c F H σ ρ d v Qd Qv e r h q => q _ _ F H h (e.setD r) (Same.refl _) (Nx.refl _)
theorem dg_name {x : Str} {p : Pos} (i : Nat) (hN : X.N.Nodup) (hi : X.N[i]? = some x := by rfl) (hx : Loc X.env.scope x := by first | exact Or.inl rfl | exact Or.inr rfl) (hf : X.fn x = true ∨ X.env.scope.names.lookup x = some .local := by first | exact .inl rfl | exact .inr rfl) : DG Z X (.Name x p) (gNm i) :=
  ⟨_, pg_name hN hi hx hf, lg_name⟩
theorem dgs_nil : DGs Z X 0 [] gNilW := ⟨⟨_, pgs_nil, fun c F H σ ρ ds vs Qd Qv e r h q => by
  obtain ⟨h1, h2⟩ := h
  subst h1
  have r : vs = [] := r
  exact ⟨r, q _ _ F H h2 e (Same.refl _) (Nx.refl _)⟩⟩, fun ds ρ Q h => by rw [h.1]; rfl⟩
theorem gConsW_len {g : GW} {r : List D → Env → (Env → Prop) → Prop} {n : Nat} (hg : ∀ d ρ Q, g d ρ Q → ∃ ρ', Q ρ') (hr : ∀ ds ρ Q, r ds ρ Q → ds.length = n) : ∀ ds ρ Q, gConsW g r ds ρ Q → ds.length = n + 1 := fun ds ρ Q h => by
  cases ds with
  | nil => exact h.elim
  | cons x t =>
    obtain ⟨ρ', h⟩ := hg _ _ _ h
    rw [List.length_cons, hr _ _ _ h]
theorem dgs_cons {t : Expr} {ts : List Expr} {g : GW} {r : List D → Env → (Env → Prop) → Prop} {n : Nat} (h1 : DG Z X t g) (h2 : DGs Z X n ts r) (hg : ∀ d ρ Q, g d ρ Q → ∃ ρ', Q ρ' := by exact fun _ _ _ h => ⟨_, h⟩) (hs : (assignEach (t :: ts) X.env).map (·.2) = assign t X.env :: (assignEach ts X.env).map (·.2) := by rfl) : DGs Z X (n + 1) (t :: ts) (gConsW g r) := by
  obtain ⟨u, p, l⟩ := h1
  obtain ⟨⟨u1, p1, l1⟩, hl⟩ := h2
  refine ⟨⟨_, pgs_cons p p1 hs, fun c F H σ ρ ds vs Qd Qv e rr h q => ?_⟩, gConsW_len hg hl⟩
  cases ds with
  | nil => exact h.elim
  | cons x t =>
    obtain ⟨v, vr, e1, r1, r2⟩ := rr
    refine ⟨v, vr, e1, ?_⟩
    refine l c F H σ ρ x v _ _ e r1 h fun σ' ρ' F1 H1 h1 e1 s1 n1 => ?_
    exact l1 c F1 H1 σ' ρ' t vr _ _ e1 (RepL.mono s1 _ _ r2) h1 fun σ2 ρ2 F2 H2 h2 e2 s2 n2 => q _ _ F2 H2 h2 e2 (s1.trans s2) (n1.trans n2)
theorem pg_or {t u : TG} (h : PG X e t) (k : PG X e u) : PG X e (fun v σ H Q => t v σ H Q ∨ u v σ H Q) :=
  ⟨fun pins s σ H v w Q I r z => z.elim (fun z => h.run pins s σ H v w Q I r z) fun z => k.run pins s σ H v w Q I r z⟩
theorem dg_tup {es : List Expr} {k n : Nat} {r : List D → Env → (Env → Prop) → Prop} (h : DGs Z X n es r) (hc : X.calm = true := by rfl) (hn : (assignEach es X.env).length = n := by rfl) (hst : (assignEach es X.env).findIdx? (·.1) = none := by rfl) : DG Z X (.Tuple es k pos) (gTupW r) := by
  obtain ⟨⟨u, p, l⟩, hl⟩ := h
  refine ⟨_, pg_or (pg_tup hc p hn hst) (pg_unl hc p hn hst), fun c F H σ ρ d v Qd Qv e rr h q => ?_⟩
  cases d with
  | tup xs =>
    obtain ⟨a, vs, e1, r1, r2⟩ := rr
    exact .inl ⟨a, vs, e1, same_t e.fh r1, by rw [r2.len]; exact hl _ _ _ h, l c F H σ ρ xs vs _ _ e r2 h q⟩
  | lst xs =>
    obtain ⟨a, vs, e1, r1, r2⟩ := rr
    exact .inr ⟨a, vs, e1, same_l e.fh r1, by rw [r2.len]; exact hl _ _ _ h, l c F H σ ρ xs vs _ _ e r2 h q⟩
  | non => exact h.elim
  | bl _ => exact h.elim
  | int _ => exact h.elim
  | str _ => exact h.elim
  | ins _ _ _ => exact h.elim

/-! ### blocks -/
variable {st : Stmt} {rest : List Stmt} {t u : SW} {w : EW}
theorem dss_nil : DSs Z X E [] sNext := ⟨_, pss_nil, fun c F H σ ρ Xd DD D e l h q => q.nx σ ρ F H h e (Same.refl _) (Nx.refl _)⟩
theorem ls_seq {t u : TS} {w v : SW} (h1 : LS Z K E t w) (h2 : LS Z K E u v) : LS Z K E (tSeq t u) (sSeq w v) := fun c F H σ ρ Xd DD D e l h q => by
  refine h1 c F H σ ρ Xd _ _ e l h ⟨fun σ' ρ' F' H' k e' s n => ?_, q.rt, q.bk, q.ct⟩
  exact h2 c F' H' σ' ρ' Xd DD D e' (l.mono s n) k (q.mono s n)
theorem dss_cons (h1 : DS Z X E st t) (h2 : DSs Z X E rest u) : DSs Z X E (st :: rest) (sSeq t u) := by
  obtain ⟨x, p, l⟩ := h1
  obtain ⟨y, p1, l1⟩ := h2
  exact ⟨_, pss_cons p p1, ls_seq l l1⟩
theorem dss_one (h1 : DS Z X E st t) : DSs Z X E [st] t := by
  obtain ⟨x, p, l⟩ := h1
  exact ⟨_, pss_one p, l⟩
theorem ds_pass : DS Z X E (.Pass pos) sNext := ⟨_, ps_pass, fun c F H σ ρ Xd DD D e l h q => q.nx σ ρ F H h e (Same.refl _) (Nx.refl _)⟩
theorem ds_break : DS Z X E (.Break pos) sBreak := ⟨_, ps_break, fun c F H σ ρ Xd DD D e l h q => q.bk σ ρ F H h e (Same.refl _) (Nx.refl _)⟩
theorem ds_continue : DS Z X E (.Continue pos) sCont := ⟨_, ps_continue, fun c F H σ ρ Xd DD D e l h q => q.ct σ ρ F H h e (Same.refl _) (Nx.refl _)⟩
theorem ds_never : DS Z X E st sNever := ⟨_, ps_never, fun c F H σ ρ Xd DD D e l h q => h.elim⟩
theorem dss_never {sts : List Stmt} : DSs Z X E sts sNever := ⟨_, pss_never, fun c F H σ ρ Xd DD D e l h q => h.elim⟩
theorem ds_drop (h : DE Z X E e w) (hs : swapsWith e none pos.line X.env = pure false := by rfl) : DS Z X E (.Expr e pos) (sDrop w) := by
  obtain ⟨x, p, l⟩ := h
  exact ⟨_, ps_expr p hs, fun c F H σ ρ Xd DD D e k h q => l c F H σ ρ Xd _ _ e k h fun d v F1 H1 h1 e1 s1 n1 _ => q.nx σ ρ F1 H1 h1 e1 s1 n1.nx⟩
theorem ds_ret (h : DE Z X E e w) : DS Z X E (.Return (some e) pos) (sRet w) := by
  obtain ⟨x, p, l⟩ := h
  exact ⟨_, ps_ret p, fun c F H σ ρ Xd DD D e k h q => l c F H σ ρ Xd _ _ e k h fun d v F1 H1 h1 e1 s1 n1 r1 => q.rt (.d d) v σ ρ F1 H1 h1 e1 s1 r1⟩
theorem ds_retN : DS Z X E (.Return none pos) sRetN := ⟨_, ps_retN, fun c F H σ ρ Xd DD D e k h q => q.rt (.d .non) .non σ ρ F H h e (Same.refl _) rfl⟩
theorem ds_retOwn {x : Str} {p : Pos} (i : Nat) (hN : X.N[i]? = some x := by rfl) (hv : Vis X.env.scope x := by first | exact Or.inl rfl | exact Or.inr (Or.inl rfl) | exact Or.inr (Or.inr rfl)) (hd : (x == ("__debug__" : Str)) = false := by decide)
    (hcd : (x == ("__classdict__" : Str)) = false := by decide) : DS Z X E (.Return (some (.Name x p)) pos) (sRetOwn i) := by
  refine ⟨_, ps_ret (pe_var hN hv hd hcd), fun c F H σ ρ Xd DD D e k h q => ?_⟩
  unfold sRetOwn at h
  cases q1 : ρ[i]? with
  | none => rw [q1] at h; exact h.elim
  | some s =>
    rw [q1] at h
    cases s with
    | own xs =>
      obtain ⟨o, h1, a, vs, h2, h3, h4, h5, h6⟩ := e.slot i _ q1
      subst h2
      exact ⟨.ref a, h1, q.rt (.own xs) (.ref a) σ ρ F H h e (Same.refl _) ⟨a, vs, rfl, h3, h4, h5, h6⟩⟩
    | un => exact h.elim
    | src => exact h.elim
    | d _ => exact h.elim
    | obj _ _ _ => exact h.elim
theorem ds_retL {w : LW} (h : DLs Z X E e w) : DS Z X E (.Return (some e) pos) (sRetL w) := by
  obtain ⟨x, p, l⟩ := h
  exact ⟨_, ps_ret p, fun c F H σ ρ Xd DD D e k h q => l c F H σ ρ Xd _ _ e k h fun xs a vs F1 H1 h1 e1 s1 n1 f1 f2 f3 r1 => q.rt (.own xs) (.ref a) σ ρ F1 H1 h1 e1 s1 ⟨a, vs, rfl, f2, e.h0 f1, f3, r1⟩⟩
theorem ds_if {cnd : Expr} {p q : List Stmt} {wt : TW} (hc : DT Z X E cnd wt) (h1 : DSs Z X E p t) (h2 : DSs Z X E q u) : DS Z X E (.If cnd p q pos) (sIf wt t u) := by
  obtain ⟨x, px, lx⟩ := hc
  obtain ⟨y, py, ly⟩ := h1
  obtain ⟨z, pz, lz⟩ := h2
  refine ⟨_, ps_if px py pz, fun c F H σ ρ Xd DD D e k h q => lx c F H σ ρ Xd _ _ e k h fun b F1 H1 h1 e1 s1 n1 => ?_⟩
  cases b with
  | true => exact ly c F1 H1 σ ρ Xd DD D e1 (k.mono s1 n1.nx) h1 (q.mono s1 n1.nx)
  | false => exact lz c F1 H1 σ ρ Xd DD D e1 (k.mono s1 n1.nx) h1 (q.mono s1 n1.nx)
theorem ds_asg {tg : Expr} {g : GW} (h : DE Z X E e w) (hg : DG Z X tg g) (hs : swapsWithSole [tg] e pos.line X.env = pure false := by rfl) (hw : swappedStores [tg] e X.env = pure none := by rfl)
    (h1 : (assignEach [tg] X.env).map (·.2) = [assign tg X.env] := by rfl) : DS Z X E (.Assign [tg] e pos) (sAsg w g) := by
  obtain ⟨x, p, l⟩ := h
  obtain ⟨y, p1, l1⟩ := hg
  refine ⟨_, ps_asg p p1 hs hw h1, fun c F H σ ρ Xd DD D e k h q => l c F H σ ρ Xd _ _ e k h fun d v F1 H1 h1 e1 s1 n1 r1 => ?_⟩
  exact l1 c F1 H1 σ ρ d v _ _ e1 r1 h1 fun σ2 ρ2 F2 H2 h2 e2 s2 n2 => q.nx _ _ F2 H2 h2 e2 (s1.trans s2) (n1.nx.trans n2)
theorem ds_set {x : Str} {pos' : Pos} (i : Nat) (hN : X.N.Nodup) (h : DE Z X E e w) (hi : X.N[i]? = some x := by rfl) (hx : Loc X.env.scope x := by first | exact Or.inl rfl | exact Or.inr rfl) (hs : swapsWith e (some (.Name x pos')) pos.line X.env = pure false := by rfl)
    (hf : X.fn x = true ∨ X.env.scope.names.lookup x = some .local := by first | exact .inl rfl | exact .inr rfl) : DS Z X E (.Assign [.Name x pos'] e pos) (sAsg w (gNm i)) := by
  obtain ⟨y, p, l⟩ := h
  refine ⟨_, ps_set hN hi hx p hs hf, fun c F H σ ρ Xd DD D e k h q => l c F H σ ρ Xd _ _ e k h fun d v F1 H1 h1 e1 s1 n1 r1 => ?_⟩
  exact q.nx _ _ F1 H1 h1 (e1.setD r1) s1 n1.nx
theorem EnvOk.setOwn {i : Nat} {xs : List D} {p : Addr} {vs : List V} {F1 H1 : Hp} (e : EnvOk Z K c F H σ ρ) (e1 : EnvOk Z K c F1 H1 σ ρ) (f1 : H p = none) (f2 : F1 p = none) (f3 : H1 p = some (.lst vs)) (r : RepL K F1 xs vs) : EnvOk Z K c F1 H1 (σ.set i (some (.ref p))) (ρ.set i (.own xs)) :=
  e1.setS (s := .own xs) ⟨p, vs, rfl, f2, e.h0 f1, f3, r⟩ fun ys a _ z j zs _ hj => by
    have z : p = a := by simpa using z
    subst z
    exact e.notOwn (xs := vs) f1 hj
theorem ds_setL {x : Str} {pos' : Pos} {w : LW} (i : Nat) (hN : X.N.Nodup) (h : DLs Z X E e w) (hi : X.N[i]? = some x := by rfl) (hx : Loc X.env.scope x := by first | exact Or.inl rfl | exact Or.inr rfl) (hs : swapsWith e (some (.Name x pos')) pos.line X.env = pure false := by rfl)
    (hf : X.fn x = true ∨ X.env.scope.names.lookup x = some .local := by first | exact .inl rfl | exact .inr rfl) : DS Z X E (.Assign [.Name x pos'] e pos) (sSetL i w) := by
  obtain ⟨y, p, l⟩ := h
  refine ⟨_, ps_set hN hi hx p hs hf, fun c F H σ ρ Xd DD D e k h q => l c F H σ ρ Xd _ _ e k h fun xs a vs F1 H1 h1 e1 s1 n1 f1 f2 f3 r1 => ?_⟩
  exact q.nx _ _ F1 H1 h1 (e.setOwn e1 f1 f2 f3 r1) s1 n1.nx
theorem ds_augI {x : Str} {pos' : Pos} {op : Operator} {f : Int → Int → Int} (i : Nat) (hN : X.N.Nodup) (ho : PIp X op (ipI f)) (h : DE Z X E e w) (hi : X.N[i]? = some x := by rfl) (hx : Loc X.env.scope x := by first | exact Or.inl rfl | exact Or.inr rfl)
    (hf : X.fn x = true ∨ X.env.scope.names.lookup x = some .local := by first | exact .inl rfl | exact .inr rfl) : DS Z X E (.AugAssign (.Name x pos') op e pos) (sAugI i f w) := by
  obtain ⟨y, p, l⟩ := h
  refine ⟨_, ps_aug hN hi hx p ho hf, fun c F H σ ρ Xd DD D e k h q => ?_⟩
  unfold sAugI at h
  cases q1 : ρ[i]? with
  | none => rw [q1] at h; exact h.elim
  | some s =>
    rw [q1] at h
    cases s with
    | d x0 =>
      cases x0 with
      | int n =>
        obtain ⟨o, o1, v, o2, o3⟩ := e.slot i _ q1
        have o3 : v = V.int n := o3
        subst o2 o3
        refine ⟨V.int n, o1, l c F H σ ρ Xd _ _ e k h fun d v F1 H1 h1 e1 s1 n1 r1 => ?_⟩
        cases d with
        | int m =>
          have r1 : v = V.int m := r1
          exact ⟨n, m, rfl, r1, q.nx _ _ F1 H1 h1 (e1.setD (x := .int (f n m)) rfl) s1 n1.nx⟩
        | non => exact h1.elim
        | bl _ => exact h1.elim
        | str _ => exact h1.elim
        | tup _ => exact h1.elim
        | lst _ => exact h1.elim
        | ins _ _ _ => exact h1.elim
      | non => exact h.elim
      | bl _ => exact h.elim
      | str _ => exact h.elim
      | tup _ => exact h.elim
      | lst _ => exact h.elim
      | ins _ _ _ => exact h.elim
    | un => exact h.elim
    | own _ => exact h.elim
    | src => exact h.elim
    | obj _ _ _ => exact h.elim
/-! ### the frame's own lists -/
theorem EnvOk.mutate {i : Nat} {xs ys : List D} {p : Addr} {vs ws : List V} (e : EnvOk Z K c F H σ ρ) (h : ρ[i]? = some (SV.own xs)) (hs : σ[i]? = some (some (V.ref p))) (hp : H p = some (.lst vs)) (hf : F p = none) (h0 : c.H0 p = none) (r : RepL K F ys ws) : EnvOk Z K c F (upd H p (.lst ws)) σ (ρ.set i (.own ys)) := by
  have hl : i < ρ.length := by
    rcases Nat.lt_or_ge i ρ.length with z | z
    · exact z
    · rw [List.getElem?_eq_none_iff.mpr z] at h
      cases h
  have nF : ∀ b o, F b = some o → b ≠ p := fun b o q z => by
    rw [z, hf] at q
    cases q
  refine ⟨by rw [List.length_set]; exact e.len, fun j t h1 => ?_, fun j k us zs hjk h1 h2 => ?_, fun b o q => ?_, e.f0, e.new, fun b o q hb => ?_, fun b q => ?_, fun a fp q => ?_⟩
  · by_cases hj : j = i
    · subst hj
      rw [List.getElem?_set_self hl] at h1
      cases h1
      exact ⟨_, hs, p, ws, rfl, hf, h0, upd_same, r⟩
    · rw [List.getElem?_set_ne (Ne.symm hj)] at h1
      obtain ⟨o, o1, o2⟩ := e.slot j t h1
      refine ⟨o, o1, ?_⟩
      cases t with
      | own us =>
        obtain ⟨a, us', r1, r2, r3, r4, r5⟩ := o2
        refine ⟨a, us', r1, r2, r3, ?_, r5⟩
        have ha : a ≠ p := fun z => e.sep j i us xs hj h1 h (by rw [o1, hs, r1, z])
        rw [upd_ne ha]
        exact r4
      | un => trivial
      | d y => exact o2
      | src => exact o2
      | obj px C fs => exact obj_kx o2 (Same.refl _) (fun a u z _ nl => by rw [upd_ne (fun z2 => nl vs (by rw [z2, hp] at z; exact (Option.some.inj z).symm))]; exact z) fun b z => .inl z
  · have f : ∀ (j : Nat) us, (ρ.set i (SV.own ys))[j]? = some (SV.own us) → ∃ us', ρ[j]? = some (SV.own us') := fun j us h1 => by
      by_cases hj : j = i
      · subst hj
        exact ⟨xs, h⟩
      · rw [List.getElem?_set_ne (Ne.symm hj)] at h1
        exact ⟨us, h1⟩
    obtain ⟨u1, h1⟩ := f j us h1
    obtain ⟨u2, h2⟩ := f k zs h2
    exact e.sep j k u1 u2 hjk h1 h2
  · rw [upd_ne (nF b o q)]
    exact e.fh b o q
  · have hb2 : b ≠ p := fun z => by rw [z, h0] at q; cases q
    rw [upd_ne hb2]
    exact e.keep b o q hb
  · have hb2 : b ≠ p := fun z => by rw [z, h0] at q; exact q rfl
    rw [upd_ne hb2]
    exact e.all b q
  · obtain ⟨q1, q2⟩ := e.src a fp q
    refine ⟨Z.loc q1 fun b hb => ?_, q2⟩
    have hb2 : b ≠ p := fun z => (q2 b hb).2 (by rw [z]; exact h0)
    rw [upd_ne hb2]
theorem EnvOk.own_at {i : Nat} {xs : List D} (e : EnvOk Z K c F H σ ρ) (h : ρ[i]? = some (SV.own xs)) : ∃ p vs, σ[i]? = some (some (V.ref p)) ∧ F p = none ∧ c.H0 p = none ∧ H p = some (.lst vs) ∧ RepL K F xs vs := by
  obtain ⟨o, o1, a, vs, r1, r2, r3, r4, r5⟩ := e.slot i _ h
  exact ⟨a, vs, by rw [o1, r1], r2, r3, r4, r5⟩
theorem nx_mut {H : Hp} {p : Addr} {o : HO} : Nx H (upd H p o) := fun b h => by
  by_cases hb : b = p
  · subst hb
    rw [upd_same]
    simp
  · rw [upd_ne hb]
    exact h
theorem own_cases {i : Nat} {P : List D → Prop} (h : match ρ[i]? with
  | some (SV.own xs) => P xs
  | _ => False) : ∃ xs, ρ[i]? = some (SV.own xs) ∧ P xs := by
  cases q1 : ρ[i]? with
  | none => rw [q1] at h; exact h.elim
  | some s =>
    rw [q1] at h
    cases s with
    | own xs => exact ⟨xs, rfl, h⟩
    | un => exact h.elim
    | src => exact h.elim
    | d _ => exact h.elim
    | obj _ _ _ => exact h.elim
theorem ds_append {x : Str} {p p1 p2 p3 : Pos} (i : Nat) (h : DE Z X E e w) (hN : X.N[i]? = some x := by rfl) (hv : Vis X.env.scope x := by first | exact Or.inl rfl | exact Or.inr (Or.inl rfl) | exact Or.inr (Or.inr rfl)) (hd : (x == ("__debug__" : Str)) = false := by decide)
    (hcd : (x == ("__classdict__" : Str)) = false := by decide) (hpe : ∀ {ta te : TE}, PE X (.Name x p) ta → PE X e te → PE X (.Call (.Attribute (.Name x p) "append" p1) [e] [] p2) (tBM X.K "list" rAppend ta (tCons te tNil)) := by
      exact fun ha he => pe_bm PySem.F.plainAttrs_list PySem.F.slot_list_append PySem.F.type_list_append mt_append ha (pa_cons he pa_nil)) (hs : swapsWith (.Call (.Attribute (.Name x p) "append" p1) [e] [] p2) none p3.line X.env = pure false := by rfl) :
    DS Z X E (.Expr (.Call (.Attribute (.Name x p) "append" p1) [e] [] p2) p3) (sAppend i w) := by
  obtain ⟨y, py, l⟩ := h
  refine ⟨_, ps_expr (hpe (pe_var hN hv hd hcd) py) hs, fun c F H σ ρ Xd DD D e k h q => ?_⟩
  obtain ⟨xs, q1, h⟩ := own_cases h
  obtain ⟨a, vs, h2, h3, h4, h5, h6⟩ := e.own_at q1
  refine ⟨.ref a, h2, .inl ⟨rfl, vs, SqL.of h5⟩, ?_⟩
  refine l c F H σ ρ Xd _ _ e k h fun d v F1 H1 h1 e1 s1 n1 r1 => ?_
  obtain ⟨a', ws, h2', h3', h4', h5', h6'⟩ := e1.own_at q1
  rw [h2] at h2'
  cases h2'
  exact ⟨a, ws, v, rfl, rfl, h5', by rw [h6'.len]; exact szlt h1.1, q.nx _ _ F1 _ h1.2 (e1.mutate q1 h2 h5' h3' h4' (h6'.app (RepL.one r1))) s1 (n1.nx.trans nx_mut)⟩
theorem ixN_len {n : Nat} {k : Int} {j : Nat} (h : ixN n k = some j) : j < n := (ixN_seq h).2.1
theorem ds_setItem {x : Str} {p p1 : Pos} {ke : Expr} {wk : EW} (i : Nat) (h : DE Z X E e w) (hk : DE Z X E ke wk) (hN : X.N[i]? = some x := by rfl) (hv : Vis X.env.scope x := by first | exact Or.inl rfl | exact Or.inr (Or.inl rfl) | exact Or.inr (Or.inr rfl)) (hd : (x == ("__debug__" : Str)) = false := by decide)
    (hcd : (x == ("__classdict__" : Str)) = false := by decide)
    (hps : ∀ {to ti te : TE}, PE X (.Name x p) to → PE X ke ti → PE X e te → PS X (.Assign [.Subscript (.Name x p) ke p1] e pos) (tAsg te (gSub to ti rSetL)) := by exact fun h1 h2 h3 => ps_asg h3 (pg_sub h1 h2 set_list)) :
    DS Z X E (.Assign [.Subscript (.Name x p) ke p1] e pos) (sSetItem i wk w) := by
  obtain ⟨y, py, l⟩ := h
  obtain ⟨y2, py2, l2⟩ := hk
  refine ⟨_, hps (pe_var hN hv hd hcd) py2 py, fun c F H σ ρ Xd DD D e k h q => ?_⟩
  obtain ⟨xs, q1, h⟩ := own_cases h
  refine l c F H σ ρ Xd _ _ e k h fun d v F1 H1 h1 e1 s1 n1 r1 => ?_
  obtain ⟨a, ws, h2, h3, h4, h5, h6⟩ := e1.own_at q1
  refine ⟨.ref a, h2, ?_⟩
  refine l2 c F1 H1 σ ρ Xd _ _ e1 (k.mono s1 n1.nx) h1 fun d2 v2 F2 H2 h1 e2 s2 n2 r2 => ?_
  obtain ⟨a', ws, h2', h3, h4, h5, h6⟩ := e2.own_at q1
  rw [h2] at h2'
  cases h2'
  cases d2 with
  | int m =>
    have r2 : v2 = V.int m := r2
    cases q3 : ixN xs.length m with
    | none =>
      have h1 : (match ixN xs.length m with
        | some n => DD.nx (ρ.set i (.own (xs.set n d)))
        | none => False) := h1
      rw [q3] at h1
      exact h1.elim
    | some j =>
      have h1 : (match ixN xs.length m with
        | some n => DD.nx (ρ.set i (.own (xs.set n d)))
        | none => False) := h1
      rw [q3] at h1
      exact ⟨a, ws, m, j, rfl, r2, h5, by rw [h6.len]; exact q3, q.nx _ _ F2 _ h1 (e2.mutate q1 h2 h5 h3 h4 (h6.set j (Rep.mono s2 _ _ r1))) (s1.trans s2) ((n1.nx.trans n2.nx).trans nx_mut)⟩
  | non => exact h1.elim
  | bl _ => exact h1.elim
  | str _ => exact h1.elim
  | tup _ => exact h1.elim
  | lst _ => exact h1.elim
  | ins _ _ _ => exact h1.elim
theorem ds_pop {x : Str} {p p1 p2 p3 : Pos} (i : Nat) (hN : X.N[i]? = some x := by rfl) (hv : Vis X.env.scope x := by first | exact Or.inl rfl | exact Or.inr (Or.inl rfl) | exact Or.inr (Or.inr rfl)) (hd : (x == ("__debug__" : Str)) = false := by decide)
    (hcd : (x == ("__classdict__" : Str)) = false := by decide) (hpe : ∀ {ta : TE}, PE X (.Name x p) ta → PE X (.Call (.Attribute (.Name x p) "pop" p1) [] [] p2) (tBM0 X.K "list" rPop ta) := by
      exact fun ha => pe_bm0 PySem.F.plainAttrs_list PySem.F.slot_list_pop PySem.F.type_list_pop mt_pop ha) (hs : swapsWith (.Call (.Attribute (.Name x p) "pop" p1) [] [] p2) none p3.line X.env = pure false := by rfl) :
    DS Z X E (.Expr (.Call (.Attribute (.Name x p) "pop" p1) [] [] p2) p3) (sPop i) := by
  refine ⟨_, ps_expr (hpe (pe_var hN hv hd hcd)) hs, fun c F H σ ρ Xd DD D e k h q => ?_⟩
  obtain ⟨xs, q1, h⟩ := own_cases h
  obtain ⟨a, vs, h2, h3, h4, h5, h6⟩ := e.own_at q1
  have hl : 0 < vs.length := by
    rw [h6.len]
    exact List.length_pos_iff.mpr h.1
  exact ⟨.ref a, h2, .inl ⟨rfl, vs, SqL.of h5⟩, a, vs, vs[vs.length - 1]'(by omega), rfl, rfl, h5, List.getElem?_eq_getElem (by omega), q.nx _ _ F _ h.2 (e.mutate q1 h2 h5 h3 h4 h6.dropLast) (Same.refl _) nx_mut⟩
/-- the own list is data from here on -/
theorem EnvOk.freezeS {i : Nat} {xs : List D} (e : EnvOk Z K c F H σ ρ) (h : ρ[i]? = some (SV.own xs)) : ∃ F', Same F F' ∧ EnvOk Z K c F' H σ (ρ.set i (.d (.lst xs))) := by
  obtain ⟨a, vs, h2, h3, h4, h5, h6⟩ := e.own_at h
  have sF : Same F (upd F a (.lst vs)) := fun b u hb => by
    rw [upd_ne (ne_of_none hb h3)]
    exact hb
  have w : EnvOk Z K c F H σ (ρ.set i .un) := by
    refine ⟨by rw [List.length_set]; exact e.len, fun j t h1 => ?_, fun j k us zs hjk h1 h2 => ?_, e.fh, e.f0, e.new, e.keep, e.all, e.src⟩
    · by_cases hj : j = i
      · subst hj
        have hl : j < ρ.length := by
          rcases Nat.lt_or_ge j ρ.length with z | z
          · exact z
          · rw [List.getElem?_eq_none_iff.mpr z] at h
            cases h
        rw [List.getElem?_set_self hl] at h1
        cases h1
        exact ⟨_, h2, trivial⟩
      · rw [List.getElem?_set_ne (Ne.symm hj)] at h1
        exact e.slot j t h1
    · have f : ∀ (j : Nat) us, (ρ.set i SV.un)[j]? = some (SV.own us) → ρ[j]? = some (SV.own us) := fun j us h1 => by
        by_cases hj : j = i
        · subst hj
          rcases Nat.lt_or_ge j ρ.length with z | z
          · rw [List.getElem?_set_self z] at h1
            cases h1
          · rw [List.getElem?_eq_none_iff.mpr (by rw [List.length_set]; exact z)] at h1
            cases h1
        · rw [List.getElem?_set_ne (Ne.symm hj)] at h1
          exact h1
      exact e.sep j k us zs hjk (f j us h1) (f k zs h2)
  have w2 := w.freeze h3 h4 h5 (fun j ys hj z => by
    by_cases hji : j = i
    · subst hji
      rcases Nat.lt_or_ge j ρ.length with q | q
      · rw [List.getElem?_set_self q] at hj
        cases hj
      · rw [List.getElem?_eq_none_iff.mpr (by rw [List.length_set]; exact q)] at hj
        cases hj
    · rw [List.getElem?_set_ne (Ne.symm hji)] at hj
      exact e.sep j i ys xs hji hj h (z.trans h2.symm))
  refine ⟨_, sF, ?_⟩
  have w3 := w2.setD (i := i) (x := .lst xs) (v := .ref a) ⟨a, vs, rfl, SqL.of upd_same, RepL.mono sF _ _ h6⟩
  rw [List.set_set] at w3
  have e3 : σ.set i (some (V.ref a)) = σ := by
    apply List.ext_getElem?
    intro j
    by_cases hj : j = i
    · subst hj
      rw [List.getElem?_set_self (List.getElem?_eq_some_iff.mp h2).1, h2]
    · rw [List.getElem?_set_ne (Ne.symm hj)]
  rw [e3] at w3
  exact w3
theorem dss_freeze {sts : List Stmt} (i : Nat) (h : DSs Z X E sts t) : DSs Z X E sts (sFreeze i t) := by
  obtain ⟨y, p, l⟩ := h
  refine ⟨y, p, fun c F H σ ρ Xd DD D e k h q => ?_⟩
  unfold sFreeze at h
  cases q1 : ρ[i]? with
  | none => rw [q1] at h; exact h.elim
  | some s =>
    rw [q1] at h
    cases s with
    | own xs =>
      obtain ⟨F', s1, e1⟩ := e.freezeS q1
      exact l c F' H σ _ Xd DD D e1 (k.mono s1 (Nx.refl _)) h (q.mono s1 (Nx.refl _))
    | d _ => exact l c F H σ ρ Xd DD D e k h q
    | un => exact h.elim
    | src => exact h.elim
    | obj _ _ _ => exact h.elim
theorem de_ixOwn {x : Str} {p : Pos} (i : Nat) (hb : DE Z X E b wb) (hs : PlainIx b := by exact fun _ _ => rfl) (hN : X.N[i]? = some x := by rfl) (hv : Vis X.env.scope x := by first | exact Or.inl rfl | exact Or.inr (Or.inl rfl) | exact Or.inr (Or.inr rfl)) (hd : (x == ("__debug__" : Str)) = false := by decide)
    (hcd : (x == ("__classdict__" : Str)) = false := by decide) : DE Z X E (.Subscript (.Name x p) b pos) (wIxOwn i wb) := by
  obtain ⟨y, py, l⟩ := hb
  refine ⟨_, pe_ix ix_list (pe_var hN hv hd hcd) py hs, fun c F H σ ρ Xd Qd Qv e k h q => ?_⟩
  obtain ⟨xs, q1, h⟩ := own_cases h
  obtain ⟨a, vs, h2, h3, h4, h5, h6⟩ := e.own_at q1
  refine ⟨.ref a, h2, ?_⟩
  refine l c F H σ ρ Xd _ _ e k h fun d v F1 H1 h1 e1 s1 n1 r1 => ?_
  obtain ⟨a', ws, h2', h3', h4', h5', h6'⟩ := e1.own_at q1
  rw [h2] at h2'
  cases h2'
  cases d with
  | int m =>
    have r1 : v = V.int m := r1
    cases q3 : atI xs m with
    | none =>
      have h1 : (match atI xs m with
        | some d => Qd d
        | none => False) := h1
      rw [q3] at h1
      exact h1.elim
    | some d =>
      have h1 : (match atI xs m with
        | some d => Qd d
        | none => False) := h1
      rw [q3] at h1
      obtain ⟨u, z1, z2⟩ := atI_rep h6' q3
      exact ⟨a, ws, m, u, rfl, r1, SqL.of h5', z1, q d u F1 H1 h1 e1 s1 n1 z2⟩
  | non => exact h1.elim
  | bl _ => exact h1.elim
  | str _ => exact h1.elim
  | tup _ => exact h1.elim
  | lst _ => exact h1.elim
  | ins _ _ _ => exact h1.elim
theorem elk0 {F H : Hp} : ELk Z K c F H E (fun _ _ => False) := fun _ _ _ _ _ _ _ z => z.elim
/-- behind an expression that was reckoned with slot i as data, its value being no object: all is as it was -/
theorem EnvOk.unfreeze {i : Nat} {xs : List D} {F' H' : Hp} (e : EnvOk Z K c F H σ ρ) (h : ρ[i]? = some (SV.own xs)) {Fa : Hp} (n : Kx c.fp Fa H F' H') (e' : EnvOk Z K c F' H' σ (ρ.set i (.d (.lst xs)))) : EnvOk Z K c F H' σ ρ := by
  have up : ∀ a u, H a = some u → c.H0 a = none → H' a = some u := fun a u q q0 => n.kp a u q fun z => by
    obtain ⟨x, fp, z1, z2⟩ := Cfg.of_fp z
    exact (e.src x fp z1).2 a z2 |>.2 q0
  refine ⟨e.len, fun j t h1 => ?_, e.sep, fun b u hb => ?_, e.f0, e.new, e'.keep, e'.all, fun x fp q => ⟨(e'.src x fp q).1, (e.src x fp q).2⟩⟩
  · obtain ⟨o, o1, o2⟩ := e.slot j t h1
    refine ⟨o, o1, ?_⟩
    cases t with
    | own ys =>
      obtain ⟨a, vs, r1, r2, r3, r4, r5⟩ := o2
      exact ⟨a, vs, r1, r2, r3, up _ _ r4 r3, r5⟩
    | un => trivial
    | d y => exact o2
    | src => exact o2
    | obj px C fs => exact obj_kx o2 (Same.refl _) (fun a u z z0 _ => up _ _ z z0) fun b z => .inl z
  · refine n.kp b u (e.fh b u hb) fun z => ?_
    obtain ⟨x, fp, z1, z2⟩ := Cfg.of_fp z
    rw [((e.src x fp z1).2 b z2).1] at hb
    cases hb
theorem rep_scalar {F F' : Hp} {d : D} {v : V} (h : scalarD d) (r : Rep K F d v) : Rep K F' d v := by
  cases d with
  | non => exact r
  | bl _ => exact r
  | int _ => exact r
  | str _ => exact r
  | tup _ => exact h.elim
  | lst _ => exact h.elim
  | ins _ _ _ => exact h.elim
theorem de_borrow (i : Nat) (h : DE Z X E e w) : DE Z X E e (wBorrow i w) := by
  obtain ⟨y, py, l⟩ := h
  refine ⟨y, py, fun c F H σ ρ Xd Qd Qv e k h q => ?_⟩
  obtain ⟨xs, q1, h⟩ := own_cases h
  obtain ⟨F', s1, e1⟩ := e.freezeS q1
  refine l c F' H σ _ _ _ _ e1 elk0 h fun d v F1 H1 h1 e2 s2 n2 r1 => ?_
  exact q d v F H1 h1.2 (e.unfreeze q1 n2 e2) (Same.refl _) ⟨n2.nx, n2.kp, fun _ z => .inl z⟩ (rep_scalar h1.1 r1)
theorem dt_borrow {w : TW} (i : Nat) (h : DT Z X E e w) : DT Z X E e (tBorrow i w) := by
  obtain ⟨y, py, l⟩ := h
  refine ⟨y, py, fun c F H σ ρ Xd Qd Qv e k h q => ?_⟩
  obtain ⟨xs, q1, h⟩ := own_cases h
  obtain ⟨F', s1, e1⟩ := e.freezeS q1
  refine l c F' H σ _ _ _ _ e1 elk0 h fun d F1 H1 h1 e2 s2 n2 => ?_
  exact q d F H1 h1 (e.unfreeze q1 n2 e2) (Same.refl _) ⟨n2.nx, n2.kp, fun _ z => .inl z⟩
end
end DL
set_option linter.all false
set_option autoImplicit false
set_option maxHeartbeats 2000000
/-! Loops and comprehensions. -/
namespace DL
open PySem PySem.Spec PyProof.Rows L2

/-- what an iterator gives, turn by turn -/
def ItemsOk (K : PySem.W.Frag) (F : Hp) (J : It) (ds : List D) : Prop := ∃ (G : Hp → Prop) (Y : Nat → Hp → V → Hp → Prop), Walk J ds.length G Y ∧ (∀ H, Same F H → G H) ∧
  ∀ (i : Nat) (d : D) (H1 : Hp) (x : V) (H2 F1 : Hp), ds[i]? = some d → Y i H1 x H2 → Same F F1 → Same F1 H1 → ∃ F2, Ext F1 H1 F2 H2 ∧ Rep K F2 d x
def LI (Z : SrcK) (K : PySem.W.Frag) (E : L2.St → XK) (t : TI) (w : IW) : Prop :=
  ∀ (c : Cfg) (F H : Hp) (σ : L2.St) (ρ : Env) (Xd : XD) (Qd : List D → Prop) (R : It → Hp → Prop), EnvOk Z K c F H σ ρ → ELk Z K c F H E Xd → w Xd ρ Qd →
    (∀ ds J F' H', Qd ds → EnvOk Z K c F' H' σ ρ → Same F F' → Kx c.fp F H F' H' → ItemsOk K F' J ds → R J H') → t σ H R
def DI (Z : SrcK) (X : Cx) (E : L2.St → XK) (tg iter : Expr) (w : IW) : Prop := ∃ t, PI X tg iter t ∧ LI Z X.K E t w

section
variable {Z : SrcK} {X : Cx} {E : L2.St → XK} {K : PySem.W.Frag} {a b e tg : Expr} {wa wb wc : EW} {pos : Pos} {c : Cfg} {F H : Hp} {σ : L2.St} {ρ : Env}
def iSeqT (K : PySem.W.Frag) (tl : TE) : TI := fun σ H R => tl σ H fun x H1 => (∃ a, x = .ref a ∧ (∃ xs, SqL K H1 a xs) ∧ R (Itl K a) H1) ∨ (∃ a, x = .ref a ∧ (∃ xs, SqT K H1 a xs) ∧ R (Itt K a) H1) ∨ ∃ s, x = .str s ∧ R (Its s) H1
theorem pi_seqT {l : Expr} {tl : TE} (hl : PE X l tl) : PI X tg l (iSeqT X.K tl) := by
  refine ⟨fun pins s σ H R I h => ?_⟩
  refine thn (hl.run pins s σ H _ I h) fun v s1 ⟨x, H1, I1, r1, q1⟩ => ?_
  rcases q1 with ⟨a, e, ⟨xs, hq⟩, q⟩ | ⟨a, e, ⟨xs, hq⟩, q⟩ | ⟨y, ex, q⟩
  · subst e
    cases r1
    obtain ⟨its, rv, p, hz⟩ := I1.list hq
    refine wpAny_pyIter_list p.isList ?_
    refine ⟨s1.heap.objs.size, [s1.heap.objs.size], _, _, H1, rfl, I1.kept (t' := s1.toks) fun b o e => Heap.get?_push_of_some _ e, turn_list a _, ⟨_, Heap.get?_push_size _ rfl, rfl, rfl⟩, fun b hb => ?_, q⟩
    have e : b = s1.heap.objs.size := by simpa using hb
    subst e
    exact I1.fpOk (Nat.le_refl _) (I1.hok.fresh (Nat.le_refl _))
  · subst e
    cases r1
    obtain ⟨its, rv, p, hz⟩ := I1.tuple hq
    refine wpAny_pyIter_tuple (show s1.heap.IsTuple a its.toArray from p) ?_
    refine ⟨s1.heap.objs.size, [s1.heap.objs.size], _, _, H1, rfl, I1.kept (t' := s1.toks) fun b o e => Heap.get?_push_of_some _ e, turn_tuple a _, ⟨_, Heap.get?_push_size _ rfl, rfl, rfl⟩, fun b hb => ?_, q⟩
    have e : b = s1.heap.objs.size := by simpa using hb
    subst e
    exact I1.fpOk (Nat.le_refl _) (I1.hok.fresh (Nat.le_refl _))
  · subst ex
    obtain ⟨t, rfl⟩ := r1
    cases ha : y.cps.all (· < 128)
    · exact wpAny_pyIter_wide ha (pi_one (tk := s1.toks) I1 _ (turn_str _ y t "str_iterator" (.inr rfl)) ⟨_, Heap.get?_push_size _ rfl, rfl, rfl⟩ q)
    · exact wpAny_pyIter_ascii ha (pi_one (tk := s1.toks) I1 _ (turn_str _ y t "str_ascii_iterator" (.inl rfl)) ⟨_, Heap.get?_push_size _ rfl, rfl, rfl⟩ q)
theorem items_list {a : Addr} {xs : List D} {vs : List V} (h : SqL K F a vs) (r : RepL K F xs vs) : ItemsOk K F (Itl K a) xs := by
  refine ⟨fun H => SqL K H a vs, YAt vs, r.len ▸ walk_list, fun H s => same_l s h, fun i d H1 x H2 F1 hd y s1 s2 => ?_⟩
  obtain ⟨e1, e2⟩ := y
  subst e1
  obtain ⟨v, h1, h2⟩ := r.get hd
  rw [e2] at h1
  cases h1
  exact ⟨F1, Ext.refl s2, Rep.mono s1 _ _ h2⟩
theorem items_tup {a : Addr} {xs : List D} {vs : List V} (h : SqT K F a vs) (r : RepL K F xs vs) : ItemsOk K F (Itt K a) xs := by
  refine ⟨fun H => SqT K H a vs, YAt vs, r.len ▸ walk_tup, fun H s => same_t s h, fun i d H1 x H2 F1 hd y s1 s2 => ?_⟩
  obtain ⟨e1, e2⟩ := y
  subst e1
  obtain ⟨v, h1, h2⟩ := r.get hd
  rw [e2] at h1
  cases h1
  exact ⟨F1, Ext.refl s2, Rep.mono s1 _ _ h2⟩
theorem items_str {z : Str} : ItemsOk K F (Its z) (z.cps.toList.map fun c => .str ⟨#[c]⟩) := by
  refine ⟨fun _ => True, _, (by
    have e : (z.cps.toList.map fun c => (D.str ⟨#[c]⟩)).length = z.cps.size := by simp
    rw [e]
    exact walk_str), fun _ _ => trivial, fun i d H1 x H2 F1 hd y s1 s2 => ?_⟩
  obtain ⟨e1, cc, e2, e3⟩ := y
  subst e1
  rw [List.getElem?_map] at hd
  have e4 : z.cps.toList[i]? = some cc := by simpa using e2
  rw [e4] at hd
  cases hd
  exact ⟨F1, Ext.refl s2, e3⟩
theorem di_seq (h : DE Z X E e wa) : DI Z X E tg e (iSeq wa) := by
  obtain ⟨t, p, l⟩ := h
  refine ⟨_, pi_seqT p, fun c F H σ ρ Xd Qd R e k h q => ?_⟩
  refine l c F H σ ρ Xd _ _ e k h fun d v F1 H1 h1 e1 s1 n1 r1 => ?_
  cases d with
  | lst xs =>
    obtain ⟨a, vs, e2, h2, h3⟩ := r1
    exact .inl ⟨a, e2, ⟨vs, same_l e1.fh h2⟩, q xs _ F1 H1 h1 e1 s1 n1 (items_list h2 h3)⟩
  | tup xs =>
    obtain ⟨a, vs, e2, h2, h3⟩ := r1
    exact .inr (.inl ⟨a, e2, ⟨vs, same_t e1.fh h2⟩, q xs _ F1 H1 h1 e1 s1 n1 (items_tup h2 h3)⟩)
  | str z => exact .inr (.inr ⟨z, r1, q _ _ F1 H1 h1 e1 s1 n1 items_str⟩)
  | non => exact h1.elim
  | bl _ => exact h1.elim
  | int _ => exact h1.elim
  | ins _ _ _ => exact h1.elim
theorem rangeD_len {lo : Int} {n : Nat} : (rangeD lo n).length = n := by simp [rangeD]
theorem rangeD_get {lo : Int} {n i : Nat} {d : D} (h : (rangeD lo n)[i]? = some d) : d = .int (lo + (i : Int)) ∧ i < n := by
  unfold rangeD at h
  rw [List.getElem?_map] at h
  by_cases hi : i < n
  · rw [List.getElem?_eq_getElem (by simpa using hi)] at h
    simp only [List.getElem_range, Option.map_some, Option.some.injEq] at h
    exact ⟨h.symm, hi⟩
  · rw [List.getElem?_eq_none_iff.mpr (by simp; omega)] at h
    cases h
theorem items_range {lo : Int} {n : Nat} : ItemsOk K F (Itr lo n) (rangeD lo n) := by
  refine ⟨fun _ => True, YFn fun i => .int (lo + i), rangeD_len.symm ▸ walk_range, fun _ _ => trivial, fun i d H1 x H2 F1 hd y s1 s2 => ?_⟩
  obtain ⟨e1, e2⟩ := y
  subst e1
  rw [(rangeD_get hd).1]
  exact ⟨F1, Ext.refl s2, e2⟩
theorem di_range1 {p : Pos} (hm : X.mg "range" = none) (ha : DE Z X E a wa) (hg : Gl X "range" := by rfl) (hs : starEach [a] X.env = [(false, eval a X.env)] := by rfl) : DI Z X E tg (.Call (.Name "range" p) [a] [] pos) (iRange1 wa) := by
  obtain ⟨t, pa, l⟩ := ha
  refine ⟨_, pi_range1 hg hm (pa_cons pa pa_nil hs) hs, fun c F H σ ρ Xd Qd R e k h q => ?_⟩
  refine l c F H σ ρ Xd _ _ e k h fun d v F1 H1 h1 e1 s1 n1 r1 => ?_
  cases d with
  | int n =>
    have r1 : v = V.int n := r1
    exact ⟨n, by rw [r1], h1.1.1, h1.1.2, q _ _ F1 H1 h1.2 e1 s1 n1 items_range⟩
  | non => exact h1.elim
  | bl _ => exact h1.elim
  | str _ => exact h1.elim
  | tup _ => exact h1.elim
  | lst _ => exact h1.elim
  | ins _ _ _ => exact h1.elim
theorem di_range2 {p : Pos} (hm : X.mg "range" = none) (ha : DE Z X E a wa) (hb : DE Z X E b wb) (hg : Gl X "range" := by rfl) (hs : starEach [a, b] X.env = [(false, eval a X.env), (false, eval b X.env)] := by rfl) (hs2 : starEach [b] X.env = [(false, eval b X.env)] := by rfl) :
    DI Z X E tg (.Call (.Name "range" p) [a, b] [] pos) (iRange2 wa wb) := by
  obtain ⟨t, pa, l⟩ := ha
  obtain ⟨u, pb, l2⟩ := hb
  refine ⟨_, pi_range2 hg hm (pa_cons pa (pa_cons pb pa_nil hs2) (by rw [hs, hs2])) hs hs2, fun c F H σ ρ Xd Qd R e k h q => ?_⟩
  refine l c F H σ ρ Xd _ _ e k h fun d v F1 H1 h1 e1 s1 n1 r1 => ?_
  refine l2 c F1 H1 σ ρ Xd _ _ e1 (k.mono s1 n1.nx) h1 fun d2 v2 F2 H2 h2 e2 s2 n2 r2 => ?_
  cases d with
  | int m =>
    cases d2 with
    | int n =>
      have r1 : v = V.int m := r1
      have r2 : v2 = V.int n := r2
      subst r1 r2
      exact ⟨m, n, rfl, h2.1, q _ _ F2 H2 h2.2 e2 (s1.trans s2) (n1.trans n2) items_range⟩
    | non => exact h2.elim
    | bl _ => exact h2.elim
    | str _ => exact h2.elim
    | tup _ => exact h2.elim
    | lst _ => exact h2.elim
    | ins _ _ _ => exact h2.elim
  | non => exact h2.elim
  | bl _ => exact h2.elim
  | str _ => exact h2.elim
  | tup _ => exact h2.elim
  | lst _ => exact h2.elim
  | ins _ _ _ => exact h2.elim
/-! ### for -/
theorem ls_for {ti : TI} {g : TG} {tb : TS} {wi : IW} {gw : GW} {wb : SW} (hi : LI Z K E ti wi) (hg : LG Z K g gw) (hb : LS Z K E tb wb) : LS Z K E (tFor ti g tb) (sFor wi gw wb) := fun c F H σ ρ Xd DD D e l h q => by
  refine hi c F H σ ρ Xd _ _ e l h fun ds J F1 H1 h1 e1 s1 n1 it => ?_
  obtain ⟨G, Y, w, hG, hY⟩ := it
  refine for_it w (fun i σ' H' => ∃ F' ρ', EnvOk Z K c F' H' σ' ρ' ∧ Same F1 F' ∧ Nx H1 H' ∧ forGo gw wb Xd DD (ds.drop i) ρ') ⟨F1, ρ, e1, Same.refl _, Nx.refl _, h1⟩ (fun i σ' H' _ ⟨F', ρ', e', s', _, _⟩ => hG _ (s'.trans e'.fh)) ?_ ?_
  · rintro i x σ' Ha Hb hi' ⟨F', ρ', e', s', n', k⟩ y
    obtain ⟨F2, x2, r2⟩ := hY i ds[i] Ha x Hb F' (List.getElem?_eq_getElem hi') y s' e'.fh
    rw [List.drop_eq_getElem_cons hi'] at k
    have e2 := e'.ext x2
    refine hg c F2 Hb σ' ρ' ds[i] x _ _ e2 r2 k fun σ3 ρ3 F3 H3 h3 e3 s3 n3 => ?_
    have sF : Same F1 F3 := (s'.trans x2.ff).trans s3
    have nF : Nx H1 H3 := (n'.trans (Same.nx x2.hh)).trans n3
    exact hb c F3 H3 σ3 ρ3 Xd _ _ e3 (l.mono (s1.trans sF) (n1.nx.trans nF)) h3 ⟨fun σ4 ρ4 F4 H4 z1 z2 z3 z4 => ⟨F4, ρ4, z2, sF.trans z3, nF.trans z4, z1⟩, (q.mono (s1.trans sF) (n1.nx.trans nF)).rt, (q.mono (s1.trans sF) (n1.nx.trans nF)).nx,
      fun σ4 ρ4 F4 H4 z1 z2 z3 z4 => ⟨F4, ρ4, z2, sF.trans z3, nF.trans z4, z1⟩⟩
  · rintro σ' H' ⟨F', ρ', e', s', n', k⟩
    rw [List.drop_length] at k
    exact q.nx σ' ρ' F' H' k e' (s1.trans s') (n1.nx.trans n')
theorem ds_for {iter : Expr} {body : List Stmt} {wi : IW} {gw : GW} {wb : SW} (hp : PassesOwn (model X.prog X.w) X.A X.env X.xe) (hi : DI Z X E tg iter wi) (hg : DG Z X tg gw) (hb : DSs Z X E body wb) (hc : X.calm = true := by rfl)
    (hs : ∀ x, foldedSetIterable iter X.env x = pure x := by intro _; rfl) : DS Z X E (.For tg iter body [] pos) (sFor wi gw wb) := by
  obtain ⟨t, p, l⟩ := hi
  obtain ⟨t1, p1, l1⟩ := hg
  obtain ⟨t2, p2, l2⟩ := hb
  exact ⟨_, ps_for hp hc p p1 p2 hs, ls_for l l1 l2⟩
/-! ### while -/
theorem ls_while {tc : TT} {tb : TS} {wc : TW} {wb : SW} (hc : LT Z K E tc wc) (hb : LS Z K E tb wb) : LS Z K E (tWhile tc tb) (sWhile wc wb) := fun c F H σ ρ Xd DD D e l h q => by
  obtain ⟨I, ⟨m0, i0⟩, step⟩ := h
  refine ⟨fun m σ' H' => ∃ F' ρ', EnvOk Z K c F' H' σ' ρ' ∧ Same F F' ∧ Nx H H' ∧ I m ρ', ⟨m0, F, ρ, e, Same.refl _, Nx.refl _, i0⟩, ?_⟩
  rintro m σ' H' ⟨F', ρ', e', s', n', i'⟩
  refine hc c F' H' σ' ρ' Xd _ _ e' (l.mono s' n') (step m ρ' i') fun b F1 H1 h1 e1 s1 n1 => ?_
  have sF := s'.trans s1
  have nF := n'.trans n1.nx
  cases b with
  | true =>
    rw [if_pos rfl] at h1 ⊢
    refine ⟨fun σ4 H4 => ∃ m', m' < m ∧ ∃ F4 ρ4, EnvOk Z K c F4 H4 σ4 ρ4 ∧ Same F F4 ∧ Nx H H4 ∧ I m' ρ4, fun σ4 H4 z => z, ?_⟩
    exact hb c F1 H1 σ' ρ' Xd _ _ e1 (l.mono sF nF) h1 ⟨fun σ4 ρ4 F4 H4 ⟨m', z0, z1⟩ z2 z3 z4 => ⟨m', z0, F4, ρ4, z2, sF.trans z3, nF.trans z4, z1⟩, (q.mono sF nF).rt, (q.mono sF nF).nx,
      fun σ4 ρ4 F4 H4 ⟨m', z0, z1⟩ z2 z3 z4 => ⟨m', z0, F4, ρ4, z2, sF.trans z3, nF.trans z4, z1⟩⟩
  | false =>
    rw [if_neg Bool.false_ne_true] at h1 ⊢
    exact q.nx σ' ρ' F1 H1 h1 e1 sF nF
theorem ds_while {cnd : Expr} {body : List Stmt} {wc : TW} {wb : SW} (hp : PassesOwn (model X.prog X.w) X.A X.env X.xe) (hc : DT Z X E cnd wc) (hb : DSs Z X E body wb) : DS Z X E (.While cnd body [] pos) (sWhile wc wb) := by
  obtain ⟨t, p, l⟩ := hc
  obtain ⟨t1, p1, l1⟩ := hb
  exact ⟨_, ps_while hp p p1, ls_while l l1⟩
/-! ### comprehensions -/
theorem EnvOk.wipe (e : EnvOk Z K c F H σ ρ) : ∀ vs : List Nat, EnvOk Z K c F H (L2.wipe σ vs) (wipeW ρ vs)
  | [] => e
  | v :: vs => by
    have w := EnvOk.wipe e vs
    refine ⟨by
      show ((L2.wipe σ vs).set v none).length = ((wipeW ρ vs).set v .un).length
      rw [List.length_set, List.length_set]; exact w.len, fun j t h1 => ?_, fun j k us zs hjk h1 h2 => ?_, w.fh, w.f0, w.new, w.keep, w.all, w.src⟩
    · have h1 : ((wipeW ρ vs).set v SV.un)[j]? = some t := h1
      show ∃ o, ((L2.wipe σ vs).set v none)[j]? = some o ∧ _
      by_cases hj : j = v
      · subst hj
        rcases Nat.lt_or_ge j (wipeW ρ vs).length with z | z
        · rw [List.getElem?_set_self z] at h1
          cases h1
          exact ⟨none, List.getElem?_set_self (by rw [w.len]; exact z), trivial⟩
        · rw [List.getElem?_eq_none_iff.mpr (by rw [List.length_set]; exact z)] at h1
          cases h1
      · rw [List.getElem?_set_ne (Ne.symm hj)] at h1 ⊢
        exact w.slot j t h1
    · have f : ∀ (j : Nat) us, ((wipeW ρ vs).set v SV.un)[j]? = some (SV.own us) → (wipeW ρ vs)[j]? = some (SV.own us) ∧ j ≠ v := fun j us h1 => by
        by_cases hj : j = v
        · subst hj
          rcases Nat.lt_or_ge j (wipeW ρ vs).length with z | z
          · rw [List.getElem?_set_self z] at h1
            cases h1
          · rw [List.getElem?_eq_none_iff.mpr (by rw [List.length_set]; exact z)] at h1
            cases h1
        · rw [List.getElem?_set_ne (Ne.symm hj)] at h1
          exact ⟨h1, hj⟩
      obtain ⟨a1, a2⟩ := f j us h1
      obtain ⟨b1, b2⟩ := f k zs h2
      show ((L2.wipe σ vs).set v none)[j]? ≠ ((L2.wipe σ vs).set v none)[k]?
      rw [List.getElem?_set_ne (Ne.symm a2), List.getElem?_set_ne (Ne.symm b2)]
      exact w.sep j k us zs hjk a1 b1
/-! ### the reading that stands for what is asked of data -/
def canE (Z : SrcK) (K : PySem.W.Frag) (E : L2.St → XK) (w : EW) : TE := fun σ H Qv => ∃ (c : Cfg) (F : Hp) (ρ : Env) (Xd : XD) (Qd : D → Prop), EnvOk Z K c F H σ ρ ∧ ELk Z K c F H E Xd ∧ w Xd ρ Qd ∧
  ∀ d v F' H', Qd d → EnvOk Z K c F' H' σ ρ → Same F F' → Kx c.fp F H F' H' → Rep K F' d v → Qv v H'
def canT (Z : SrcK) (K : PySem.W.Frag) (E : L2.St → XK) (w : TW) : TT := fun σ H Qv => ∃ (c : Cfg) (F : Hp) (ρ : Env) (Xd : XD) (Qd : Bool → Prop), EnvOk Z K c F H σ ρ ∧ ELk Z K c F H E Xd ∧ w Xd ρ Qd ∧
  ∀ d F' H', Qd d → EnvOk Z K c F' H' σ ρ → Same F F' → Kx c.fp F H F' H' → Qv d H'
def canG (Z : SrcK) (K : PySem.W.Frag) (g : GW) : TG := fun v σ H Qv => ∃ (c : Cfg) (F : Hp) (ρ : Env) (d : D) (Qd : Env → Prop), EnvOk Z K c F H σ ρ ∧ Rep K F d v ∧ g d ρ Qd ∧
  ∀ σ' ρ' F' H', Qd ρ' → EnvOk Z K c F' H' σ' ρ' → Same F F' → Nx H H' → Qv σ' H'
theorem le_can {w : EW} : LE Z K E (canE Z K E w) w := fun c F H σ ρ Xd Qd Qv e l h q => ⟨c, F, ρ, Xd, Qd, e, l, h, q⟩
theorem lt_can {w : TW} : LT Z K E (canT Z K E w) w := fun c F H σ ρ Xd Qd Qv e l h q => ⟨c, F, ρ, Xd, Qd, e, l, h, q⟩
theorem lg_can {g : GW} : LG Z K (canG Z K g) g := fun c F H σ ρ d v Qd Qv e r h q => ⟨c, F, ρ, d, Qd, e, r, h, q⟩
theorem pe_can {w : EW} (h : DE Z X E e w) : PE X e (canE Z X.K E w) := by
  obtain ⟨t, p, l⟩ := h
  exact ⟨fun pins s σ H Q I ⟨c, F, ρ, Xd, Qd, e, k, h, q⟩ => p.run pins s σ H Q I (l c F H σ ρ Xd Qd Q e k h q)⟩
theorem pt_can {w : TW} (h : DT Z X E e w) : PT X e (canT Z X.K E w) := by
  obtain ⟨t, p, l⟩ := h
  exact ⟨fun pins s σ H Q I ⟨c, F, ρ, Xd, Qd, e, k, h, q⟩ => p.run pins s σ H Q I (l c F H σ ρ Xd Qd Q e k h q)⟩
theorem pg_can {g : GW} (h : DG Z X e g) : PG X e (canG Z X.K g) := by
  obtain ⟨t, p, l⟩ := h
  exact ⟨fun pins s σ H v u Q I r ⟨c, F, ρ, d, Qd, e, r2, h, q⟩ => p.run pins s σ H v u Q I r (l c F H σ ρ d v Qd Q e r2 h q)⟩
/-- the tests of a comprehension -/
def DTs (Z : SrcK) (X : Cx) (E : L2.St → XK) (ifs : List Expr) (w : TW) : Prop := ∃ t, PTs X ifs t ∧ LT Z X.K E t w
theorem dts_nil : DTs Z X E [] tYesW := ⟨_, pts_nil, fun c F H σ ρ Xd Qd Qv e _ h q => q true F H h e (Same.refl _) (Kx.refl _ _ _)⟩
theorem dts_one {w : TW} (h : DT Z X E e w) : DTs Z X E [e] w := by
  obtain ⟨t, p, l⟩ := h
  exact ⟨_, pts_one p, l⟩
theorem pts_can {ifs : List Expr} {w : TW} (h : DTs Z X E ifs w) : PTs X ifs (canT Z X.K E w) := by
  obtain ⟨t, p, l⟩ := h
  exact ⟨fun pins s σ H Q I ⟨c, F, ρ, Xd, Qd, e, k, h, q⟩ => p.run pins s σ H Q I (l c F H σ ρ Xd Qd Q e k h q)⟩
abbrev E00 : L2.St → XK := fun _ => E0
theorem wipe_idem (σ : L2.St) : ∀ vs : List Nat, L2.wipe (L2.wipe σ vs) vs = L2.wipe σ vs := fun vs => by
  apply List.ext_getElem?
  have key : ∀ (vs : List Nat) (σ : L2.St) (i : Nat), (L2.wipe σ vs)[i]? = if i ∈ vs ∧ i < σ.length then some none else σ[i]? := fun vs => by
    induction vs with
    | nil => intro σ i; simp [L2.wipe]
    | cons v vs ih =>
      intro σ i
      show ((L2.wipe σ vs).set v none)[i]? = _
      by_cases hi : i = v
      · subst hi
        by_cases hl : i < σ.length
        · rw [List.getElem?_set_self (by rw [L2.wipe_length]; exact hl)]
          simp [hl]
        · rw [List.getElem?_eq_none_iff.mpr (by rw [List.length_set, L2.wipe_length]; omega)]
          rw [if_neg (by simp [hl]), List.getElem?_eq_none_iff.mpr (by omega)]
      · rw [List.getElem?_set_ne (Ne.symm hi), ih]
        simp [hi]
  intro i
  rw [key, key, L2.wipe_length]
  split
  · rfl
  · rfl
theorem wipe_set {σ : L2.St} {v : Option V} : ∀ {vs : List Nat} {i : Nat}, i ∈ vs → L2.wipe (σ.set i v) vs = L2.wipe σ vs := fun {vs i} hi => by
  have key : ∀ (vs : List Nat) (σ : L2.St) (i : Nat), (L2.wipe σ vs)[i]? = if i ∈ vs ∧ i < σ.length then some none else σ[i]? := fun vs => by
    induction vs with
    | nil => intro σ i; simp [L2.wipe]
    | cons v vs ih =>
      intro σ i
      show ((L2.wipe σ vs).set v none)[i]? = _
      by_cases hi : i = v
      · subst hi
        by_cases hl : i < σ.length
        · rw [List.getElem?_set_self (by rw [L2.wipe_length]; exact hl)]
          simp [hl]
        · rw [List.getElem?_eq_none_iff.mpr (by rw [List.length_set, L2.wipe_length]; omega)]
          rw [if_neg (by simp [hl]), List.getElem?_eq_none_iff.mpr (by omega)]
      · rw [List.getElem?_set_ne (Ne.symm hi), ih]
        simp [hi]
  apply List.ext_getElem?
  intro j
  rw [key, key, List.length_set]
  by_cases hj : j ∈ vs ∧ j < σ.length
  · rw [if_pos hj, if_pos hj]
  · rw [if_neg hj, if_neg hj]
    by_cases hji : j = i
    · subst hji
      have hl : ¬ j < σ.length := fun z => hj ⟨hi, z⟩
      rw [List.getElem?_eq_none_iff.mpr (by rw [List.length_set]; omega), List.getElem?_eq_none_iff.mpr (by omega)]
    · rw [List.getElem?_set_ne (Ne.symm hji)]
/-- what a target stores lies in the comprehension's own slots -/
def LGW (Z : SrcK) (K : PySem.W.Frag) (us : List Nat) (t : TG) (g : GW) : Prop := ∀ (c : Cfg) (F H : Hp) (σ : L2.St) (ρ : Env) (d : D) (v : V) (Qd : Env → Prop) (Qv : L2.St → Hp → Prop), EnvOk Z K c F H σ ρ → Rep K F d v → g d ρ Qd →
  (∀ σ' ρ' F' H', Qd ρ' → EnvOk Z K c F' H' σ' ρ' → Same F F' → Kx c.fp F H F' H' → L2.wipe σ' us = L2.wipe σ us → Qv σ' H') → t v σ H Qv
def LGWs (Z : SrcK) (K : PySem.W.Frag) (us : List Nat) (t : TGs) (g : List D → Env → (Env → Prop) → Prop) : Prop := ∀ (c : Cfg) (F H : Hp) (σ : L2.St) (ρ : Env) (ds : List D) (vs : List V) (Qd : Env → Prop) (Qv : L2.St → Hp → Prop), EnvOk Z K c F H σ ρ → RepL K F ds vs → g ds ρ Qd →
  (∀ σ' ρ' F' H', Qd ρ' → EnvOk Z K c F' H' σ' ρ' → Same F F' → Kx c.fp F H F' H' → L2.wipe σ' us = L2.wipe σ us → Qv σ' H') → t vs σ H Qv
def DGW (Z : SrcK) (X : Cx) (us : List Nat) (tg : Expr) (g : GW) : Prop := ∃ t, PG X tg t ∧ LGW Z X.K us t g
def DGWs (Z : SrcK) (X : Cx) (us : List Nat) (n : Nat) (tgs : List Expr) (g : List D → Env → (Env → Prop) → Prop) : Prop := (∃ t, PGs X tgs t ∧ LGWs Z X.K us t g) ∧ ∀ ds ρ Q, g ds ρ Q → ds.length = n
theorem dgw_name {us : List Nat} {x : Str} {p : Pos} (i : Nat) (hN : X.N.Nodup) (hu : i ∈ us) (hi : X.N[i]? = some x := by rfl) (hx : Loc X.env.scope x := by first | exact Or.inl rfl | exact Or.inr rfl) (hf : X.fn x = true ∨ X.env.scope.names.lookup x = some .local := by first | exact .inl rfl | exact .inr rfl) : DGW Z X us (.Name x p) (gNm i) :=
  ⟨_, pg_name hN hi hx hf, fun c F H σ ρ d v Qd Qv e r h q => q _ _ F H h (e.setD r) (Same.refl _) (Kx.refl _ _ _) (wipe_set hu)⟩
theorem dgws_nil {us : List Nat} : DGWs Z X us 0 [] gNilW := ⟨⟨_, pgs_nil, fun c F H σ ρ ds vs Qd Qv e r h q => by
  obtain ⟨h1, h2⟩ := h
  subst h1
  have r : vs = [] := r
  exact ⟨r, q _ _ F H h2 e (Same.refl _) (Kx.refl _ _ _) rfl⟩⟩, fun ds ρ Q h => by rw [h.1]; rfl⟩
theorem dgws_cons {us : List Nat} {t : Expr} {ts : List Expr} {g : GW} {r : List D → Env → (Env → Prop) → Prop} {n : Nat} (h1 : DGW Z X us t g) (h2 : DGWs Z X us n ts r) (hg : ∀ d ρ Q, g d ρ Q → ∃ ρ', Q ρ' := by exact fun _ _ _ h => ⟨_, h⟩) (hs : (assignEach (t :: ts) X.env).map (·.2) = assign t X.env :: (assignEach ts X.env).map (·.2) := by rfl) : DGWs Z X us (n + 1) (t :: ts) (gConsW g r) := by
  obtain ⟨u, p, l⟩ := h1
  obtain ⟨⟨u1, p1, l1⟩, hl⟩ := h2
  refine ⟨⟨_, pgs_cons p p1 hs, fun c F H σ ρ ds vs Qd Qv e rr h q => ?_⟩, gConsW_len hg hl⟩
  cases ds with
  | nil => exact h.elim
  | cons x t =>
    obtain ⟨v, vr, e1, r1, r2⟩ := rr
    refine ⟨v, vr, e1, ?_⟩
    refine l c F H σ ρ x v _ _ e r1 h fun σ' ρ' F1 H1 h1 e1 s1 n1 w1 => ?_
    exact l1 c F1 H1 σ' ρ' t vr _ _ e1 (RepL.mono s1 _ _ r2) h1 fun σ2 ρ2 F2 H2 h2 e2 s2 n2 w2 => q _ _ F2 H2 h2 e2 (s1.trans s2) (n1.trans n2) (w2.trans w1)
theorem dgw_tup {us : List Nat} {es : List Expr} {k n : Nat} {r : List D → Env → (Env → Prop) → Prop} (h : DGWs Z X us n es r) (hc : X.calm = true) (hn : (assignEach es X.env).length = n := by rfl) (hst : (assignEach es X.env).findIdx? (·.1) = none := by rfl) : DGW Z X us (.Tuple es k pos) (gTupW r) := by
  obtain ⟨⟨u, p, l⟩, hl⟩ := h
  refine ⟨_, pg_or (pg_tup hc p hn hst) (pg_unl hc p hn hst), fun c F H σ ρ d v Qd Qv e rr h q => ?_⟩
  cases d with
  | tup xs =>
    obtain ⟨a, vs, e1, r1, r2⟩ := rr
    exact .inl ⟨a, vs, e1, same_t e.fh r1, by rw [r2.len]; exact hl _ _ _ h, l c F H σ ρ xs vs _ _ e r2 h q⟩
  | lst xs =>
    obtain ⟨a, vs, e1, r1, r2⟩ := rr
    exact .inr ⟨a, vs, e1, same_l e.fh r1, by rw [r2.len]; exact hl _ _ _ h, l c F H σ ρ xs vs _ _ e r2 h q⟩
  | non => exact h.elim
  | bl _ => exact h.elim
  | int _ => exact h.elim
  | str _ => exact h.elim
  | ins _ _ _ => exact h.elim
def canGW (Z : SrcK) (K : PySem.W.Frag) (us : List Nat) (g : GW) : TG := fun v σ H Qv => ∃ (c : Cfg) (F : Hp) (ρ : Env) (d : D) (Qd : Env → Prop), EnvOk Z K c F H σ ρ ∧ Rep K F d v ∧ g d ρ Qd ∧
  ∀ σ' ρ' F' H', Qd ρ' → EnvOk Z K c F' H' σ' ρ' → Same F F' → Kx c.fp F H F' H' → L2.wipe σ' us = L2.wipe σ us → Qv σ' H'
theorem lgw_can {us : List Nat} {g : GW} : LGW Z K us (canGW Z K us g) g := fun c F H σ ρ d v Qd Qv e r h q => ⟨c, F, ρ, d, Qd, e, r, h, q⟩
theorem pgw_can {us : List Nat} {g : GW} (h : DGW Z X us e g) : PG X e (canGW Z X.K us g) := by
  obtain ⟨t, p, l⟩ := h
  exact ⟨fun pins s σ H v u Q I r ⟨c, F, ρ, d, Qd, e, r2, h, q⟩ => p.run pins s σ H v u Q I r (l c F H σ ρ d v Qd Q e r2 h q)⟩
theorem upd_lst_env {D : Addr} {ws vs : List V} (e : EnvOk Z K c F H σ ρ) (hD : H D = some (.lst vs)) (hF : F D = none) (h0 : c.H0 D = none) (na : ∀ (j : Nat) ys, ρ[j]? = some (SV.own ys) → σ[j]? ≠ some (some (V.ref D))) : EnvOk Z K c F (upd H D (.lst ws)) σ ρ := by
  have nF : ∀ b o, F b = some o → b ≠ D := fun b o q z => by
    rw [z, hF] at q
    cases q
  refine ⟨e.len, fun j t h1 => ?_, e.sep, fun b o q => ?_, e.f0, e.new, fun b o q hb => ?_, fun b q => ?_, fun a fp q => ?_⟩
  · obtain ⟨o, o1, o2⟩ := e.slot j t h1
    refine ⟨o, o1, ?_⟩
    cases t with
    | own us =>
      obtain ⟨a, us', r1, r2, r3, r4, r5⟩ := o2
      refine ⟨a, us', r1, r2, r3, ?_, r5⟩
      have ha : a ≠ D := fun z => na j us h1 (by rw [o1, r1, z])
      rw [upd_ne ha]
      exact r4
    | un => trivial
    | d y => exact o2
    | src => exact o2
    | obj px C fs => exact obj_kx o2 (Same.refl _) (fun a u z _ nl => by rw [upd_ne (fun z2 => nl vs (by rw [z2, hD] at z; exact (Option.some.inj z).symm))]; exact z) fun b z => .inl z
  · rw [upd_ne (nF b o q)]
    exact e.fh b o q
  · have hb2 : b ≠ D := fun z => by rw [z, h0] at q; cases q
    rw [upd_ne hb2]
    exact e.keep b o q hb
  · have hb2 : b ≠ D := fun z => by rw [z, h0] at q; exact q rfl
    rw [upd_ne hb2]
    exact e.all b q
  · obtain ⟨q1, q2⟩ := e.src a fp q
    refine ⟨Z.loc q1 fun b hb => ?_, q2⟩
    have hb2 : b ≠ D := fun z => (q2 b hb).2 (by rw [z]; exact h0)
    rw [upd_ne hb2]
theorem not_fp (e : EnvOk Z K c F H σ ρ) {D : Addr} (h0 : c.H0 D = none) : D ∉ c.fp := fun z => by
  obtain ⟨x, fp, z1, z2⟩ := Cfg.of_fp z
  exact ((e.src x fp z1).2 D z2).2 h0
theorem ll_comp {ti : TI} {wi : IW} {g : GW} {tt : TW} {w : EW} {us : List Nat} (hi : LI Z K E ti wi) : LL Z K E (tLc ti (canGW Z K us g) (canT Z K E00 tt) (canE Z K E00 w) us) (lComp wi g tt w us) := fun c F H σ ρ Xd Qd Qv e l h q => by
  refine hi c F H σ ρ Xd _ _ e l h fun ds J F1 H1 h1 e1 s1 n1 it => ?_
  obtain ⟨G, Y, wk, hG, hY⟩ := it
  intro D hD
  have hD0 : c.H0 D = none := e1.h0 hD
  have hDF : F1 D = none := e1.fh.free hD
  have nown : ∀ (j : Nat) ys, (wipeW ρ us)[j]? = some (SV.own ys) → (L2.wipe σ us)[j]? ≠ some (some (V.ref D)) := fun j ys hj => (e1.wipe us).notOwn (xs := []) hD hj
  have start : EnvOk Z K c F1 (upd H1 D (.lst [])) (L2.wipe σ us) (wipeW ρ us) := (e1.wipe us).lay hD
  refine lc_it wk (fun i H' => ∃ F' acc vacc, EnvOk Z K c F' H' (L2.wipe σ us) (wipeW ρ us) ∧ EnvOk Z K c F' H' σ ρ ∧ Same F1 F' ∧ Kx c.fp F1 H1 F' H' ∧ F' D = none ∧ H' D = some (.lst vacc) ∧ RepL K F' acc vacc ∧ compGo g tt w (wipeW ρ us) Qd (ds.drop i) acc)
    ⟨F1, [], [], start, e1.lay hD, Same.refl _, Kx.lay hD, hDF, upd_same, rfl, h1⟩ (fun i H' _ ⟨F', _, _, e', _, s', _⟩ => hG _ (s'.trans e'.fh)) ?_ ?_
  · rintro i x Ha Hb hi' ⟨F', acc, vacc, e', e'', s', n', f', d', r', k⟩ y
    obtain ⟨F2, x2, r2⟩ := hY i ds[i] Ha x Hb F' (List.getElem?_eq_getElem hi') y s' e'.fh
    rw [List.drop_eq_getElem_cons hi'] at k
    have e2 := e'.ext x2
    have e2' := e''.ext x2
    have dD := not_fp e' hD0
    refine lgw_can c F2 Hb (L2.wipe σ us) (wipeW ρ us) ds[i] x _ _ e2 r2 k fun σ3 ρ3 F3 H3 h3 e3 s3 n3 w3 => ⟨w3.trans (wipe_idem _ _), ?_⟩
    refine lt_can c F3 H3 σ3 ρ3 _ _ _ e3 elk0 h3 fun b F4 H4 h4 e4 s4 n4 => ?_
    have kk : ∀ F5 H5, Kx c.fp F4 H4 F5 H5 → Kx c.fp F' Ha F5 H5 := fun F5 H5 m => ((x2.kx.trans n3).trans n4).trans m
    have back : ∀ F5 H5 σ5 ρ5, EnvOk Z K c F5 H5 σ5 ρ5 → Same F4 F5 → Kx c.fp F4 H4 F5 H5 → ∀ {σ6 : L2.St} {ρ6 : Env}, EnvOk Z K c F' Ha σ6 ρ6 → EnvOk Z K c F5 H5 σ6 ρ6 := fun F5 H5 σ5 ρ5 e5 s5 n5 {σ6 ρ6} e6 => by
      have kx := kk F5 H5 n5
      have sF : Same F' F5 := ((x2.ff.trans s3).trans s4).trans s5
      refine ⟨e6.len, fun j t h1 => ?_, e6.sep, e5.fh, e5.f0, e5.new, e5.keep, e5.all, e5.src⟩
      obtain ⟨o, o1, o2⟩ := e6.slot j t h1
      refine ⟨o, o1, ?_⟩
      cases t with
      | own ys =>
        obtain ⟨a, vs, z1, z2, z3, z4, z5⟩ := o2
        refine ⟨a, vs, z1, ?_, z3, kx.kp _ _ z4 (not_fp e6 z3), RepL.mono sF _ _ z5⟩
        cases z6 : F5 a with
        | none => rfl
        | some u =>
          rcases kx.new a (by rw [z6]; simp) with m | m
          · exact absurd z2 m
          · rw [m] at z4
            cases z4
      | un => trivial
      | d y =>
        obtain ⟨v, z1, z2⟩ := o2
        exact ⟨v, z1, Rep.mono sF _ _ z2⟩
      | src => exact o2
      | obj px C fs => exact obj_kx o2 sF (fun a u z z0 _ => kx.kp _ _ z (not_fp e6 z0)) fun b z => (kx.new b z).elim .inl fun z => .inr (.inl z)
    have fD : ∀ F5 H5, Kx c.fp F4 H4 F5 H5 → F5 D = none := fun F5 H5 m => by
      cases z6 : F5 D with
      | none => rfl
      | some u =>
        rcases (kk F5 H5 m).new D (by rw [z6]; simp) with m | m
        · exact absurd f' m
        · rw [m] at d'
          cases d'
    cases b with
    | true =>
      rw [if_pos rfl]
      rw [if_pos rfl] at h4
      refine le_can c F4 H4 σ3 ρ3 _ _ _ e4 elk0 h4 fun y v F5 H5 h5 e5 s5 n5 r5 => ?_
      have kx := kk F5 H5 n5
      have sF : Same F' F5 := ((x2.ff.trans s3).trans s4).trans s5
      have d5 := kx.kp D _ d' dD
      have f5 := fD F5 H5 n5
      refine ⟨vacc, d5, by rw [r'.len]; exact szlt h5.1, F5, acc ++ [y], vacc ++ [v], ?_, ?_, s'.trans sF, ?_, f5, upd_same, (RepL.mono sF _ _ r').app (RepL.one r5), h5.2⟩
      · exact upd_lst_env (back F5 H5 σ3 ρ3 e5 s5 n5 e') d5 f5 hD0 nown
      · exact upd_lst_env (back F5 H5 σ3 ρ3 e5 s5 n5 e'') d5 f5 hD0 fun j ys hj => e1.notOwn (xs := []) hD hj
      · have kz := n'.trans kx
        refine ⟨kz.nx.trans nx_mut, fun b o hb nb => ?_, kz.new⟩
        have hbD : b ≠ D := fun z => by rw [z, hD] at hb; cases hb
        rw [upd_ne hbD]
        exact kz.kp b o hb nb
    | false =>
      rw [if_neg Bool.false_ne_true]
      rw [if_neg Bool.false_ne_true] at h4
      have kx := kk F4 H4 (Kx.refl _ _ _)
      have sF : Same F' F4 := (x2.ff.trans s3).trans s4
      exact ⟨F4, acc, vacc, back F4 H4 σ3 ρ3 e4 (Same.refl _) (Kx.refl _ _ _) e', back F4 H4 σ3 ρ3 e4 (Same.refl _) (Kx.refl _ _ _) e'', s'.trans sF, n'.trans kx, fD F4 H4 (Kx.refl _ _ _), kx.kp D _ d' dD, RepL.mono sF _ _ r', h4⟩
  · rintro H' ⟨F', acc, vacc, e', e'', s', n', f', d', r', k⟩
    rw [List.drop_length] at k
    exact q acc D vacc F' H' k e'' (s1.trans s') (n1.trans n') (n1.free hD) f' d' r'
theorem dl_comp {elt iter : Expr} {ifs : List Expr} {scope : Scope} {own : List (Str × Nat)} {wi : IW} {g : GW} {tt : TW} {w : EW} (hc : X.calm = true) (hN : X.N.Nodup) (hi : DI Z X E tg iter wi) (ok : BlkOk X.N X.env.scope scope own)
    (hg : ∀ (s : Shared) (H : Hp) (C : Addr) (cl : List (Str × Addr)) (fp : List Addr), DGW Z (X.blk s H scope (compEnvC scope cl C X.env) fp) (own.map (·.2)) tg g)
    (ht : ∀ (s : Shared) (H : Hp) (C : Addr) (cl : List (Str × Addr)) (fp : List Addr), DTs Z (X.blk s H scope (compEnvC scope cl C X.env) fp) E00 ifs tt)
    (he : ∀ (s : Shared) (H : Hp) (C : Addr) (cl : List (Str × Addr)) (fp : List Addr), DE Z (X.blk s H scope (compEnvC scope cl C X.env) fp) E00 elt w)
    (hs : ∀ x, foldedSetIterable iter X.env x = pure x := by intro _; rfl) : DLs Z X E (.ListComp elt [⟨tg, iter, ifs, 0⟩] scope pos) (lComp wi g tt w (own.map (·.2))) := by
  obtain ⟨t, p, l⟩ := hi
  exact ⟨_, pe_lc hc hN p ok (fun s H C cl fp => pgw_can (hg s H C cl fp)) (fun s H C cl fp => pts_can (ht s H C cl fp)) (fun s H C cl fp => pe_can (he s H C cl fp)) hs, ll_comp l⟩
end
end DL
set_option linter.all false
set_option autoImplicit false
set_option maxHeartbeats 2000000
/-! Calls, and what a def promises. -/
namespace DL
open PySem PySem.Spec PyProof.Rows L2

/-- behind a call -/
structure After (Z : SrcK) (src : Option (Addr × List Addr)) (fp : List Addr) (F H F' H' : Hp) : Prop where
  ff : Same F F'
  fh : Same F' H'
  new : ∀ b, F' b ≠ none → F b ≠ none ∨ H b = none
  keep : ∀ b o, H b = some o → b ∉ fp → H' b = some o
  all : ∀ b, H b ≠ none → H' b ≠ none
  src : ∀ a fp', src = some (a, fp') → Z.P a fp' H' ∧ ∀ b ∈ fp', F' b = none
def fpOf (src : Option (Addr × List Addr)) : List Addr := match src with
  | some p => p.2
  | none => []
def ArgOk2 (K : PySem.W.Frag) (src : Option (Addr × List Addr)) (F : Hp) (ss : List SV) (vs : List V) : Prop := ArgsOk K src F ss vs
/-- a promise over data as the hand layer's promise -/
def spOf (Z : SrcK) (K : PySem.W.Frag) (sp : Spec) : Sp := fun vs H Q E => ∃ (src : Option (Addr × List Addr)) (F : Hp) (ss : List SV) (Qd : RV → Prop) (Xe : Exc → Prop),
  Same F H ∧ (∀ a fp, src = some (a, fp) → Z.P a fp H ∧ ∀ b ∈ fp, F b = none) ∧ ArgsOk K src F ss vs ∧ sp ss Qd Xe ∧
  (∀ r v F' H', Qd r → After Z src (fpOf src) F H F' H' → RepR K F' H H' r v → Q v H') ∧
  (∀ ex F' H' cls dd, Xe ex → After Z src (fpOf src) F H F' H' → ExRep K F' ex cls dd → E cls dd H')
section
variable {Z : SrcK} {X : Cx} {E : L2.St → XK} {K : PySem.W.Frag} {a b e tg : Expr} {wa wb wc : EW} {pos : Pos} {c : Cfg} {F H F' H' : Hp} {σ : L2.St} {ρ : Env}
theorem fp_eq : fpOf c.src = c.fp := by
  unfold fpOf Cfg.fp
  cases c.src <;> rfl
theorem EnvOk.srcOk (e : EnvOk Z K c F H σ ρ) : ∀ a fp, c.src = some (a, fp) → Z.P a fp H ∧ ∀ b ∈ fp, F b = none := fun a fp h => ⟨(e.src a fp h).1, fun b hb => ((e.src a fp h).2 b hb).1⟩
theorem After.kx (x : After Z c.src c.fp F H F' H') : Kx c.fp F H F' H' := ⟨x.all, x.keep, x.new⟩
theorem EnvOk.after (e : EnvOk Z K c F H σ ρ) (x : After Z c.src c.fp F H F' H') : EnvOk Z K c F' H' σ ρ where
  len := e.len
  slot := fun i s h => by
    obtain ⟨o, h1, h2⟩ := e.slot i s h
    refine ⟨o, h1, ?_⟩
    cases s with
    | un => trivial
    | d y =>
      obtain ⟨v, r1, r2⟩ := h2
      exact ⟨v, r1, Rep.mono x.ff _ _ r2⟩
    | own ys =>
      obtain ⟨a, vs, r1, r2, r3, r4, r5⟩ := h2
      refine ⟨a, vs, r1, ?_, r3, x.keep _ _ r4 (not_fp e r3), RepL.mono x.ff _ _ r5⟩
      cases q : F' a with
      | none => rfl
      | some u =>
        rcases x.new a (by rw [q]; simp) with z | z
        · exact absurd r2 z
        · rw [r4] at z
          cases z
    | src => exact h2
    | obj px C fs => exact obj_kx h2 x.ff (fun a u z z0 _ => x.keep _ _ z (not_fp e z0)) fun b z => (x.new b z).elim .inl fun z => .inr (.inl z)
  sep := e.sep
  fh := x.fh
  f0 := e.f0.trans x.ff
  new := fun b h => (x.new b h).elim (e.new b) fun n => .inr (e.h0 n)
  keep := fun b o h hb => x.keep _ _ (e.keep b o h hb) hb
  all := fun b h => x.all b (e.all b h)
  src := fun a fp h => ⟨(x.src a fp h).1, fun b hb => ⟨(x.src a fp h).2 b hb, ((e.src a fp h).2 b hb).2⟩⟩
theorem call_core {sp : Spec} {Xd : XD} {Qd : D → Prop} {Qv : VK} {F1 H1 : Hp} {ss : List SV} {vs : List V} (l : ELk Z K c F H E Xd) (h1 : sp ss (fun r => Qd r.toD) (Xd ρ)) (e1 : EnvOk Z K c F1 H1 σ ρ) (s1 : Same F F1) (n1 : Kx c.fp F H F1 H1) (r1 : ArgsOk K c.src F1 ss vs)
    (q : ∀ d v F' H', Qd d → EnvOk Z K c F' H' σ ρ → Same F F' → Kx c.fp F H F' H' → Rep K F' d v → Qv v H') : spOf Z K sp vs H1 Qv (E σ) := by
  refine ⟨c.src, F1, ss, _, _, e1.fh, e1.srcOk, r1, h1, fun r v F2 H2 h2 x r2 => ?_, fun ex F2 H2 cls dd h2 x r2 => ?_⟩
  · rw [fp_eq] at x
    have e2 := e1.after x
    cases r with
    | d y => exact q y v F2 H2 h2 e2 (s1.trans x.ff) (n1.trans x.kx) r2
    | own ys =>
      obtain ⟨p, vs', rfl, f1, f2, f3, f4⟩ := r2
      have na : ∀ (i : Nat) zs, ρ[i]? = some (SV.own zs) → σ[i]? ≠ some (some (V.ref p)) := fun i zs hi => e1.notOwn (xs := vs') f2 hi
      have sF : Same F2 (upd F2 p (.lst vs')) := fun b u hb => by
        rw [upd_ne (ne_of_none hb f1)]
        exact hb
      refine q _ _ _ H2 h2 (e2.freeze f1 (e1.h0 f2) f3 na) ((s1.trans x.ff).trans sF) ?_ ⟨p, vs', rfl, SqL.of upd_same, RepL.mono sF _ _ f4⟩
      have k := n1.trans x.kx
      refine ⟨k.nx, k.kp, fun b hb => ?_⟩
      by_cases hbp : b = p
      · exact .inr (by rw [hbp]; exact n1.free f2)
      · rw [upd_ne hbp] at hb
        exact k.new b hb
  · rw [fp_eq] at x
    exact l σ ρ ex F2 H2 cls dd h2 (e1.after x) (s1.trans x.ff) (n1.nx.trans x.all) r2
theorem le_call {sp : Spec} {ta : TA} {ws : AW} (ha : LA Z K E ta ws) : LE Z K E (tCallS (spOf Z K sp) E ta) (wCall sp ws) := fun c F H σ ρ Xd Qd Qv e l h q => by
  refine ha c F H σ ρ Xd _ _ e l h fun ss vs F1 H1 h1 e1 s1 n1 r1 => ?_
  exact call_core l h1 e1 s1 n1 r1 q
theorem ll_call {sp : Spec} {ta : TA} {ws : AW} (ha : LA Z K E ta ws) : LL Z K E (tCallS (spOf Z K sp) E ta) (lCall sp ws) := fun c F H σ ρ Xd Qd Qv e l h q => by
  refine ha c F H σ ρ Xd _ _ e l h fun ss vs F1 H1 h1 e1 s1 n1 r1 => ?_
  refine ⟨c.src, F1, ss, _, _, e1.fh, e1.srcOk, r1, h1, fun r v F2 H2 h2 x r2 => ?_, fun ex F2 H2 cls dd h2 x r2 => ?_⟩
  · rw [fp_eq] at x
    have e2 := e1.after x
    cases r with
    | d y => exact h2.elim
    | own ys =>
      obtain ⟨p, vs', rfl, f1, f2, f3, f4⟩ := r2
      exact q ys p vs' F2 H2 h2 e2 (s1.trans x.ff) (n1.trans x.kx) (n1.free f2) f1 f3 f4
  · rw [fp_eq] at x
    exact l σ ρ ex F2 H2 cls dd h2 (e1.after x) (s1.trans x.ff) (n1.nx.trans x.all) r2
/-- how keywords alone bind -/
structure KwOk (fd : FuncData) (ps ks : List Str) (idx : List Nat) : Prop where
  to : ∀ ws : List Value, ws.length = ks.length → bindArgs fd ⟨[], ks.zip ws⟩ = pure (ps.zip (permL idx ws))
  len : ks.length = idx.length
/-- a def of the text, as its callers know it -/
structure Fd (P : Program) (w : World) (K : PySem.W.Frag) (mg : Str → Option Value) (base : Heap) (Z : SrcK) (k : Nat) (x : Str) (ps : List Str) (kws : List (List Str × List Nat)) (sp : Spec) : Prop where
  ex : ∃ (f : Addr) (fd : FuncData), FnOk P w K mg base (L2.CX P w) k f fd ps (spOf Z K sp) ∧ mg x = some (.ref f) ∧ PySem.W.keepIn K (.ref f) = true ∧ Binds K fd ps [] ∧ ∀ p ∈ kws, KwOk fd ps p.1 p.2
/-- where one stands: what calls need -/
structure At (X : Cx) (E : L2.St → XK) (k : Nat) : Prop where
  room : Room k X.A
  tk : Takes X (fun cls d σ H => E σ cls d H)
theorem At.pass {k : Nat} (A : At X E k) : ∀ σ, PassesAt (L2.CX X.prog X.w) X σ (E σ) := fun σ => passAt A.tk σ
variable {es : List Expr} {ws : AW}
theorem de_call {k j : Nat} {x : Str} {p : Pos} {ps : List Str} {kws : List (List Str × List Nat)} {sp : Spec} (A : At X E k) (hk : j ≤ k) (G : Fd X.prog X.w X.K X.mg X.base Z j x ps kws sp) (ha : DA Z X E (e :: es) ws) (hg : Gl X x := by rfl) (hdb : (x == ("__debug__" : Str)) = false := by decide)
    (he : starEach (e :: es) X.env = (false, eval e X.env) :: starEach es X.env := by rfl) (hpl : (backTo pos (starEach es X.env)).any (·.1) = false := by rfl) : DE Z X E (.Call (.Name x p) (e :: es) [] pos) (wCall sp ws) := by
  obtain ⟨f, fd, F, hm, hkp, hb, _⟩ := G.ex
  obtain ⟨t, pa, la⟩ := ha
  exact ⟨_, pe_callS F (A.room.mono hk) hg hm hkp hb A.pass pa hdb he hpl, le_call la⟩
theorem dl_call {k j : Nat} {x : Str} {p : Pos} {ps : List Str} {kws : List (List Str × List Nat)} {sp : Spec} (A : At X E k) (hk : j ≤ k) (G : Fd X.prog X.w X.K X.mg X.base Z j x ps kws sp) (ha : DA Z X E (e :: es) ws) (hg : Gl X x := by rfl) (hdb : (x == ("__debug__" : Str)) = false := by decide)
    (he : starEach (e :: es) X.env = (false, eval e X.env) :: starEach es X.env := by rfl) (hpl : (backTo pos (starEach es X.env)).any (·.1) = false := by rfl) : DLs Z X E (.Call (.Name x p) (e :: es) [] pos) (lCall sp ws) := by
  obtain ⟨f, fd, F, hm, hkp, hb, _⟩ := G.ex
  obtain ⟨t, pa, la⟩ := ha
  exact ⟨_, pe_callS F (A.room.mono hk) hg hm hkp hb A.pass pa hdb he hpl, ll_call la⟩
/-- within a comprehension nothing is let out -/
theorem At.blk {k : Nat} (A : At X E k) (s : Shared) (H : Hp) (scope : Scope) (cenv : PySem.Env) (fp : List Addr) : At (X.blk s H scope cenv fp) E00 k :=
  ⟨A.room, fun _ _ ⟨_, _, _, _, _, _, _, _, _, _, _, _, _, _, _, _, z⟩ => z.elim⟩
/-! ### keywords -/
theorem ArgsOk.get {src : Option (Addr × List Addr)} {F : Hp} : ∀ {ss : List SV} {vs : List V}, ArgsOk K src F ss vs → vs.length = ss.length ∧ ∀ (i : Nat) s, ss[i]? = some s → ∃ v, vs[i]? = some v ∧ ArgOk K src F s v
  | [], vs, r => by
    have r : vs = [] := r
    subst r
    exact ⟨rfl, fun i s h => by simp at h⟩
  | s :: r, vs, h => by
    obtain ⟨v, t, rfl, h1, h2⟩ := h
    obtain ⟨i1, i2⟩ := ArgsOk.get h2
    refine ⟨by rw [List.length_cons, List.length_cons, i1], fun i u hu => ?_⟩
    cases i with
    | zero =>
      have hu : s = u := by simpa using hu
      subst hu
      exact ⟨v, rfl, h1⟩
    | succ i =>
      have hu : r[i]? = some u := by simpa using hu
      obtain ⟨v2, z1, z2⟩ := i2 i u hu
      exact ⟨v2, by simpa using z1, z2⟩
theorem ArgsOk.perm {src : Option (Addr × List Addr)} {F : Hp} {ss : List SV} {vs : List V} (h : ArgsOk K src F ss vs) : ∀ idx : List Nat, ArgsOk K src F (permL idx ss) (permL idx vs)
  | [] => rfl
  | i :: idx => by
    have ih := ArgsOk.perm h idx
    obtain ⟨l, g⟩ := h.get
    unfold permL at ih ⊢
    cases q : ss[i]? with
    | none =>
      have q2 : vs[i]? = none := List.getElem?_eq_none_iff.mpr (by rw [l]; exact List.getElem?_eq_none_iff.mp q)
      rw [List.filterMap_cons_none q, List.filterMap_cons_none q2]
      exact ih
    | some s =>
      obtain ⟨v, h1, h2⟩ := g i s q
      rw [List.filterMap_cons_some q, List.filterMap_cons_some h1]
      exact ⟨v, _, rfl, h2, ih⟩
theorem Vals.perm {vs : List V} {us : List Value} (h : Vals vs us) : ∀ idx : List Nat, Vals (permL idx vs) (permL idx us)
  | [] => .nil
  | i :: idx => by
    have ih := Vals.perm h idx
    unfold permL at ih ⊢
    cases q : vs[i]? with
    | none => rw [List.filterMap_cons_none q, List.filterMap_cons_none (h.none_of q)]; exact ih
    | some v =>
      obtain ⟨u, h1, h2⟩ := h.get q
      rw [List.filterMap_cons_some q, List.filterMap_cons_some h1]
      exact .cons h2 ih
def tCallKS (sp : Sp) (idx : List Nat) (E : L2.St → XK) (tk : TA) : TE := fun σ H Q => tk σ H fun zs H2 => zs.length = idx.length ∧ sp (permL idx zs) H2 Q (E σ)
theorem pe_callKS {CX : CXT} {k : Nat} {f : Addr} {fd : FuncData} {ps ks : List Str} {idx : List Nat} {sp : Sp} {x : Str} {p : Pos} {kws : List Keyword} {tk : TA} (F : FnOk X.prog X.w X.K X.mg X.base CX k f fd ps sp) (hr : Room k X.A) (hg : Gl X x) (hm : X.mg x = some (.ref f)) (hk : PySem.W.keepIn X.K (.ref f) = true)
    (hb : KwOk fd ps ks idx) (hx : ∀ σ, PassesAt CX X σ (E σ)) (hkw : PK X kws tk) (hall : (backToKw pos (keywordEach kws X.env)).all (·.1.isSome) = true) (hks : (backToKw pos (keywordEach kws X.env)).filterMap (·.1) = ks)
    (hdb : (x == ("__debug__" : Str)) = false) (hpl : ((backTo pos (starEach [] X.env)).any (·.1) || (backToKw pos (keywordEach kws X.env)).any (·.1.isNone)) = false) :
    PE X (.Call (.Name x p) [] kws pos) (tCallKS sp idx E tk) := by
  refine ⟨fun pins s σ H Q I h => ?_⟩
  refine wpAny_Call_Name_kw (ld_glob I hg hm ?_ hdb)
  refine PySem.W.callWith_KW0 (h₀ := X.base) I.ok.mod.kin hk hall (thn (hkw.run pos pins s σ H _ I h) fun ws s2 ⟨zs, H2, I2, rz, hl, q2⟩ => ⟨I2.kIn, ?_⟩) hpl
  rw [hks]
  have r2 := Vals.perm rz idx
  have hl2 : ws.length = ks.length := by rw [← rz.length, hl, hb.len]
  refine wpAny_call (codeAny_mono (F.run X.A X.stack s2 H2 ⟨[], ks.zip ws⟩ (permL idx ws) (permL idx zs) Q (E σ) hr I2.env0 (.of_eq (hb.to ws hl2)) r2 q2) fun r s' hq => ?_)
  cases r with
  | error e => exact hx σ pins H2 s2 e s' I2 hq
  | ok fl =>
    cases fl with
    | ret u => exact I2.after hq
    | next => exact False.elim hq
    | brk => exact False.elim hq
    | cont => exact False.elim hq
/-- the values of keywords -/
def DK (Z : SrcK) (X : Cx) (E : L2.St → XK) (kws : List Keyword) (w : AW) : Prop := ∃ t, PK X kws t ∧ LA Z X.K E t w
theorem dk_nil : DK Z X E [] wNil := ⟨_, pk_nil, fun c F H σ ρ Xd Qd Qv e _ h q => q [] [] F H h e (Same.refl _) (Kx.refl _ _ _) rfl⟩
theorem dk_cons {nm : Option Str} {kp : Pos} {kws : List Keyword} {ws : AW} (ha : DE Z X E e wa) (hr : DK Z X E kws ws) : DK Z X E (⟨nm, e, kp⟩ :: kws) (wCons wa ws) := by
  obtain ⟨t, p, l⟩ := ha
  obtain ⟨t1, p1, l1⟩ := hr
  refine ⟨_, pk_cons p p1, fun c F H σ ρ Xd Qd Qv e k h q => ?_⟩
  refine l c F H σ ρ Xd _ _ e k h fun d v F1 H1 h1 e1 s1 n1 r1 => ?_
  refine l1 c F1 H1 σ ρ Xd _ _ e1 (k.mono s1 n1.nx) h1 fun ss vs F2 H2 h2 e2 s2 n2 r2 => ?_
  exact q _ _ F2 H2 h2 e2 (s1.trans s2) (n1.trans n2) ⟨v, vs, rfl, Rep.mono s2 _ _ r1, r2⟩
theorem le_callK {sp : Spec} {idx : List Nat} {ta : TA} {ws : AW} (ha : LA Z K E ta ws) : LE Z K E (tCallKS (spOf Z K sp) idx E ta) (wCallK sp idx ws) := fun c F H σ ρ Xd Qd Qv e l h q => by
  refine ha c F H σ ρ Xd _ _ e l h fun ss vs F1 H1 h1 e1 s1 n1 r1 => ⟨by rw [r1.get.1]; exact h1.1, ?_⟩
  exact call_core l h1.2 e1 s1 n1 (r1.perm idx) q
theorem de_callK {k j : Nat} {x : Str} {p : Pos} {ps ks : List Str} {idx : List Nat} {kws : List (List Str × List Nat)} {sp : Spec} {kw : List Keyword} {ws : AW} (A : At X E k) (hk : j ≤ k) (G : Fd X.prog X.w X.K X.mg X.base Z j x ps kws sp) (hkw : (ks, idx) ∈ kws) (ha : DK Z X E kw ws) (hg : Gl X x := by rfl)
    (hall : (backToKw pos (keywordEach kw X.env)).all (·.1.isSome) = true := by rfl) (hks : (backToKw pos (keywordEach kw X.env)).filterMap (·.1) = ks := by rfl)
    (hdb : (x == ("__debug__" : Str)) = false := by decide) (hpl : ((backTo pos (starEach [] X.env)).any (·.1) || (backToKw pos (keywordEach kw X.env)).any (·.1.isNone)) = false := by rfl) : DE Z X E (.Call (.Name x p) [] kw pos) (wCallK sp idx ws) := by
  obtain ⟨f, fd, F, hm, hkp, hb, hkws⟩ := G.ex
  obtain ⟨t, pa, la⟩ := ha
  exact ⟨_, pe_callKS F (A.room.mono hk) hg hm hkp (hkws _ hkw) A.pass pa hall hks hdb hpl, le_callK la⟩
/-! ### name = [..] -/
variable {iter elt : Expr} {ifs : List Expr} {scope : Scope} {own : List (Str × Nat)} {wi : IW} {g : GW} {tt : TW} {w : EW}
theorem ds_setLc {y : Str} {py spos : Pos} (i : Nat) (hN : X.N.Nodup) (hi : DI Z X E tg iter wi) (ok : BlkOk X.N X.env.scope scope own)
    (hg : ∀ (s : Shared) (H : Hp) (C : Addr) (cl : List (Str × Addr)) (fp : List Addr), DGW Z (X.blk s H scope (compEnvC scope cl C X.env) fp) (own.map (·.2)) tg g)
    (ht : ∀ (s : Shared) (H : Hp) (C : Addr) (cl : List (Str × Addr)) (fp : List Addr), DTs Z (X.blk s H scope (compEnvC scope cl C X.env) fp) E00 ifs tt)
    (he : ∀ (s : Shared) (H : Hp) (C : Addr) (cl : List (Str × Addr)) (fp : List Addr), DE Z (X.blk s H scope (compEnvC scope cl C X.env) fp) E00 elt w)
    (hsw : swapsWith (.ListComp elt [⟨tg, iter, ifs, 0⟩] scope pos) (some (.Name y py)) spos.line X.env = pure true) (hc : X.calm = true := by rfl) (hy : X.N[i]? = some y := by rfl) (hyl : X.env.scope.names.lookup y = some .local := by rfl)
    (hs : ∀ x, foldedSetIterable iter X.env x = pure x := by intro _; rfl) : DS Z X E (.Assign [.Name y py] (.ListComp elt [⟨tg, iter, ifs, 0⟩] scope pos) spos) (sSetL i (lComp wi g tt w (own.map (·.2)))) := by
  obtain ⟨t, p, l⟩ := hi
  refine ⟨_, ps_setLc (g := canGW Z X.K (own.map (·.2)) g) (tt := canT Z X.K E00 tt) (te := canE Z X.K E00 w) hc hN hy hyl hsw p ok (fun s H C cl fp => pgw_can (hg s H C cl fp)) (fun s H C cl fp => pts_can (ht s H C cl fp)) (fun s H C cl fp => pe_can (he s H C cl fp)) hs, fun c F H σ ρ Xd DD D e k h q => ?_⟩
  exact ll_comp l c F H σ ρ Xd _ _ e k h fun xs a vs F1 H1 h1 e1 s1 n1 f1 f2 f3 r1 => q.nx _ _ F1 H1 h1 (e.setOwn e1 f1 f2 f3 r1) s1 n1.nx
theorem ds_setLcD {y : Str} {py spos : Pos} (i : Nat) (hN : X.N.Nodup) (hi : DI Z X E tg iter wi) (ok : BlkOk X.N X.env.scope scope own)
    (hg : ∀ (s : Shared) (H : Hp) (C : Addr) (cl : List (Str × Addr)) (fp : List Addr), DGW Z (X.blk s H scope (compEnvC scope cl C X.env) fp) (own.map (·.2)) tg g)
    (ht : ∀ (s : Shared) (H : Hp) (C : Addr) (cl : List (Str × Addr)) (fp : List Addr), DTs Z (X.blk s H scope (compEnvC scope cl C X.env) fp) E00 ifs tt)
    (he : ∀ (s : Shared) (H : Hp) (C : Addr) (cl : List (Str × Addr)) (fp : List Addr), DE Z (X.blk s H scope (compEnvC scope cl C X.env) fp) E00 elt w)
    (hsw : swapsWith (.ListComp elt [⟨tg, iter, ifs, 0⟩] scope pos) (some (.Name y py)) spos.line X.env = pure true) (hc : X.calm = true := by rfl) (hy : X.N[i]? = some y := by rfl) (hyl : X.env.scope.names.lookup y = some .local := by rfl)
    (hs : ∀ x, foldedSetIterable iter X.env x = pure x := by intro _; rfl) : DS Z X E (.Assign [.Name y py] (.ListComp elt [⟨tg, iter, ifs, 0⟩] scope pos) spos) (sAsg (wOfL (lComp wi g tt w (own.map (·.2)))) (gNm i)) := by
  obtain ⟨t, p, l⟩ := hi
  refine ⟨_, ps_setLc (g := canGW Z X.K (own.map (·.2)) g) (tt := canT Z X.K E00 tt) (te := canE Z X.K E00 w) hc hN hy hyl hsw p ok (fun s H C cl fp => pgw_can (hg s H C cl fp)) (fun s H C cl fp => pts_can (ht s H C cl fp)) (fun s H C cl fp => pe_can (he s H C cl fp)) hs, fun c F H σ ρ Xd DD D e k h q => ?_⟩
  refine ll_comp l c F H σ ρ Xd _ _ e k h fun xs a vs F1 H1 h1 e1 s1 n1 f1 f2 f3 r1 => ?_
  have sF : Same F1 (upd F1 a (.lst vs)) := fun b u hb => by
    rw [upd_ne (ne_of_none hb f2)]
    exact hb
  exact q.nx _ _ _ H1 h1 ((e1.freeze f2 (e.h0 f1) f3 fun j ys hj => e.notOwn (xs := vs) f1 hj).setD (x := .lst xs) ⟨a, vs, rfl, SqL.of upd_same, RepL.mono sF _ _ r1⟩) (s1.trans sF) n1.nx
/-! ### a, b = x, y -/
def ArgsOo (K : PySem.W.Frag) (c : Cfg) (F' H' H : Hp) : List SV → List V → Prop
  | [], vs => vs = []
  | s :: r, vs => ∃ (v : V) (t : List V), vs = v :: t ∧ SlotOk K c F' H' s (some v) ∧ (∀ xs a, s = SV.own xs → v = V.ref a → H a = none ∧ ∀ (j : Nat) ys, r[j]? = some (SV.own ys) → t[j]? ≠ some (V.ref a)) ∧ ArgsOo K c F' H' H r t
def LAo (Z : SrcK) (K : PySem.W.Frag) (E : L2.St → XK) (t : TA) (w : AW) : Prop :=
  ∀ (c : Cfg) (F H : Hp) (σ : L2.St) (ρ : Env) (Xd : XD) (Qd : List SV → Prop) (Qv : List V → Hp → Prop), EnvOk Z K c F H σ ρ → ELk Z K c F H E Xd → w Xd ρ Qd →
    (∀ ss vs F' H', Qd ss → EnvOk Z K c F' H' σ ρ → Same F F' → Kx c.fp F H F' H' → ArgsOo K c F' H' H ss vs → Qv vs H') → t σ H Qv
def DAo (Z : SrcK) (X : Cx) (E : L2.St → XK) (es : List Expr) (w : AW) : Prop := ∃ t, PA X es t ∧ LAo Z X.K E t w
theorem dao_nil : DAo Z X E [] wNil := ⟨_, pa_nil, fun c F H σ ρ Xd Qd Qv e _ h q => q [] [] F H h e (Same.refl _) (Kx.refl _ _ _) rfl⟩
theorem ArgsOo.back {Ha H0 : Hp} (n : Nx Ha H0) : ∀ {ss : List SV} {vs : List V}, ArgsOo K c F H H0 ss vs → ArgsOo K c F H Ha ss vs
  | [], _, h => h
  | s :: r, vs, h => by
    obtain ⟨v, t, e1, e2, e3, e4⟩ := h
    exact ⟨v, t, e1, e2, fun xs a z1 z2 => ⟨n.free (e3 xs a z1 z2).1, (e3 xs a z1 z2).2⟩, ArgsOo.back n e4⟩
theorem ArgsOo.fresh {Ha : Hp} : ∀ {ss : List SV} {vs : List V}, ArgsOo K c F H Ha ss vs → ∀ (j : Nat) ys a, ss[j]? = some (SV.own ys) → vs[j]? = some (V.ref a) → Ha a = none
  | [], _, _, j, ys, a, h1, _ => by simp at h1
  | s :: r, vs, h, j, ys, a, h1, h2 => by
    obtain ⟨v, t, rfl, e2, e3, e4⟩ := h
    cases j with
    | zero =>
      have h1 : s = SV.own ys := by simpa using h1
      have h2 : v = V.ref a := by simpa using h2
      exact (e3 ys a h1 h2).1
    | succ j => exact ArgsOo.fresh e4 j ys a (by simpa using h1) (by simpa using h2)
theorem SlotOk.kx {s : SV} {o : Option V} {F' H' : Hp} (e : EnvOk Z K c F H σ ρ) (h : SlotOk K c F H s o) (sF : Same F F') (n : Kx c.fp F H F' H') : SlotOk K c F' H' s o := by
  cases s with
  | un => trivial
  | d y =>
    obtain ⟨v, r1, r2⟩ := h
    exact ⟨v, r1, Rep.mono sF _ _ r2⟩
  | own ys =>
    obtain ⟨a, vs, r1, r2, r3, r4, r5⟩ := h
    refine ⟨a, vs, r1, ?_, r3, n.kp _ _ r4 (not_fp e r3), RepL.mono sF _ _ r5⟩
    cases q : F' a with
    | none => rfl
    | some u =>
      rcases n.new a (by rw [q]; simp) with z | z
      · exact absurd r2 z
      · rw [r4] at z
        cases z
  | src => exact h
  | obj px C fs => exact obj_kx h sF (fun a u z z0 _ => n.kp _ _ z (not_fp e z0)) fun b z => (n.new b z).elim .inl fun z => .inr (.inl z)
theorem dao_cons {ws : AW} (ha : DE Z X E e wa) (hr : DAo Z X E es ws) (hs : starEach (e :: es) X.env = (false, eval e X.env) :: starEach es X.env := by rfl) : DAo Z X E (e :: es) (wCons wa ws) := by
  obtain ⟨t, p, l⟩ := ha
  obtain ⟨t1, p1, l1⟩ := hr
  refine ⟨_, pa_cons p p1 hs, fun c F H σ ρ Xd Qd Qv e k h q => ?_⟩
  refine l c F H σ ρ Xd _ _ e k h fun d v F1 H1 h1 e1 s1 n1 r1 => ?_
  refine l1 c F1 H1 σ ρ Xd _ _ e1 (k.mono s1 n1.nx) h1 fun ss vs F2 H2 h2 e2 s2 n2 r2 => ?_
  exact q _ _ F2 H2 h2 e2 (s1.trans s2) (n1.trans n2) ⟨v, vs, rfl, ⟨v, rfl, Rep.mono s2 _ _ r1⟩, fun _ _ z => (nomatch z), r2.back n1.nx⟩
theorem dao_consL {ws : AW} {l : LW} (ha : DLs Z X E e l) (hr : DAo Z X E es ws) (hs : starEach (e :: es) X.env = (false, eval e X.env) :: starEach es X.env := by rfl) : DAo Z X E (e :: es) (wConsL l ws) := by
  obtain ⟨t, p, l⟩ := ha
  obtain ⟨t1, p1, l1⟩ := hr
  refine ⟨_, pa_cons p p1 hs, fun c F H σ ρ Xd Qd Qv e k h q => ?_⟩
  refine l c F H σ ρ Xd _ _ e k h fun xs a vl F1 H1 h1 e1 s1 n1 f1 f2 f3 r1 => ?_
  refine l1 c F1 H1 σ ρ Xd _ _ e1 (k.mono s1 n1.nx) h1 fun ss vs F2 H2 h2 e2 s2 n2 r2 => ?_
  have so : SlotOk X.K c F1 H1 (SV.own xs) (some (V.ref a)) := ⟨a, vl, rfl, f2, e.h0 f1, f3, r1⟩
  refine q _ _ F2 H2 h2 e2 (s1.trans s2) (n1.trans n2) ⟨.ref a, vs, rfl, SlotOk.kx e1 so s2 n2, fun ys b z1 z2 => ?_, r2.back n1.nx⟩
  have z2 : a = b := by simpa using z2
  subst z2
  refine ⟨f1, fun j zs hj hk => ?_⟩
  have := r2.fresh j zs a hj hk
  rw [f3] at this
  cases this
theorem setAll_env {c : Cfg} {F H Ha : Hp} : ∀ {is : List Nat} {ss : List SV} {vs : List V} {ρ ρ' : Env} {σ : L2.St}, setAll is ss ρ = some ρ' → ArgsOo K c F H Ha ss vs → EnvOk Z K c F H σ ρ →
    (∀ (j : Nat) ys b, ss[j]? = some (SV.own ys) → vs[j]? = some (V.ref b) → ∀ (i : Nat) zs, ρ[i]? = some (SV.own zs) → σ[i]? ≠ some (some (V.ref b))) → EnvOk Z K c F H ((is.zip vs).foldl (fun s p => s.set p.1 (some p.2)) σ) ρ'
  | [], [], vs, ρ, ρ', σ, h, r, e, _ => by
    cases h
    exact e
  | i :: is, s :: ss, vs, ρ, ρ', σ, h, r, e, na => by
    obtain ⟨v, t, rfl, e2, e3, e4⟩ := r
    have h : setAll is ss (ρ.set i s) = some ρ' := h
    refine setAll_env (is := is) (ss := ss) h e4 (e.setS e2 fun xs a z1 z2 j ys _ hj => na 0 xs a (by simp [z1]) (by have z2 : v = V.ref a := z2; simp [z2]) j ys hj) fun j ys b h1 h2 k zs hk hk2 => ?_
    by_cases hki : k = i
    · subst hki
      rcases Nat.lt_or_ge k ρ.length with z | z
      · rw [List.getElem?_set_self z] at hk
        have hk : s = SV.own zs := by simpa using hk
        rw [List.getElem?_set_self (by rw [e.len]; exact z)] at hk2
        have hk2 : v = V.ref b := by simpa using hk2
        exact (e3 zs b hk hk2).2 j ys h1 h2
      · rw [List.getElem?_eq_none_iff.mpr (by rw [List.length_set]; exact z)] at hk
        cases hk
    · rw [List.getElem?_set_ne (Ne.symm hki)] at hk hk2
      exact na (j + 1) ys b (by simpa using h1) (by simpa using h2) k zs hk hk2
  | [], _ :: _, _, _, _, _, h, _, _, _ => by cases h
  | _ :: _, [], _, _, _, _, h, _, _, _ => by cases h
theorem ArgsOo.len {Ha : Hp} : ∀ {ss : List SV} {vs : List V}, ArgsOo K c F H Ha ss vs → vs.length = ss.length
  | [], _, h => by
    have h : _ = [] := h
    rw [h] <;> rfl
  | s :: r, vs, h => by
    obtain ⟨v, t, rfl, _, _, e4⟩ := h
    rw [List.length_cons, List.length_cons, e4.len]
theorem setAll_len : ∀ {is : List Nat} {ss : List SV} {ρ ρ' : Env}, setAll is ss ρ = some ρ' → ss.length = is.length
  | [], [], _, _, _ => rfl
  | i :: is, s :: ss, ρ, ρ', h => by
    have h : setAll is ss (ρ.set i s) = some ρ' := h
    rw [List.length_cons, List.length_cons, setAll_len h]
  | [], _ :: _, _, _, h => by cases h
  | _ :: _, [], _, _, h => by cases h
theorem par_core {ta : TA} {ws : AW} {is : List Nat} (ha : LAo Z K E ta ws) {Xd : XD} {DD : DEnds} {D : Ends} {Qv : List V → Hp → Prop} (e : EnvOk Z K c F H σ ρ) (k : ELk Z K c F H E Xd) (h : sPar is ws Xd DD ρ) (q : EndsOk Z K c F H DD D)
    (hq : ∀ vs H1, vs.length = is.length → D.nx ((is.zip vs).foldl (fun s p => s.set p.1 (some p.2)) σ) H1 → Qv vs H1) : ta σ H Qv := by
  refine ha c F H σ ρ Xd _ _ e k h fun ss vs F1 H1 h1 e1 s1 n1 r1 => ?_
  cases z : setAll is ss ρ with
  | none => rw [z] at h1; exact h1.elim
  | some ρ' =>
    rw [z] at h1
    refine hq _ _ (r1.len.trans (setAll_len z)) (q.nx _ _ F1 H1 h1 (setAll_env z r1 e1 fun j ys b hj hb i zs hi => ?_) s1 n1.nx)
    exact e.notOwn (xs := []) (r1.fresh j ys b hj hb) hi
theorem len2 {α : Type} {vs : List α} (h : vs.length = 2) : ∃ v w, vs = [v, w] := by
  match vs, h with
  | [v, w], _ => exact ⟨v, w, rfl⟩
theorem len3 {α : Type} {vs : List α} (h : vs.length = 3) : ∃ v w u, vs = [v, w, u] := by
  match vs, h with
  | [v, w, u], _ => exact ⟨v, w, u, rfl⟩
theorem ds_par2 {x y : Str} {px py pt : Pos} {kt k2 : Nat} {pt2 : Pos} {ws : AW} (i j : Nat) (hN : X.N.Nodup) (ha : DAo Z X E [a, b] ws) (hw : swappedStores [.Tuple [.Name x px, .Name y py] kt pt] (.Tuple [a, b] k2 pt2) X.env = pure (some [x, y]) := by rfl) (hij : i ≠ j := by decide) (hi : X.N[i]? = some x := by rfl) (hj : X.N[j]? = some y := by rfl)
    (hx : X.env.scope.names.lookup x = some .local := by rfl) (hy : X.env.scope.names.lookup y = some .local := by rfl) (hc : X.calm = true := by rfl)
    (hs : swapsWithSole [.Tuple [.Name x px, .Name y py] kt pt] (.Tuple [a, b] k2 pt2) pos.line X.env = pure false := by rfl) : DS Z X E (.Assign [.Tuple [.Name x px, .Name y py] kt pt] (.Tuple [a, b] k2 pt2) pos) (sPar [i, j] ws) := by
  obtain ⟨t, p, l⟩ := ha
  refine ⟨_, ps_par hc hN hi hj hij hx hy p hw hs, fun c F H σ ρ Xd DD D e k h q => par_core (is := [i, j]) l e k h q fun vs H1 hl z => ?_⟩
  obtain ⟨v, w, rfl⟩ := len2 hl
  exact ⟨v, w, rfl, z⟩
theorem ds_par3 {b' : Expr} {x y z : Str} {px py pz pt : Pos} {kt k2 : Nat} {pt2 : Pos} {ws : AW} (i j m : Nat) (hN : X.N.Nodup) (ha : DAo Z X E [a, b, b'] ws) (hw : swappedStores [.Tuple [.Name x px, .Name y py, .Name z pz] kt pt] (.Tuple [a, b, b'] k2 pt2) X.env = pure (some [x, y, z]) := by rfl)
    (hij : i ≠ j := by decide) (him : i ≠ m := by decide) (hjm : j ≠ m := by decide) (hi : X.N[i]? = some x := by rfl) (hj : X.N[j]? = some y := by rfl) (hm : X.N[m]? = some z := by rfl)
    (hx : X.env.scope.names.lookup x = some .local := by rfl) (hy : X.env.scope.names.lookup y = some .local := by rfl) (hz : X.env.scope.names.lookup z = some .local := by rfl) (hc : X.calm = true := by rfl)
    (hs : swapsWithSole [.Tuple [.Name x px, .Name y py, .Name z pz] kt pt] (.Tuple [a, b, b'] k2 pt2) pos.line X.env = pure false := by rfl) : DS Z X E (.Assign [.Tuple [.Name x px, .Name y py, .Name z pz] kt pt] (.Tuple [a, b, b'] k2 pt2) pos) (sPar [i, j, m] ws) := by
  obtain ⟨t, p, l⟩ := ha
  refine ⟨_, ps_par3 hc hN hi hj hm hij him hjm hx hy hz p hw hs, fun c F H σ ρ Xd DD D e k h q => par_core (is := [i, j, m]) l e k h q fun vs H1 hl z => ?_⟩
  obtain ⟨v, w, u, rfl⟩ := len3 hl
  exact ⟨v, w, u, rfl, z⟩
/-- the same by a tuple that is made and taken apart -/
def namesAt (X : Cx) : List Expr → List Nat → Prop
  | [], [] => True
  | .Name x _ :: r, i :: is => X.N[i]? = some x ∧ Loc X.env.scope x ∧ (X.fn x = true ∨ X.env.scope.names.lookup x = some .local) ∧ namesAt X r is
  | _, _ => False
/-! ### a def's body -/
theorem after_of {src : Option (Addr × List Addr)} (e : EnvOk Z K ⟨src, F, H⟩ F' H' σ ρ) : After Z src (fpOf src) F H F' H' := by
  have h := fp_eq (c := ⟨src, F, H⟩)
  refine ⟨e.f0, e.fh, e.new, fun b o q n => e.keep b o q ?_, e.all, fun a fp q => ⟨(e.src a fp q).1, fun b hb => ((e.src a fp q).2 b hb).1⟩⟩
  rw [← h]
  exact n
theorem env_start {src : Option (Addr × List Addr)} {ss : List SV} {vs : List V} {N : List Str} (s : Same F H) (hs : ∀ a fp, src = some (a, fp) → Z.P a fp H ∧ ∀ b ∈ fp, F b = none) (r : ArgsOk K src F ss vs) (hl : vs.length ≤ N.length) :
    EnvOk Z K ⟨src, F, H⟩ F H (L2.start N vs) (ss ++ List.replicate (N.length - ss.length) .un) := by
  have key : ∀ {ss : List SV} {vs : List V}, ArgsOk K src F ss vs → vs.length = ss.length ∧ (∀ (i : Nat) s, ss[i]? = some s → ∃ v, vs[i]? = some v ∧ ArgOk K src F s v) := fun {ss} => by
    induction ss with
    | nil =>
      intro vs r
      have r : vs = [] := r
      subst r
      exact ⟨rfl, fun i s h => by simp at h⟩
    | cons s r ih =>
      intro vs h
      obtain ⟨v, t, rfl, h1, h2⟩ := h
      obtain ⟨i1, i2⟩ := ih h2
      refine ⟨by rw [List.length_cons, List.length_cons, i1], fun i u hu => ?_⟩
      cases i with
      | zero =>
        have hu : s = u := by simpa using hu
        subst hu
        exact ⟨v, rfl, h1⟩
      | succ i =>
        have hu : r[i]? = some u := by simpa using hu
        obtain ⟨v2, z1, z2⟩ := i2 i u hu
        exact ⟨v2, by simpa using z1, z2⟩
  obtain ⟨l1, l2⟩ := key r
  refine ⟨?_, fun i u h => ?_, fun i j xs ys hij h1 h2 => ?_, s, Same.refl _, fun b h => .inl h, fun b o h _ => h, fun b h => h, fun a fp h => ⟨(hs a fp h).1, fun b hb => ⟨(hs a fp h).2 b hb, (Z.tr (hs a fp h).1).2 b hb⟩⟩⟩
  · unfold L2.start
    rw [List.length_append, List.length_append, List.length_map, List.length_replicate, List.length_replicate, l1]
  · unfold L2.start
    by_cases hi : i < ss.length
    · rw [List.getElem?_append_left hi] at h
      obtain ⟨v, z1, z2⟩ := l2 i u h
      refine ⟨some v, ?_, ?_⟩
      · rw [List.getElem?_append_left (by rw [List.length_map, l1]; exact hi), List.getElem?_map, z1]
        rfl
      · cases u with
        | un => trivial
        | d x => exact ⟨v, rfl, z2⟩
        | own _ => exact z2.elim
        | src =>
          obtain ⟨p, fp, z3, z4⟩ := z2
          exact ⟨p, fp, z3, by rw [z4]⟩
        | obj _ _ _ => exact z2.elim
    · rw [List.getElem?_append_right (by omega), List.getElem?_replicate] at h
      split at h
      · cases h
        refine ⟨none, ?_, trivial⟩
        rw [List.getElem?_append_right (by rw [List.length_map, l1]; omega), List.getElem?_replicate, List.length_map, l1]
        rw [if_pos (by omega)]
      · cases h
  · have none_own : ∀ (i : Nat) xs, (ss ++ List.replicate (N.length - ss.length) SV.un)[i]? ≠ some (SV.own xs) := fun i xs h => by
      by_cases hi : i < ss.length
      · rw [List.getElem?_append_left hi] at h
        obtain ⟨v, z1, z2⟩ := l2 i _ h
        exact z2
      · rw [List.getElem?_append_right (by omega), List.getElem?_replicate] at h
        split at h <;> cases h
    exact absurd h1 (none_own i xs)
end
section
variable {P : Program} {w : World} {K : PySem.W.Frag} {mg : Str → Option Value} {base : Heap} {Z : SrcK}
theorem PassesOwn.cx {N : List Str} {qual : Str} {scope : Scope} {f : Addr} {cd : Value} {A : Around} {outer : List PySem.Env} {s : Shared} {H : Hp} {E : XK} :
    PassesOwn (model P w) (A.deeper (envOfC qual scope s.heap.objs.size f cd)) (envOfC qual scope s.heap.objs.size f cd) (cxOf (L2.CX P w) P w K mg base N qual scope f cd A outer s H E).xe := passes_of (E₁ := fun e' s'' => L2.CX P w outer H s E e' s'') rfl
theorem at_cx {k : Nat} {N : List Str} {qual : Str} {scope : Scope} {f : Addr} {cd : Value} {A : Around} {outer : List PySem.Env} {s : Shared} {H : Hp} {E : XK} (hr : Room k (A.deeper (envOfC qual scope s.heap.objs.size f cd))) :
    At (cxOf (L2.CX P w) P w K mg base N qual scope f cd A outer s H E) (fun _ => E) k :=
  ⟨hr, takes_of rfl rfl rfl rfl⟩
/-- THE RULE for a def: its body asks w0 of data, and its promise gives that -/
theorem fd_of {x y : Str} {st : Stmt} {f : Addr} {fd : FuncData} {N ps : List Str} {k : Nat} {sp : Spec} {wb : SW} (F : Fun K x x st f fd) (S : FnScope N ps (defScope st)) (hm : mg y = some (.ref f)) (hb : Binds K fd ps []) {kws : List (List Str × List Nat)} (hkw : ∀ p ∈ kws, KwOk fd ps p.1 p.2)
    (hl : ∀ ss Q Xe, sp ss Q Xe → ss.length = ps.length)
    (hbody : ∀ (cdv : Value) (A : Around) (outer : List PySem.Env) (s : Shared) (H : Hp) (E : XK), Room k (A.deeper (envOfC x (defScope st) s.heap.objs.size f cdv)) →
      DSs Z (cxOf (L2.CX P w) P w K mg base N x (defScope st) f cdv A outer s H E) (fun _ => E) (defBody st) wb)
    (hw : ∀ ss Q Xe, sp ss Q Xe → wb (fun _ => Xe) { nx := fun _ => Q (.d .non), rt := Q } (ss ++ List.replicate (N.length - ss.length) .un)) : Fd P w K mg base Z (k + 1) y ps kws sp := by
  have len : ∀ {ss : List SV} {src : Option (Addr × List Addr)} {F0 : Hp} {vs : List V}, ArgsOk K src F0 ss vs → vs.length = ss.length := fun {ss} => by
    induction ss with
    | nil =>
      intro src F0 vs r
      have r : vs = [] := r
      rw [r]
      rfl
    | cons s r ih =>
      intro src F0 vs h
      obtain ⟨v, t, rfl, h1, h2⟩ := h
      rw [List.length_cons, List.length_cons, ih h2]
  refine ⟨f, fd, F.okX S (fun vs H Q E h => ?_) (fun cdv A outer s H vs Q E hr h => ?_), hm, F.kp, hb, hkw⟩
  · obtain ⟨src, F0, ss, Qd, Xe, _, _, r, h1, _⟩ := h
    rw [len r]
    exact hl _ _ _ h1
  · obtain ⟨src, F0, ss, Qd, Xe, s1, s2, r, h1, q1, q2⟩ := h
    obtain ⟨t, p, l⟩ := hbody cdv A outer s H E hr
    refine ⟨t, p, ?_⟩
    have hN : vs.length ≤ N.length := by
      rw [len r, hl _ _ _ h1]
      have e := congrArg List.length S.pre
      rw [List.length_take] at e
      omega
    have e0 := env_start (Z := Z) (K := K) s1 s2 r hN
    refine l ⟨src, F0, H⟩ F0 H _ _ _ _ _ e0 (fun σ ρ ex F' H' cls dd x e' s' _ r' => q2 ex F' H' cls dd x (after_of e') r') (hw ss Qd Xe h1) ⟨fun σ ρ F' H' x e' s' n' => ?_, fun r v σ ρ F' H' x e' s' r' => ?_, fun _ _ _ _ x => x.elim, fun _ _ _ _ x => x.elim⟩
    · exact q1 (.d .non) .non F' H' x (after_of e') rfl
    · exact q1 r v F' H' x (after_of e') r'
end
end DL
set_option linter.all false
set_option autoImplicit false
set_option maxHeartbeats 2000000
set_option maxRecDepth 100000
/-! enumerate and zip over lists and tuples in any mix. -/
namespace DL
open PySem PySem.Spec PyProof.Rows L2

/-! ### a list or a tuple -/
def IsSeq (tp : Bool) (h : Heap) (a : Addr) (items : Array Value) : Prop := match tp with
  | true => h.IsTuple a items
  | false => h.IsList a items
def IsSeqIter (tp : Bool) (h : Heap) (it a : Addr) (i : Nat) : Prop := match tp with
  | true => h.IsTupleIter it a i
  | false => h.IsListIter it a i
def seqIt (tp : Bool) (a : Addr) : Obj := match tp with
  | true => { cls := .type "tuple_iterator", data := .fields #[.ref a, .int 0 0] }
  | false => { cls := .type "list_iterator", data := .fields #[.ref a, .int 0 0] }
theorem begins_seq (tp : Bool) (a : Addr) (items : Array Value) : Begins (.ref a) (seqIt tp a) (fun h => IsSeq tp h a items) := by
  cases tp with
  | true => exact begins_tuple a items
  | false => exact begins_list a items
theorem draws_seq {P : Program} {w : World} {A : Around} (hh : A.handled = none) (tp : Bool) (it a : Addr) (hne : a ≠ it) (items : Array Value) :
    Draws P w A it [it, a] items.size (fun i v => items[i]? = some v) (fun i h => IsSeqIter tp h it a i ∧ IsSeq tp h a items) := by
  cases tp with
  | true => exact Draws.tuple hh it a hne items
  | false => exact Draws.list hh it a hne items
theorem seq_start {tp : Bool} {h : Heap} {it a : Addr} (e : h.get? it = some (seqIt tp a)) : IsSeqIter tp h it a 0 := by
  cases tp with
  | true => exact ⟨_, e, rfl, rfl⟩
  | false => exact ⟨_, e, rfl, rfl⟩
theorem seqIter_obj {tp : Bool} {h : Heap} {it a : Addr} {i : Nat} (e : IsSeqIter tp h it a i) : ∃ o, h.get? it = some o ∧ ∀ v, o.data ≠ .cell v := by
  cases tp with
  | true =>
    obtain ⟨o, e1, c, d⟩ := e
    exact ⟨o, e1, fun v z => by rw [d] at z; cases z⟩
  | false =>
    obtain ⟨o, e1, c, d⟩ := e
    exact ⟨o, e1, fun v z => by rw [d] at z; cases z⟩
theorem seqIter_at {tp : Bool} {h h' : Heap} {it a : Addr} {i : Nat} (e : IsSeqIter tp h it a i) (k : ∀ o, h.get? it = some o → h'.get? it = some o) : IsSeqIter tp h' it a i := by
  cases tp with
  | true =>
    obtain ⟨o, e1, c, d⟩ := e
    exact ⟨o, k o e1, c, d⟩
  | false =>
    obtain ⟨o, e1, c, d⟩ := e
    exact ⟨o, k o e1, c, d⟩
def SqS (K : PySem.W.Frag) (tp : Bool) (H : Hp) (a : Addr) (xs : List V) : Prop := match tp with
  | true => SqT K H a xs
  | false => SqL K H a xs
section
variable {X : Cx} {pins : List (Addr × Obj)} {σ : L2.St} {H : Hp} {s : Shared} {a : Addr} {xs ys : List V}
theorem Inv.seqS {tp : Bool} (I : Inv X pins σ H s) (h : SqS X.K tp H a xs) : ∃ its : List Value, Vals xs its ∧ IsSeq tp s.heap a its.toArray := by
  cases tp with
  | true =>
    obtain ⟨its, r, p, _⟩ := I.tuple h
    exact ⟨its, r, p⟩
  | false =>
    obtain ⟨its, r, p, _⟩ := I.list h
    exact ⟨its, r, p.isList⟩
theorem Inv.seq_inj {tp : Bool} (I : Inv X pins σ H s) (h : SqS X.K tp H a xs) (h' : SqS X.K tp H a ys) : xs = ys := by
  cases tp with
  | true => exact I.tuple_inj h h'
  | false => exact I.list_inj h h'
theorem seq_lt {tp : Bool} {h : Heap} {items : Array Value} (e : IsSeq tp h a items) : a < h.objs.size := by
  cases tp with
  | true =>
    obtain ⟨o, e1, _⟩ := e
    exact Heap.lt_size e1
  | false =>
    obtain ⟨o, e1, _⟩ := e
    exact Heap.lt_size e1
end
theorem sqs_same {K : PySem.W.Frag} {tp : Bool} {F F' : Hp} {a : Addr} {xs : List V} (e : Same F F') (h : SqS K tp F a xs) : SqS K tp F' a xs := by
  cases tp with
  | true => exact same_t e h
  | false =>
    rcases h with h | h
    · exact .inl (rd_same e h)
    · exact .inr h
/-! ### an iterator that gives new tuples, by what the library says of it -/
theorem turn_gen {P : Program} {w : World} {K : PySem.W.Frag} {elts : List Expr} {kk : Nat} {tpos : Pos} (J : It) (recs : List Addr) (I0 : Addr) (Rec : Nat → Heap → Prop) (mem : I0 ∈ recs)
    (obj : ∀ i h, Rec i h → ∀ b ∈ recs, ∃ o, h.get? b = some o ∧ ∀ v, o.data ≠ .cell v)
    (keep : ∀ i h h', Rec i h → (∀ b ∈ recs, ∀ o, h.get? b = some o → h'.get? b = some o) → Rec i h')
    (self : ∀ (A : Around) (i : Nat) (s : Shared) (Q : Value → Shared → Prop) (E : Value → Shared → Prop), Rec i s.heap → Q (.ref I0) s → wpAny (model P w) A (pyIter (.ref I0)) Q E s)
    (hgo : ∀ (X : Cx), X.prog = P → X.w = w → X.K = K → X.calm = true → ∀ (i : Nat) (pins : List (Addr × Obj)) (s : Shared) (σ : L2.St) (H : Hp), Inv X pins σ H s → Rec i s.heap → J.go i H →
      ∃ (fp wr : List Addr) (n : Nat) (Pt : Nat → Array Value → Prop) (St : Nat → Heap → Prop) (Mid : Nat → Addr → Heap → Prop), WalksT P w X.A I0 fp wr n Pt St Mid ∧ i < n ∧ St i s.heap ∧ (∀ b ∈ wr, b ∈ recs) ∧ (∀ h, St (i + 1) h → Rec (i + 1) h) ∧
        ∀ vals, Pt i vals → ∃ xs, Vals xs vals.toList ∧ xs.length ≤ sizeLine ∧ ∀ T, H T = none → J.yld i H (.ref T) (upd H T (.tup xs)))
    (hstop : ∀ (X : Cx), X.prog = P → X.w = w → X.K = K → X.calm = true → ∀ (i : Nat) (pins : List (Addr × Obj)) (s : Shared) (σ : L2.St) (H : Hp), Inv X pins σ H s → Rec i s.heap → J.stop i H →
      ∃ (fp wr : List Addr) (Pt : Nat → Array Value → Prop) (St : Nat → Heap → Prop) (Mid : Nat → Addr → Heap → Prop), WalksT P w X.A I0 fp wr i Pt St Mid ∧ St i s.heap ∧ (∀ b ∈ wr, b ∈ recs)) :
    Turn P w K (.Tuple elts kk tpos) J recs I0 Rec where
  mem := mem
  obj := obj
  keep := keep
  item := by
    intro X hP hw hK hc i pins s σ H E I hf st hg
    obtain ⟨fp, wr, n, Pt, St, Mid, W, hi, hst, hwr, hrec, hval⟩ := hgo X hP hw hK hc i pins s σ H I st hg
    subst hP hw hK
    refine W.item i s _ _ hi hst fun T vals h' tk hPt hT hTup hMid hk => ⟨_, rfl, ?_⟩
    refine W.go elts kk tpos i T { s with heap := h', toks := tk } _ _ hMid fun h'' hSt hk2 => ?_
    obtain ⟨xs, rv, hz, hy⟩ := hval vals hPt
    have hTn : H T = none := I.hok.fresh hT
    have apart : T ∉ wr := W.apart _ _ _ hMid
    have hT2 : h''.IsTuple T vals := by
      obtain ⟨o, e1, e2⟩ := hTup
      exact ⟨o, hk2 T o apart e1, e2⟩
    have new : ObjOk X.prog X.w (upd H T (.tup xs)) h'' T (.tup xs) := ⟨hz, vals.toList, rv, by
      show h''.IsTuple T vals.toList.toArray
      simpa using hT2⟩
    have I1 : Inv X pins σ (upd H T (.tup xs)) { s with heap := h'', toks := tk } :=
      I.turnedNew (ch := wr) (fun b o hb e => hk2 b o hb (hk b o hb e)) (fun b hb => hf b (hwr b hb)) hT new
    refine ⟨.ref T, _, I1, rfl, hy T hTn, hrec _ hSt, fun b hb => ?_⟩
    have hbT : b ≠ T := fun z => by
      obtain ⟨o, e, _⟩ := obj _ _ st b hb
      exact absurd (Heap.lt_size e) (by rw [z]; exact Nat.not_lt.mpr hT)
    rw [upd_ne hbT]
    exact (hf b hb).1
  done := by
    intro X hP hw hK hc i pins s σ H E I hf st hg
    obtain ⟨fp, wr, Pt, St, Mid, W, hst, hwr⟩ := hstop X hP hw hK hc i pins s σ H I st hg
    subst hP hw hK
    exact W.done s _ _ hst fun h' tk hk => ⟨rfl, I.turnedL (t' := tk) (ch := wr) (fun b o hb e => hk b o hb e) fun b hb => hf b (hwr b hb)⟩
  self := fun A i s Q E st h => self A i s Q E st h
/-! ### enumerate -/
set_option maxHeartbeats 1000000 in
theorem meets_enum1 {v : Value} {o : Obj} {H : Heap → Prop} (B : Begins v o H) :
    Meets (Builtin.«enumerate.__new__» ⟨[.type "enumerate", v], []⟩) (fun _ R s => H s.heap ∧
      R (.ok (.ret (.ref (s.heap.push o).objs.size))) { s with heap := (s.heap.push o).push { cls := .type "enumerate", data := .fields #[.none, .bool false, .ref s.heap.objs.size, rawInt 0, .none, .none] } }) :=
  .of_wp fun prog w A R s h => by
    obtain ⟨hp, g, d, tk, os⟩ := s; obtain ⟨h1, h⟩ := h
    have hsub := sub_enumerate
    have q1 : ∀ {A' : Around} {E : Value → Shared → Prop} {Q : Value → Shared → Prop}, Q (.ref hp.objs.size) ⟨hp.push o, g, d, tk, os⟩ → wpAny (model prog w) A' (pyIter v) Q E ⟨hp, g, d, tk, os⟩ :=
      fun q => B.iter prog w _ _ ⟨hp, g, d, tk, os⟩ _ h1 q
    wp_walk using q1
    refine wpAny_stack_any fun st => wpAny_pure ?_
    split
    · rename_i c _ _ _ _ _
      cases (c == Value.type "enumerate")
      · wp_walk using q1
        exact ⟨_, rfl, h⟩
      · wp_walk using q1
        exact ⟨_, rfl, h⟩
    · wp_walk using q1
      exact ⟨_, rfl, h⟩
theorem enum_begins1 {P : Program} {w : World} {A : Around} {E : Value → Shared → Prop} {s : Shared} {v : Value} {o : Obj} {H : Heap → Prop} {Q : Value → Shared → Prop} (B : Begins v o H) (h1 : H s.heap)
    (h : ∀ h', IsEnum h' (s.heap.objs.size + 1) s.heap.objs.size 0 .none → h'.get? s.heap.objs.size = some o → h'.objs.size = s.heap.objs.size + 2 →
      (∀ b o, s.heap.get? b = some o → h'.get? b = some o) → Q (.ref (s.heap.objs.size + 1)) { s with heap := h' }) :
    wpAny (model P w) A (call (.type "enumerate") [v]) Q E s := by
  refine callType_new F.called_enumerate (by decide) (F.typeCall_enumerate_1 _) (F.newCall_enumerate_1 _) (fun obj => F.args_object_init_2 obj _) F.entry_enumerate_new
    (meets_enum1 B) ⟨h1, ?_⟩
  have hz : (s.heap.push o).objs.size = s.heap.objs.size + 1 := Heap.size_push ..
  show _ ∧ _
  rw [hz]
  have he : IsEnum ((s.heap.push o).push { cls := .type "enumerate", data := .fields #[.none, .bool false, .ref s.heap.objs.size, rawInt 0, .none, .none] }) (s.heap.objs.size + 1) s.heap.objs.size 0 .none := by
    have := Heap.get?_push_size (s.heap.push o) (o := { cls := .type "enumerate", data := .fields #[.none, .bool false, .ref s.heap.objs.size, rawInt 0, .none, .none] }) rfl
    rw [hz] at this; exact this
  refine ⟨⟨_, he, rfl⟩, h _ he (Heap.get?_push_of_some _ (Heap.get?_push_size _ B.free)) (by rw [Heap.size_push, hz]) fun b o x => Heap.get?_push_of_some _ (Heap.get?_push_of_some _ x)⟩
def IteS (K : PySem.W.Frag) (tp : Bool) (a : Addr) : It :=
  ⟨fun i H => ∃ (xs : List V) (x : V), SqS K tp H a xs ∧ xs[i]? = some x, fun i H v H' => ∃ T x, v = .ref T ∧ H T = none ∧ H' = upd H T (.tup [.int (i : Nat), x]) ∧ ∀ xs, SqS K tp H a xs → xs[i]? = some x, fun i H => ∃ xs : List V, SqS K tp H a xs ∧ xs.length = i⟩
theorem turn_enumS {P : Program} {w : World} {K : PySem.W.Frag} {elts : List Expr} {kk : Nat} {tpos : Pos} (tp : Bool) (a e it : Addr) (hei : e ≠ it) (hea : e ≠ a) (hia : a ≠ it) :
    Turn P w K (.Tuple elts kk tpos) (IteS K tp a) [e, it] e (fun i h => (∃ old, IsEnum h e it (0 + (i : Int)) old) ∧ IsSeqIter tp h it a i) := by
  have hef : e ∉ [it, a] := by simp [hei, hea]
  have wtop : ∀ (X : Cx), X.A.handled = none → ∀ its : List Value, WalksT P w X.A e (e :: [it, a]) [e, it] its.toArray.size _ _ _ := fun X hh its =>
    WalksT.enumFrom 0 (draws_seq (P := P) (w := w) (A := X.A.in1) (by simpa using hh) tp it a hia its.toArray) e hei hef (by simp)
  refine turn_gen _ _ _ _ (by simp) (fun i h st b hb => ?_) (fun i h h' st k => ?_) (fun A i s Q E st h => ?_) ?_ ?_
  · obtain ⟨⟨old, he⟩, hi⟩ := st
    have e' : b = e ∨ b = it := by simpa using hb
    rcases e' with z | z
    · rw [z]; exact ⟨_, he, fun v q => nomatch q⟩
    · rw [z]; exact seqIter_obj hi
  · obtain ⟨⟨old, he⟩, hi⟩ := st
    exact ⟨⟨old, k e (by simp) _ he⟩, seqIter_at hi fun o q => k it (by simp) o q⟩
  · obtain ⟨⟨old, he⟩, _⟩ := st
    exact wpAny_pyIter_enum he h
  · intro X hP hw hK hc i pins s σ H I st hg
    obtain ⟨xs, x, hq, hx⟩ := hg
    subst hK
    obtain ⟨its, rv, p⟩ := Inv.seqS I hq
    obtain ⟨u, hu, ru⟩ := rv.get hx
    have hi : i < its.toArray.size := by
      have := (List.getElem?_eq_some_iff.mp hu).1
      simpa using this
    refine ⟨_, _, _, _, _, _, wtop X (I.ok.hd hc) its, hi, ⟨st.1, st.2, p⟩, fun b hb => hb, fun h hs => ⟨hs.1, hs.2.1⟩, fun vals hv => ?_⟩
    obtain ⟨t, y, hy, rfl⟩ := hv
    have hy : its[i]? = some y := by simpa using hy
    rw [hu] at hy
    cases hy
    refine ⟨[.int (i : Nat), x], .cons ⟨t, by rw [Int.zero_add]⟩ (.cons ru .nil), by show 2 ≤ sizeLine; decide, fun T hT => ⟨T, x, rfl, hT, rfl, fun ys hys => by rw [Inv.seq_inj I hys hq]; exact hx⟩⟩
  · intro X hP hw hK hc i pins s σ H I st hg
    obtain ⟨xs, hq, hx⟩ := hg
    subst hK
    obtain ⟨its, rv, p⟩ := Inv.seqS I hq
    have hl : i = its.toArray.size := by rw [← hx, rv.length]; simp
    refine ⟨e :: [it, a], [e, it], _, _, _, hl ▸ wtop X (I.ok.hd hc) its, ⟨st.1, st.2, p⟩, fun b hb => hb⟩
/-! ### zip -/
def It2S (K : PySem.W.Frag) (tp tq : Bool) (a b : Addr) : It :=
  ⟨fun i H => ∃ (xs ys : List V) (x y : V), SqS K tp H a xs ∧ SqS K tq H b ys ∧ xs[i]? = some x ∧ ys[i]? = some y,
    fun i H v H' => ∃ T x y, v = .ref T ∧ H T = none ∧ H' = upd H T (.tup [x, y]) ∧ (∀ xs, SqS K tp H a xs → xs[i]? = some x) ∧ ∀ ys, SqS K tq H b ys → ys[i]? = some y,
    fun i H => ∃ xs ys : List V, SqS K tp H a xs ∧ SqS K tq H b ys ∧ i = min xs.length ys.length⟩
theorem turn_zip2S {P : Program} {w : World} {K : PySem.W.Frag} {elts : List Expr} {kk : Nat} {tpos : Pos} (tp tq : Bool) (a b N : Addr) (ha : a < N) (hb : b < N) :
    Turn P w K (.Tuple elts kk tpos) (It2S K tp tq a b) [N + 4, N + 2, N + 3, N, N + 1] (N + 4) (fun i h => IsZip h (N + 4) (N + 2) (N + 3) .none ∧ IsTupOf2 h (N + 2) (.ref N) (.ref (N + 1)) ∧ (∃ a1 a2, IsTupOf2 h (N + 3) a1 a2) ∧ IsSeqIter tp h N a i ∧ IsSeqIter tq h (N + 1) b i) := by
  have S : ZipSep2 (N + 4) (N + 2) (N + 3) N (N + 1) [N, a] [N + 1, b] := zip_sep2 (N := N) (fp1 := [a]) (fp2 := [b]) (fun z hz => by simp at hz; rw [hz]; exact ha) (fun z hz => by simp at hz; rw [hz]; exact hb)
  have wtop : ∀ (X : Cx), X.A.handled = none → ∀ its its2 : List Value, WalksT P w X.A (N + 4) _ _ (min its.toArray.size its2.toArray.size) _ _ _ := fun X hh its its2 =>
    WalksT.zipD2 S (draws_seq (P := P) (w := w) (A := X.A.in1) (by simpa using hh) tp N a (Nat.ne_of_lt ha) its.toArray) (draws_seq (P := P) (w := w) (A := X.A.in1) (by simpa using hh) tq (N + 1) b (Nat.ne_of_lt (Nat.lt_succ_of_lt hb)) its2.toArray)
  refine turn_gen _ _ _ _ (by simp) (fun i h st c hc => ?_) (fun i h h' st k => ?_) (fun A i s Q E st h => ?_) ?_ ?_
  · obtain ⟨hz, hTI, ⟨x, y, hTO⟩, h1, h2⟩ := st
    have e' : c = N + 4 ∨ c = N + 2 ∨ c = N + 3 ∨ c = N ∨ c = N + 1 := by simpa using hc
    rcases e' with q | q | q | q | q
    · rw [q]; exact ⟨_, hz, fun v q => nomatch q⟩
    · rw [q]; exact ⟨_, hTI, fun v q => nomatch q⟩
    · rw [q]; exact ⟨_, hTO, fun v q => nomatch q⟩
    · rw [q]; exact seqIter_obj h1
    · rw [q]; exact seqIter_obj h2
  · obtain ⟨hz, hTI, ⟨x, y, hTO⟩, h1, h2⟩ := st
    exact ⟨k (N + 4) (by simp) _ hz, k (N + 2) (by simp) _ hTI, ⟨x, y, k (N + 3) (by simp) _ hTO⟩, seqIter_at h1 fun o q => k N (by simp) o q, seqIter_at h2 fun o q => k (N + 1) (by simp) o q⟩
  · exact wpAny_pyIter_zip st.1 h
  · intro X hP hw hK hc i pins s σ H I st hg
    obtain ⟨xs, ys, x, y, hq, hq2, hx, hy⟩ := hg
    subst hK
    obtain ⟨its, rv, p⟩ := Inv.seqS I hq
    obtain ⟨its2, rv2, p2⟩ := Inv.seqS I hq2
    obtain ⟨u, hu, ru⟩ := rv.get hx
    obtain ⟨u2, hu2, ru2⟩ := rv2.get hy
    have hi : i < min its.toArray.size its2.toArray.size := by
      have h1 := (List.getElem?_eq_some_iff.mp hu).1
      have h2 := (List.getElem?_eq_some_iff.mp hu2).1
      simp
      omega
    obtain ⟨hz, hTI, hTO, h1, h2⟩ := st
    refine ⟨_, _, _, _, _, _, wtop X (I.ok.hd hc) its its2, hi, ⟨hz, hTI, hTO, ⟨h1, p⟩, ⟨h2, p2⟩⟩, fun c hcm => ?_, fun h hs => ⟨hs.1, hs.2.1, hs.2.2.1, hs.2.2.2.1.1, hs.2.2.2.2.1⟩, fun vals hv => ?_⟩
    · have e' : c = N + 4 ∨ c = N + 3 ∨ c = N ∨ c = N + 1 := by simpa using hcm
      rcases e' with q | q | q | q <;> simp [q]
    · obtain ⟨z1, z2, y1, y2, rfl⟩ := hv
      have y1 : its[i]? = some z1 := by simpa using y1
      have y2 : its2[i]? = some z2 := by simpa using y2
      rw [hu] at y1
      rw [hu2] at y2
      cases y1
      cases y2
      exact ⟨[x, y], .cons ru (.cons ru2 .nil), by show 2 ≤ sizeLine; decide, fun T hT => ⟨T, x, y, rfl, hT, rfl, fun l hl => by rw [Inv.seq_inj I hl hq]; exact hx, fun l hl => by rw [Inv.seq_inj I hl hq2]; exact hy⟩⟩
  · intro X hP hw hK hc i pins s σ H I st hg
    obtain ⟨xs, ys, hq, hq2, hx⟩ := hg
    subst hK
    obtain ⟨its, rv, p⟩ := Inv.seqS I hq
    obtain ⟨its2, rv2, p2⟩ := Inv.seqS I hq2
    have hl : i = min its.toArray.size its2.toArray.size := by rw [hx, rv.length, rv2.length]; simp
    obtain ⟨hz, hTI, hTO, h1, h2⟩ := st
    refine ⟨_, _, _, _, _, hl ▸ wtop X (I.ok.hd hc) its its2, ⟨hz, hTI, hTO, ⟨h1, p⟩, ⟨h2, p2⟩⟩, fun c hcm => ?_⟩
    have e' : c = N + 4 ∨ c = N + 3 ∨ c = N ∨ c = N + 1 := by simpa using hcm
    rcases e' with q | q | q | q <;> simp [q]
def It3S (K : PySem.W.Frag) (tp tq tr : Bool) (a b d : Addr) : It :=
  ⟨fun i H => ∃ (xs ys zs : List V) (x y z : V), SqS K tp H a xs ∧ SqS K tq H b ys ∧ SqS K tr H d zs ∧ xs[i]? = some x ∧ ys[i]? = some y ∧ zs[i]? = some z,
    fun i H v H' => ∃ T x y z, v = .ref T ∧ H T = none ∧ H' = upd H T (.tup [x, y, z]) ∧ (∀ xs, SqS K tp H a xs → xs[i]? = some x) ∧ (∀ ys, SqS K tq H b ys → ys[i]? = some y) ∧ ∀ zs, SqS K tr H d zs → zs[i]? = some z,
    fun i H => ∃ xs ys zs : List V, SqS K tp H a xs ∧ SqS K tq H b ys ∧ SqS K tr H d zs ∧ i = min (min xs.length ys.length) zs.length⟩
theorem turn_zip3S {P : Program} {w : World} {K : PySem.W.Frag} {elts : List Expr} {kk : Nat} {tpos : Pos} (tp tq tr : Bool) (a b d N : Addr) (ha : a < N) (hb : b < N) (hd : d < N) :
    Turn P w K (.Tuple elts kk tpos) (It3S K tp tq tr a b d) [N + 5, N + 3, N + 4, N, N + 1, N + 2] (N + 5) (fun i h => IsZip h (N + 5) (N + 3) (N + 4) .none ∧ IsTupOf3 h (N + 3) (.ref N) (.ref (N + 1)) (.ref (N + 2)) ∧ (∃ a1 a2 a3, IsTupOf3 h (N + 4) a1 a2 a3) ∧ IsSeqIter tp h N a i ∧ IsSeqIter tq h (N + 1) b i ∧ IsSeqIter tr h (N + 2) d i) := by
  have S : ZipSep3 (N + 5) (N + 3) (N + 4) N (N + 1) (N + 2) [N, a] [N + 1, b] [N + 2, d] := zip_sep3 (N := N) (fp1 := [a]) (fp2 := [b]) (fp3 := [d]) (fun z hz => by simp at hz; rw [hz]; exact ha) (fun z hz => by simp at hz; rw [hz]; exact hb) (fun z hz => by simp at hz; rw [hz]; exact hd)
  have wtop : ∀ (X : Cx), X.A.handled = none → ∀ its its2 its3 : List Value, WalksT P w X.A (N + 5) _ _ (min (min its.toArray.size its2.toArray.size) its3.toArray.size) _ _ _ := fun X hh its its2 its3 =>
    WalksT.zipD3 S (draws_seq (P := P) (w := w) (A := X.A.in1) (by simpa using hh) tp N a (Nat.ne_of_lt ha) its.toArray) (draws_seq (P := P) (w := w) (A := X.A.in1) (by simpa using hh) tq (N + 1) b (Nat.ne_of_lt (Nat.lt_succ_of_lt hb)) its2.toArray)
      (draws_seq (P := P) (w := w) (A := X.A.in1) (by simpa using hh) tr (N + 2) d (Nat.ne_of_lt (Nat.lt_succ_of_lt (Nat.lt_succ_of_lt hd))) its3.toArray)
  refine turn_gen _ _ _ _ (by simp) (fun i h st c hc => ?_) (fun i h h' st k => ?_) (fun A i s Q E st h => ?_) ?_ ?_
  · obtain ⟨hz, hTI, ⟨x, y, z, hTO⟩, h1, h2, h3⟩ := st
    have e' : c = N + 5 ∨ c = N + 3 ∨ c = N + 4 ∨ c = N ∨ c = N + 1 ∨ c = N + 2 := by simpa using hc
    rcases e' with q | q | q | q | q | q
    · rw [q]; exact ⟨_, hz, fun v q => nomatch q⟩
    · rw [q]; exact ⟨_, hTI, fun v q => nomatch q⟩
    · rw [q]; exact ⟨_, hTO, fun v q => nomatch q⟩
    · rw [q]; exact seqIter_obj h1
    · rw [q]; exact seqIter_obj h2
    · rw [q]; exact seqIter_obj h3
  · obtain ⟨hz, hTI, ⟨x, y, z, hTO⟩, h1, h2, h3⟩ := st
    exact ⟨k (N + 5) (by simp) _ hz, k (N + 3) (by simp) _ hTI, ⟨x, y, z, k (N + 4) (by simp) _ hTO⟩, seqIter_at h1 fun o q => k N (by simp) o q, seqIter_at h2 fun o q => k (N + 1) (by simp) o q, seqIter_at h3 fun o q => k (N + 2) (by simp) o q⟩
  · exact wpAny_pyIter_zip st.1 h
  · intro X hP hw hK hc i pins s σ H I st hg
    obtain ⟨xs, ys, zs, x, y, z, hq, hq2, hq3, hx, hy, hzz⟩ := hg
    subst hK
    obtain ⟨its, rv, p⟩ := Inv.seqS I hq
    obtain ⟨its2, rv2, p2⟩ := Inv.seqS I hq2
    obtain ⟨its3, rv3, p3⟩ := Inv.seqS I hq3
    obtain ⟨u, hu, ru⟩ := rv.get hx
    obtain ⟨u2, hu2, ru2⟩ := rv2.get hy
    obtain ⟨u3, hu3, ru3⟩ := rv3.get hzz
    have hi : i < min (min its.toArray.size its2.toArray.size) its3.toArray.size := by
      have h1 := (List.getElem?_eq_some_iff.mp hu).1
      have h2 := (List.getElem?_eq_some_iff.mp hu2).1
      have h3 := (List.getElem?_eq_some_iff.mp hu3).1
      simp
      omega
    obtain ⟨hz, hTI, hTO, h1, h2, h3⟩ := st
    refine ⟨_, _, _, _, _, _, wtop X (I.ok.hd hc) its its2 its3, hi, ⟨hz, hTI, hTO, ⟨h1, p⟩, ⟨h2, p2⟩, ⟨h3, p3⟩⟩, fun c hcm => ?_, fun h hs => ⟨hs.1, hs.2.1, hs.2.2.1, hs.2.2.2.1.1, hs.2.2.2.2.1.1, hs.2.2.2.2.2.1⟩, fun vals hv => ?_⟩
    · have e' : c = N + 5 ∨ c = N + 4 ∨ c = N ∨ c = N + 1 ∨ c = N + 2 := by simpa using hcm
      rcases e' with q | q | q | q | q <;> simp [q]
    · obtain ⟨z1, z2, z3, y1, y2, y3, rfl⟩ := hv
      have y1 : its[i]? = some z1 := by simpa using y1
      have y2 : its2[i]? = some z2 := by simpa using y2
      have y3 : its3[i]? = some z3 := by simpa using y3
      rw [hu] at y1
      rw [hu2] at y2
      rw [hu3] at y3
      cases y1
      cases y2
      cases y3
      exact ⟨[x, y, z], .cons ru (.cons ru2 (.cons ru3 .nil)), by show 3 ≤ sizeLine; decide, fun T hT => ⟨T, x, y, z, rfl, hT, rfl, fun l hl => by rw [Inv.seq_inj I hl hq]; exact hx, fun l hl => by rw [Inv.seq_inj I hl hq2]; exact hy, fun l hl => by rw [Inv.seq_inj I hl hq3]; exact hzz⟩⟩
  · intro X hP hw hK hc i pins s σ H I st hg
    obtain ⟨xs, ys, zs, hq, hq2, hq3, hx⟩ := hg
    subst hK
    obtain ⟨its, rv, p⟩ := Inv.seqS I hq
    obtain ⟨its2, rv2, p2⟩ := Inv.seqS I hq2
    obtain ⟨its3, rv3, p3⟩ := Inv.seqS I hq3
    have hl : i = min (min its.toArray.size its2.toArray.size) its3.toArray.size := by rw [hx, rv.length, rv2.length, rv3.length]; simp
    obtain ⟨hz, hTI, hTO, h1, h2, h3⟩ := st
    refine ⟨_, _, _, _, _, hl ▸ wtop X (I.ok.hd hc) its its2 its3, ⟨hz, hTI, hTO, ⟨h1, p⟩, ⟨h2, p2⟩, ⟨h3, p3⟩⟩, fun c hcm => ?_⟩
    have e' : c = N + 5 ∨ c = N + 4 ∨ c = N ∨ c = N + 1 ∨ c = N + 2 := by simpa using hcm
    rcases e' with q | q | q | q | q <;> simp [q]
section
variable {Z : SrcK} {X : Cx} {E : L2.St → XK} {K : PySem.W.Frag} {a b d e : Expr} {wa wb wc : EW} {pos : Pos} {c : Cfg} {F H : Hp} {σ : L2.St} {ρ : Env}
def iEnumS (K : PySem.W.Frag) (ta : TA) : TI := fun σ H R => ta σ H fun vs H1 => ∃ (tp : Bool) (a : Addr) (xs : List V), vs = [.ref a] ∧ SqS K tp H1 a xs ∧ R (IteS K tp a) H1
theorem pi_enumS {ta : TA} {p tpos : Pos} {elts : List Expr} {kk : Nat} (hg : Gl X "enumerate") (hm : X.mg "enumerate" = none) (ha : PA X [e] ta) (hs : starEach [e] X.env = [(false, eval e X.env)]) :
    PI X (.Tuple elts kk tpos) (.Call (.Name "enumerate" p) [e] [] pos) (iEnumS X.K ta) := by
  refine ⟨fun pins s σ H R I h => ?_⟩
  refine Call_ (ld_blt I hg hm boot_enumerate (PyProof.Rows.callWith_type1 (thn (ha.run pos pins s σ H _ I h) fun us s1 ⟨vs, H1, I1, r1, q1⟩ => ?_) hs rfl))
  obtain ⟨tp, a, xs, rfl, hq, q⟩ := q1
  cases r1 with
  | cons r rr =>
    cases rr
    cases r
    obtain ⟨its, rv, p'⟩ := Inv.seqS I1 hq
    have hal := seq_lt p'
    refine enum_begins1 (begins_seq tp a its.toArray) p' fun h' he hit hsz hk => wpAny_pyIter_enum he ?_
    have I2 : Inv X pins σ H1 { s1 with heap := h' } := I1.kept (t' := s1.toks) hk
    refine ⟨s1.heap.objs.size + 1, [s1.heap.objs.size + 1, s1.heap.objs.size], _, _, H1, rfl, I2, turn_enumS tp a (s1.heap.objs.size + 1) s1.heap.objs.size (Nat.succ_ne_self _) (Nat.ne_of_gt (Nat.lt_succ_of_lt hal)) (Nat.ne_of_lt hal), ⟨⟨.none, he⟩, seq_start hit⟩, fun b hb => ?_, q⟩
    have e' : b = s1.heap.objs.size + 1 ∨ b = s1.heap.objs.size := by simpa using hb
    have hle : s1.heap.objs.size ≤ b := by
      rcases e' with z | z
      · rw [z]; exact Nat.le_add_right _ _
      · rw [z]; exact Nat.le_refl _
    exact I1.fpOk hle (I1.hok.fresh hle)
def iZip2S (K : PySem.W.Frag) (ta : TA) : TI := fun σ H R => ta σ H fun vs H1 => ∃ (tp tq : Bool) (a b : Addr) (xs ys : List V), vs = [.ref a, .ref b] ∧ SqS K tp H1 a xs ∧ SqS K tq H1 b ys ∧ R (It2S K tp tq a b) H1
theorem pi_zip2S {ta : TA} {p tpos : Pos} {elts : List Expr} {kk : Nat} (hg : Gl X "zip") (hm : X.mg "zip" = none) (ha : PA X [a, b] ta)
    (hs : starEach [a, b] X.env = (false, eval a X.env) :: starEach [b] X.env) (hpl : (backTo pos (starEach [b] X.env)).any (·.1) = false) :
    PI X (.Tuple elts kk tpos) (.Call (.Name "zip" p) [a, b] [] pos) (iZip2S X.K ta) := by
  refine ⟨fun pins s σ H R I h => ?_⟩
  refine Call_ (ld_blt I hg hm PyProof.Rows.boot_zip (PyProof.Rows.callWith_type1 (thn (ha.run pos pins s σ H _ I h) fun us s1 ⟨vs, H1, I1, r1, q1⟩ => ?_) hs hpl))
  obtain ⟨tp, tq, a, b, xs, ys, rfl, hq, hq2, q⟩ := q1
  cases r1 with
  | cons r rr =>
    cases rr with
    | cons r' rr =>
      cases rr
      cases r
      cases r'
      obtain ⟨its, rv, p1⟩ := Inv.seqS I1 hq
      obtain ⟨its2, rv2, p2⟩ := Inv.seqS I1 hq2
      refine zip_begins2 (begins_seq tp a its.toArray) (begins_seq tq b its2.toArray) p1 p2 fun h' hz hTI hTO h1 h2 hsz hk => wpAny_pyIter_zip hz ?_
      have I2 : Inv X pins σ H1 { s1 with heap := h' } := I1.kept (t' := s1.toks) hk
      refine ⟨s1.heap.objs.size + 4, [s1.heap.objs.size + 4, s1.heap.objs.size + 2, s1.heap.objs.size + 3, s1.heap.objs.size, s1.heap.objs.size + 1], _, _, H1, rfl, I2, turn_zip2S tp tq a b s1.heap.objs.size (seq_lt p1) (seq_lt p2), ⟨hz, hTI, ⟨_, _, hTO⟩, seq_start h1, seq_start h2⟩, fun c hcm => ?_, q⟩
      have e' : c = s1.heap.objs.size + 4 ∨ c = s1.heap.objs.size + 2 ∨ c = s1.heap.objs.size + 3 ∨ c = s1.heap.objs.size ∨ c = s1.heap.objs.size + 1 := by simpa using hcm
      have hle : s1.heap.objs.size ≤ c := by
        rcases e' with z | z | z | z | z
        · rw [z]; exact Nat.le_add_right _ _
        · rw [z]; exact Nat.le_add_right _ _
        · rw [z]; exact Nat.le_add_right _ _
        · rw [z]; exact Nat.le_refl _
        · rw [z]; exact Nat.le_add_right _ _
      exact I1.fpOk hle (I1.hok.fresh hle)
def iZip3S (K : PySem.W.Frag) (ta : TA) : TI := fun σ H R => ta σ H fun vs H1 => ∃ (tp tq tr : Bool) (a b d : Addr) (xs ys zs : List V), vs = [.ref a, .ref b, .ref d] ∧ SqS K tp H1 a xs ∧ SqS K tq H1 b ys ∧ SqS K tr H1 d zs ∧ R (It3S K tp tq tr a b d) H1
theorem pi_zip3S {ta : TA} {p tpos : Pos} {elts : List Expr} {kk : Nat} (hg : Gl X "zip") (hm : X.mg "zip" = none) (ha : PA X [a, b, d] ta)
    (hs : starEach [a, b, d] X.env = (false, eval a X.env) :: starEach [b, d] X.env) (hpl : (backTo pos (starEach [b, d] X.env)).any (·.1) = false) :
    PI X (.Tuple elts kk tpos) (.Call (.Name "zip" p) [a, b, d] [] pos) (iZip3S X.K ta) := by
  refine ⟨fun pins s σ H R I h => ?_⟩
  refine Call_ (ld_blt I hg hm PyProof.Rows.boot_zip (PyProof.Rows.callWith_type1 (thn (ha.run pos pins s σ H _ I h) fun us s1 ⟨vs, H1, I1, r1, q1⟩ => ?_) hs hpl))
  obtain ⟨tp, tq, tr, a, b, d, xs, ys, zs, rfl, hq, hq2, hq3, q⟩ := q1
  cases r1 with
  | cons r rr =>
    cases rr with
    | cons r' rr =>
      cases rr with
      | cons r'' rr =>
        cases rr
        cases r
        cases r'
        cases r''
        obtain ⟨its, rv, p1⟩ := Inv.seqS I1 hq
        obtain ⟨its2, rv2, p2⟩ := Inv.seqS I1 hq2
        obtain ⟨its3, rv3, p3⟩ := Inv.seqS I1 hq3
        refine zip_begins3 (begins_seq tp a its.toArray) (begins_seq tq b its2.toArray) (begins_seq tr d its3.toArray) p1 p2 p3 fun h' hz hTI hTO h1 h2 h3 hsz hk => wpAny_pyIter_zip hz ?_
        have I2 : Inv X pins σ H1 { s1 with heap := h' } := I1.kept (t' := s1.toks) hk
        refine ⟨s1.heap.objs.size + 5, [s1.heap.objs.size + 5, s1.heap.objs.size + 3, s1.heap.objs.size + 4, s1.heap.objs.size, s1.heap.objs.size + 1, s1.heap.objs.size + 2], _, _, H1, rfl, I2, turn_zip3S tp tq tr a b d s1.heap.objs.size (seq_lt p1) (seq_lt p2) (seq_lt p3), ⟨hz, hTI, ⟨_, _, _, hTO⟩, seq_start h1, seq_start h2, seq_start h3⟩, fun c hcm => ?_, q⟩
        have e' : c = s1.heap.objs.size + 5 ∨ c = s1.heap.objs.size + 3 ∨ c = s1.heap.objs.size + 4 ∨ c = s1.heap.objs.size ∨ c = s1.heap.objs.size + 1 ∨ c = s1.heap.objs.size + 2 := by simpa using hcm
        have hle : s1.heap.objs.size ≤ c := by
          rcases e' with z | z | z | z | z | z
          · rw [z]; exact Nat.le_add_right _ _
          · rw [z]; exact Nat.le_add_right _ _
          · rw [z]; exact Nat.le_add_right _ _
          · rw [z]; exact Nat.le_refl _
          · rw [z]; exact Nat.le_add_right _ _
          · rw [z]; exact Nat.le_add_right _ _
        exact I1.fpOk hle (I1.hok.fresh hle)
end
end DL
set_option linter.all false
set_option autoImplicit false
set_option maxHeartbeats 2000000
set_option maxRecDepth 100000
/-! Constants, + of lists, sorted, enumerate, zip. -/
namespace DL
open PySem PySem.Spec PyProof.Rows L2

/-- a constant of the module -/
structure Gc (K : PySem.W.Frag) (mg : Str → Option Value) (x : Str) (d : D) : Prop where
  ex : ∃ (v : V) (u : Value), (∀ F, Rep K F d v) ∧ mg x = some u ∧ RelV v u
theorem Gc.int {K : PySem.W.Frag} {mg : Str → Option Value} {x : Str} {i : Int} {t : Tok} (h : mg x = some (.int i t)) : Gc K mg x (.int i) := ⟨.int i, _, fun _ => rfl, h, t, rfl⟩
theorem Gc.str {K : PySem.W.Frag} {mg : Str → Option Value} {x : Str} {i : Str} {t : Tok} (h : mg x = some (.str i t)) : Gc K mg x (.str i) := ⟨.str i, _, fun _ => rfl, h, t, rfl⟩
/-- values in the kit's fixed part of the heap -/
theorem Gc.tup {K : PySem.W.Frag} {mg : Str → Option Value} {x : Str} {a : Addr} {ds : List D} {vs : List V} {o : Obj} {its : Array Value} {n : Nat} (h : mg x = some (.ref a)) (hl : K.lookup a = some o) (hc : o.cls = .type "tuple") (hd : o.data = .seq its n) (hz : its.size ≤ sizeLine)
    (hr : ∀ F, RepL K F ds vs) (hv : Vals vs its.toList) : Gc K mg x (.tup ds) := ⟨.ref a, _, fun F => ⟨a, vs, rfl, .inr ⟨o, its, n, hl, hc, hd, hz, hv⟩, hr F⟩, h, rfl⟩

def lCat (a b : EW) : LW := fun X ρ Q => a X ρ fun x => b X ρ fun y => match x, y with
  | .lst xs, .lst ys => xs.length + ys.length ≤ 100000 ∧ Q (xs ++ ys)
  | _, _ => False
def bSorted : List D → (List D → Prop) → Prop
  | [.lst xs], Q => (∀ x ∈ xs, ∃ i j, x = .tup [.int i, .int j]) ∧ ∀ ys, ys.Perm xs → Q ys
  | _, _ => False
def iZip3W (a b d : EW) : IW := fun X ρ Q => a X ρ fun x => b X ρ fun y => d X ρ fun z => match seqD x, seqD y, seqD z with
  | some xs, some ys, some zs => Q (List.zipWith (fun x p => match p with
    | (y, z) => .tup [x, y, z]) xs (ys.zip zs))
  | _, _, _ => False
def iZip2W (a b : EW) : IW := fun X ρ Q => a X ρ fun x => b X ρ fun y => match seqD x, seqD y with
  | some xs, some ys => Q (pairD xs ys)
  | _, _ => False
def iEnum2W (a : EW) : IW := fun X ρ Q => a X ρ fun x => match seqD x with
  | some xs => Q (enumD xs)
  | _ => False

section
variable {Z : SrcK} {X : Cx} {E : L2.St → XK} {K : PySem.W.Frag} {a b e tg : Expr} {wa wb wc : EW} {pos : Pos} {c : Cfg} {F H : Hp} {σ : L2.St} {ρ : Env}
theorem de_gc {x : Str} {d : D} (g : Gc X.K X.mg x d) (hg : Gl X x := by rfl) (hd : (x == ("__debug__" : Str)) = false := by decide) : DE Z X E (.Name x pos) (wC d) := by
  obtain ⟨v, u, r0, hm, r⟩ := g.ex
  exact de_glob r0 hm r hg hd
theorem dl_cat (ha : DE Z X E a wa) (hb : DE Z X E b wb) : DLs Z X E (.BinOp a .Add b pos) (lCat wa wb) := by
  obtain ⟨ta, pa, la⟩ := ha
  obtain ⟨tb, pb, lb⟩ := hb
  refine ⟨_, pe_op op_catR pa pb, fun c F H σ ρ Xd Qd Qv e k h q => ?_⟩
  refine la c F H σ ρ Xd _ _ e k h fun dx vx F1 H1 h1 e1 s1 n1 r1 => ?_
  refine lb c F1 H1 σ ρ Xd _ _ e1 (k.mono s1 n1.nx) h1 fun dy vy F2 H2 h2 e2 s2 n2 r2 => ?_
  cases dx with
  | lst xs =>
    cases dy with
    | lst ys =>
      obtain ⟨p, vs, rfl, z1, z2⟩ := Rep.mono s2 _ _ r1
      obtain ⟨p', ws, rfl, y1, y2⟩ := r2
      refine ⟨p, p', vs, ws, rfl, rfl, same_l e2.fh z1, same_l e2.fh y1, by rw [z2.len, y2.len]; exact sz h2.1, fun m hm => ?_⟩
      exact q _ m _ F2 _ h2.2 (e2.lay hm) (s1.trans s2) ((n1.trans n2).trans (Kx.lay hm)) ((n1.trans n2).free hm) (e2.fh.free hm) upd_same (z2.app y2)
    | non => exact h2.elim
    | bl _ => exact h2.elim
    | int _ => exact h2.elim
    | str _ => exact h2.elim
    | tup _ => exact h2.elim
    | ins _ _ _ => exact h2.elim
  | non => exact h2.elim
  | bl _ => exact h2.elim
  | int _ => exact h2.elim
  | str _ => exact h2.elim
  | tup _ => exact h2.elim
  | ins _ _ _ => exact h2.elim
/-! ### sorted -/
theorem RepL.perm {F : Hp} : ∀ {vs ws : List V}, ws.Perm vs → ∀ {xs : List D}, RepL K F xs vs → ∃ ys, ys.Perm xs ∧ RepL K F ys ws := fun {vs ws} p => by
  induction p with
  | nil =>
    intro xs h
    exact ⟨xs, .refl _, h⟩
  | cons x _ ih =>
    intro xs h
    cases xs with
    | nil => cases (h : _ = [])
    | cons d ds =>
      obtain ⟨v, t, e, r1, r2⟩ := h
      cases e
      obtain ⟨ys, p1, p2⟩ := ih r2
      exact ⟨d :: ys, p1.cons d, _, _, rfl, r1, p2⟩
  | swap x y l =>
    intro xs h
    cases xs with
    | nil => cases (h : _ = [])
    | cons d ds =>
      obtain ⟨v, t, e, r1, r2⟩ := h
      cases e
      cases ds with
      | nil => cases (r2 : _ = [])
      | cons d2 ds =>
        obtain ⟨v2, t2, e, r3, r4⟩ := r2
        cases e
        exact ⟨d2 :: d :: ds, .swap _ _ _, _, _, rfl, r3, _, _, rfl, r1, r4⟩
  | trans _ _ ih1 ih2 =>
    intro xs h
    obtain ⟨ys, p1, p2⟩ := ih2 h
    obtain ⟨zs, p3, p4⟩ := ih1 p2
    exact ⟨zs, p3.trans p1, p4⟩
def rSortD (K : PySem.W.Frag) : List V → Hp → VK → Prop := fun vs H Q => ∃ a xs, vs = [V.ref a] ∧ SqL K H a xs ∧ (∀ x ∈ xs, ∃ t i j, x = V.ref t ∧ SqT K H t [.int i, .int j]) ∧
  ∀ ys p, ys.Perm xs → H p = none → Q (.ref p) (upd H p (.lst ys))
theorem cr_sortD : CallR X (.builtin "sorted") (rSortD X.K) := by
  intro pins s σ H vs us Q I r h
  obtain ⟨a, xs, rfl, hs, hx, q⟩ := h
  obtain ⟨its, rv, hl, hz⟩ := I.list hs
  obtain ⟨u, rfl, ru⟩ := vals1 r
  obtain rfl : u = Value.ref a := ru
  obtain ⟨e1, e2⟩ := refs_back rv fun x m => by
    obtain ⟨t, _, _, e, _⟩ := hx x m
    exact ⟨t, e⟩
  refine Srt.sorted_pairs hl.isList (by rw [← rv.length]; exact hz) (fun v hv => ?_) fun h' d out hp k hd hn => ?_
  · obtain ⟨t, rfl⟩ := e2 v hv
    have hm : V.ref t ∈ xs := by rw [e1]; exact List.mem_map.mpr ⟨_, hv, rfl⟩
    obtain ⟨t', i, j, e, ht⟩ := hx _ hm
    cases e
    obtain ⟨its2, r2, ⟨o, ho, hc, n, hd⟩, _⟩ := I.tuple ht
    obtain ⟨u1, u2, rfl, ri, rj⟩ := vals2 r2
    obtain ⟨t1, rfl⟩ := ri
    obtain ⟨t2, rfl⟩ := rj
    exact ⟨i, j, t, o, t1, t2, n, rfl, ho, hc, hd⟩
  · have h3 : ∀ u ∈ out, ∃ a, u = Value.ref a := fun u hu => e2 u (hp.mem_iff.mp hu)
    obtain ⟨n, hn⟩ := hn
    refine ⟨.ref d, upd H d (.lst (out.map backV)), I.laid (t' := s.toks) k hd ⟨?_, out, n, vals_back h3, hn⟩, rfl, q _ d ?_ (I.hok.fresh hd)⟩
    · rw [List.length_map, hp.length_eq, ← rv.length]; exact hz
    · rw [e1]; exact hp.map backV
theorem RepL.mem {F : Hp} : ∀ {xs : List D} {vs : List V} {v : V}, RepL K F xs vs → v ∈ vs → ∃ d ∈ xs, Rep K F d v
  | [], vs, v, h, m => by
    have h : vs = [] := h
    rw [h] at m
    cases m
  | x :: xs, vs, v, h, m => by
    obtain ⟨u, r, rfl, h1, h2⟩ := h
    rcases List.mem_cons.mp m with z | z
    · subst z
      exact ⟨x, List.mem_cons_self, h1⟩
    · obtain ⟨d, m1, m2⟩ := RepL.mem h2 z
      exact ⟨d, List.mem_cons_of_mem _ m1, m2⟩
theorem lcl_sorted : LCL K (rSortD K) bSorted := fun F H ds vs Qd Qv s r z q => by
  unfold bSorted at z
  split at z
  · rename_i xs
    obtain ⟨v, rfl, a, ws, rfl, h2, h3⟩ := repL_1 r
    refine ⟨a, ws, rfl, same_l s h2, fun x hx => ?_, fun ys p hp hn => ?_⟩
    · obtain ⟨d, m1, m2⟩ := h3.mem hx
      obtain ⟨i, j, rfl⟩ := z.1 d m1
      obtain ⟨t, vs, e1, e2, e3⟩ := m2
      obtain ⟨v1, v2, rfl, r1, r2⟩ := repL_2 e3
      have r1 : v1 = .int i := r1
      have r2 : v2 = .int j := r2
      subst r1 r2
      exact ⟨t, i, j, e1, same_t s e2⟩
    · obtain ⟨zs, p1, p2⟩ := h3.perm hp
      exact q zs p ys (z.2 zs p1) hn p2
  · exact z.elim
variable {es : List Expr} {ws : AW}
theorem dl_cb {id : String} {x : Str} {p : Pos} {r : List V → Hp → VK → Prop} {o : List D → (List D → Prop) → Prop} (hc : CallR X (.builtin id) r) (ho : LCL X.K r o) (hm : X.mg x = none) (hv : bootBuiltins x = some (.builtin id)) (ha : DA Z X E (e :: es) ws) (hg : Gl X x := by rfl)
    (hn : x ≠ "__name__" := by decide) (hdb : (x == ("__debug__" : Str)) = false := by decide)
    (he : starEach (e :: es) X.env = (false, eval e X.env) :: starEach es X.env := by rfl) (hpl : (backTo pos (starEach es X.env)).any (·.1) = false := by rfl) : DLs Z X E (.Call (.Name x p) (e :: es) [] pos) (lCB o ws) := by
  obtain ⟨t, pa, la⟩ := ha
  exact ⟨_, pe_callB hc hg hm hv pa hn hdb he hpl, ll_cb ho la⟩
/-! ### enumerate, zip -/
theorem seq_rep {d : D} {xs : List D} {v : V} (h : seqD d = some xs) (r : Rep K F d v) : ∃ tp a vs, v = .ref a ∧ SqS K tp F a vs ∧ RepL K F xs vs := by
  cases d with
  | tup ys =>
    cases h
    obtain ⟨a, vs, e, h1, h2⟩ := r
    exact ⟨true, a, vs, e, h1, h2⟩
  | lst ys =>
    cases h
    obtain ⟨a, vs, e, h1, h2⟩ := r
    exact ⟨false, a, vs, e, h1, h2⟩
  | non => cases h
  | bl _ => cases h
  | int _ => cases h
  | str _ => cases h
  | ins _ _ _ => cases h
theorem sqs_inj {tp : Bool} {a : Addr} {xs ys : List V} (e : Same F H) (h : SqS K tp F a xs) : ∀ zs, (∀ ys, SqS K tp H a ys → zs = ys) → zs = xs := fun zs q => q xs (sqs_same e h)
theorem pairD_get {xs ys : List D} {i : Nat} {d : D} (h : (pairD xs ys)[i]? = some d) : ∃ x y, d = .tup [x, y] ∧ xs[i]? = some x ∧ ys[i]? = some y := by
  unfold pairD at h
  rw [List.getElem?_zipWith] at h
  cases q1 : xs[i]? with
  | none => rw [q1] at h; cases h
  | some x =>
    cases q2 : ys[i]? with
    | none => rw [q1, q2] at h; cases h
    | some y =>
      rw [q1, q2] at h
      cases h
      exact ⟨x, y, rfl, rfl, rfl⟩
theorem items_pair {J : It} {xs ys : List D} {G : Hp → Prop} {f g : Nat → Option V} (w : Walk J (pairD xs ys).length G (YPair f g)) (hG : ∀ H, Same F H → G H)
    (hf : ∀ i x v, xs[i]? = some x → f i = some v → ∀ F1, Same F F1 → Rep K F1 x v) (hg : ∀ i y v, ys[i]? = some y → g i = some v → ∀ F1, Same F F1 → Rep K F1 y v) : ItemsOk K F J (pairD xs ys) := by
  refine ⟨G, _, w, hG, fun i d H1 v H2 F1 hd y s1 s2 => ?_⟩
  obtain ⟨T, x1, x2, rfl, hT, rfl, h1, h2⟩ := y
  obtain ⟨x, y, rfl, g1, g2⟩ := pairD_get hd
  obtain ⟨k, r⟩ := lay_tup (K := K) s2 (xs := [x, y]) (vs := [x1, x2]) ⟨x1, [x2], rfl, hf i x x1 g1 h1 F1 s1, x2, [], rfl, hg i y x2 g2 h2 F1 s1, rfl⟩ hT
  exact ⟨_, k, r⟩
theorem pairD_len {xs ys : List D} : (pairD xs ys).length = min xs.length ys.length := by simp [pairD]
theorem walk_enumS {tp : Bool} {a : Addr} {xs : List V} : Walk (IteS K tp a) xs.length (fun H => SqS K tp H a xs) (YPair (fun i => some (.int (i : Nat))) (fun i => xs[i]?)) := by
  refine ⟨fun i _ hi q => ⟨xs, xs[i], q, by simp [hi]⟩, fun _ q => ⟨xs, q, rfl⟩, fun i H v H' _ q y => ?_⟩
  obtain ⟨T, x, h1, h2, h3, h4⟩ := y
  exact ⟨T, .int (i : Nat), x, h1, h2, h3, rfl, h4 xs q⟩
theorem walk_zip2S {tp tq : Bool} {a b : Addr} {xs ys : List V} {n : Nat} (hn : n = min xs.length ys.length) : Walk (It2S K tp tq a b) n (fun H => SqS K tp H a xs ∧ SqS K tq H b ys) (YPair (fun i => xs[i]?) (fun i => ys[i]?)) := by
  subst hn
  refine ⟨fun i _ hi q => ?_, fun _ q => ⟨xs, ys, q.1, q.2, rfl⟩, fun i H v H' _ q y => ?_⟩
  · have h1 : i < xs.length := by omega
    have h2 : i < ys.length := by omega
    exact ⟨xs, ys, xs[i], ys[i], q.1, q.2, by simp [h1], by simp [h2]⟩
  · obtain ⟨T, x, z, h1, h2, h3, h4, h5⟩ := y
    exact ⟨T, x, z, h1, h2, h3, h4 xs q.1, h5 ys q.2⟩
theorem rep_at {xs : List D} {vs : List V} {i : Nat} {x : D} {v : V} (r : RepL K F xs vs) (h : xs[i]? = some x) (k : vs[i]? = some v) {F1 : Hp} (s : Same F F1) : Rep K F1 x v := by
  obtain ⟨u, h1, h2⟩ := r.get h
  rw [h1] at k
  cases k
  exact Rep.mono s _ _ h2
theorem di_enum {p tpos : Pos} {elts : List Expr} {kk : Nat} (hm : X.mg "enumerate" = none) (ha : DE Z X E e wa) (hg : Gl X "enumerate" := by rfl) (hs : starEach [e] X.env = [(false, eval e X.env)] := by rfl) :
    DI Z X E (.Tuple elts kk tpos) (.Call (.Name "enumerate" p) [e] [] pos) (iEnum2W wa) := by
  obtain ⟨t, pa, l⟩ := ha
  refine ⟨_, pi_enumS hg hm (pa_cons pa pa_nil hs) hs, fun c F H σ ρ Xd Qd R e k h q => ?_⟩
  refine l c F H σ ρ Xd _ _ e k h fun d v F1 H1 h1 e1 s1 n1 r1 => ?_
  cases z : seqD d with
  | none => rw [z] at h1; exact h1.elim
  | some xs =>
    rw [z] at h1
    obtain ⟨tp, a, vs, rfl, g1, g2⟩ := seq_rep z r1
    refine ⟨tp, a, vs, rfl, sqs_same e1.fh g1, q _ _ F1 H1 h1 e1 s1 n1 ?_⟩
    refine items_pair (G := fun H => SqS X.K tp H a vs) (f := fun i => some (.int (i : Nat))) (g := fun i => vs[i]?) ?_ (fun H s => sqs_same s g1) (fun i x v hx hv F1 s => ?_) (fun i y v hy hv F1 s => rep_at g2 hy hv s)
    · have el : (pairD (rangeD 0 xs.length) xs).length = vs.length := by rw [pairD_len, rangeD_len, g2.len]; omega
      rw [el]
      exact walk_enumS
    · cases hv
      rw [(rangeD_get hx).1]
      show V.int _ = V.int _
      rw [Int.zero_add]
theorem di_zip {p tpos : Pos} {elts : List Expr} {kk : Nat} (hm : X.mg "zip" = none) (ha : DE Z X E a wa) (hb : DE Z X E b wb) (hg : Gl X "zip" := by rfl) (hs : starEach [a, b] X.env = (false, eval a X.env) :: starEach [b] X.env := by rfl) (hs2 : starEach [b] X.env = (false, eval b X.env) :: starEach [] X.env := by rfl) (hpl : (backTo pos (starEach [b] X.env)).any (·.1) = false := by rfl) :
    DI Z X E (.Tuple elts kk tpos) (.Call (.Name "zip" p) [a, b] [] pos) (iZip2W wa wb) := by
  obtain ⟨t, pa, l⟩ := ha
  obtain ⟨t2, pb, l2⟩ := hb
  refine ⟨_, pi_zip2S hg hm (pa_cons pa (pa_cons pb pa_nil hs2) hs) hs hpl, fun c F H σ ρ Xd Qd R e k h q => ?_⟩
  refine l c F H σ ρ Xd _ _ e k h fun d v F1 H1 h1 e1 s1 n1 r1 => ?_
  refine l2 c F1 H1 σ ρ Xd _ _ e1 (k.mono s1 n1.nx) h1 fun d2 v2 F2 H2 h2 e2 s2 n2 r2 => ?_
  cases z : seqD d with
  | none => rw [z] at h2; exact h2.elim
  | some xs =>
    cases z2 : seqD d2 with
    | none => rw [z, z2] at h2; exact h2.elim
    | some ys =>
      rw [z, z2] at h2
      obtain ⟨tp, a, vs, rfl, g1, g2⟩ := seq_rep z (Rep.mono s2 _ _ r1)
      obtain ⟨tq, b, us, rfl, g3, g4⟩ := seq_rep z2 r2
      refine ⟨tp, tq, a, b, vs, us, rfl, sqs_same e2.fh g1, sqs_same e2.fh g3, q _ _ F2 H2 h2 e2 (s1.trans s2) (n1.trans n2) ?_⟩
      exact items_pair (walk_zip2S (by rw [pairD_len, g2.len, g4.len])) (fun H s => ⟨sqs_same s g1, sqs_same s g3⟩) (fun i x v hx hv F1 s => rep_at g2 hx hv s) (fun i y v hy hv F1 s => rep_at g4 hy hv s)
theorem walk_zip3S {tp tq tr : Bool} {a b d : Addr} {xs ys zs : List V} {n : Nat} (hn : n = min (min xs.length ys.length) zs.length) : Walk (It3S K tp tq tr a b d) n (fun H => SqS K tp H a xs ∧ SqS K tq H b ys ∧ SqS K tr H d zs)
    (fun i H v H' => ∃ T x y z, v = .ref T ∧ H T = none ∧ H' = upd H T (.tup [x, y, z]) ∧ xs[i]? = some x ∧ ys[i]? = some y ∧ zs[i]? = some z) := by
  subst hn
  refine ⟨fun i _ hi q => ?_, fun _ q => ⟨xs, ys, zs, q.1, q.2.1, q.2.2, rfl⟩, fun i H v H' _ q y => ?_⟩
  · have h1 : i < xs.length := by omega
    have h2 : i < ys.length := by omega
    have h3 : i < zs.length := by omega
    exact ⟨xs, ys, zs, xs[i], ys[i], zs[i], q.1, q.2.1, q.2.2, by simp [h1], by simp [h2], by simp [h3]⟩
  · obtain ⟨T, x, z, u, h1, h2, h3, h4, h5, h6⟩ := y
    exact ⟨T, x, z, u, h1, h2, h3, h4 xs q.1, h5 ys q.2.1, h6 zs q.2.2⟩
theorem di_zip3 {d : Expr} {wd : EW} {p tpos : Pos} {elts : List Expr} {kk : Nat} (hm : X.mg "zip" = none) (ha : DE Z X E a wa) (hb : DE Z X E b wb) (hd : DE Z X E d wd) (hg : Gl X "zip" := by rfl) (hs : starEach [a, b, d] X.env = (false, eval a X.env) :: starEach [b, d] X.env := by rfl) (hs2 : starEach [b, d] X.env = (false, eval b X.env) :: starEach [d] X.env := by rfl) (hs3 : starEach [d] X.env = (false, eval d X.env) :: starEach [] X.env := by rfl) (hpl : (backTo pos (starEach [b, d] X.env)).any (·.1) = false := by rfl) :
    DI Z X E (.Tuple elts kk tpos) (.Call (.Name "zip" p) [a, b, d] [] pos) (iZip3W wa wb wd) := by
  obtain ⟨t, pa, l⟩ := ha
  obtain ⟨t2, pb, l2⟩ := hb
  obtain ⟨t3, pd, l3⟩ := hd
  refine ⟨_, pi_zip3S hg hm (pa_cons pa (pa_cons pb (pa_cons pd pa_nil hs3) hs2) hs) hs hpl, fun c F H σ ρ Xd Qd R e k h q => ?_⟩
  refine l c F H σ ρ Xd _ _ e k h fun d v F1 H1 h1 e1 s1 n1 r1 => ?_
  refine l2 c F1 H1 σ ρ Xd _ _ e1 (k.mono s1 n1.nx) h1 fun d2 v2 F2 H2 h2 e2 s2 n2 r2 => ?_
  refine l3 c F2 H2 σ ρ Xd _ _ e2 (k.mono (s1.trans s2) (n1.nx.trans n2.nx)) h2 fun d3 v3 F3 H3 h3 e3 s3 n3 r3 => ?_
  cases z : seqD d with
  | none => rw [z] at h3; exact h3.elim
  | some xs =>
    cases z2 : seqD d2 with
    | none => rw [z, z2] at h3; exact h3.elim
    | some ys =>
      cases z3 : seqD d3 with
      | none => rw [z, z2, z3] at h3; exact h3.elim
      | some zs =>
        rw [z, z2, z3] at h3
        obtain ⟨tp, a, vs, rfl, g1, g2⟩ := seq_rep z (Rep.mono (s2.trans s3) _ _ r1)
        obtain ⟨tq, b, us, rfl, g3, g4⟩ := seq_rep z2 (Rep.mono s3 _ _ r2)
        obtain ⟨tr, b3, us3, rfl, g5, g6⟩ := seq_rep z3 r3
        refine ⟨tp, tq, tr, a, b, b3, vs, us, us3, rfl, sqs_same e3.fh g1, sqs_same e3.fh g3, sqs_same e3.fh g5, q _ _ F3 H3 h3 e3 ((s1.trans s2).trans s3) ((n1.trans n2).trans n3) ?_⟩
        refine ⟨_, _, walk_zip3S (xs := vs) (ys := us) (zs := us3) ?_, fun H s => ⟨sqs_same s g1, sqs_same s g3, sqs_same s g5⟩, fun i dd H1 v H2 F1 hd y s1 s2 => ?_⟩
        · simp only [List.length_zipWith, List.length_zip, g2.len, g4.len, g6.len]
          omega
        · obtain ⟨T, x1, x2, x3, rfl, hT, rfl, h1, h2, h3⟩ := y
          have key : ∀ x y u, xs[i]? = some x → ys[i]? = some y → zs[i]? = some u → D.tup [x, y, u] = dd := fun x y u q1 q2 q3 => by
            have qz : (ys.zip zs)[i]? = some (y, u) := List.getElem?_zip_eq_some.mpr ⟨q2, q3⟩
            rw [List.getElem?_zipWith, q1, qz] at hd
            exact Option.some.inj hd
          have hlen : i < xs.length ∧ i < ys.length ∧ i < zs.length := by
            have h := (List.getElem?_eq_some_iff.mp hd).1
            simp only [List.length_zipWith, List.length_zip] at h
            omega
          have q1 := List.getElem?_eq_getElem hlen.1
          have q2 := List.getElem?_eq_getElem hlen.2.1
          have q3 := List.getElem?_eq_getElem hlen.2.2
          have e := key _ _ _ q1 q2 q3
          subst e
          obtain ⟨k, r⟩ := lay_tup (K := X.K) s2 (xs := [xs[i], ys[i], zs[i]]) (vs := [x1, x2, x3]) ⟨x1, _, rfl, rep_at g2 q1 h1 s1, x2, _, rfl, rep_at g4 q2 h2 s1, x3, [], rfl, rep_at g6 q3 h3 s1, rfl⟩ hT
          exact ⟨_, k, r⟩
end
end DL
set_option linter.all false
set_option autoImplicit false
set_option maxHeartbeats 2000000
set_option maxRecDepth 100000
/-! A source of numbers: a list of a list of ints and two ints. -/
namespace DL
open PySem PySem.Spec PyProof.Rows L2
def AtA (H : Hp) (a g : Addr) (ns : List Int) (m t : Int) : Prop := a ≠ g ∧ H a = some (.lst [.ref g, .int m, .int t]) ∧ H g = some (.lst (ns.map V.int))
def PA0 (a : Addr) (fp : List Addr) (H : Hp) : Prop := ∃ g ns m t, fp = [a, g] ∧ AtA H a g ns m t
def SrcA : SrcK where
  P := PA0
  loc := fun {a fp H H'} h k => by
    obtain ⟨g, ns, m, t, rfl, h1, h2, h3⟩ := h
    exact ⟨g, ns, m, t, rfl, h1, by rw [k a (by simp)]; exact h2, by rw [k g (by simp)]; exact h3⟩
  tr := fun {a fp H} h => by
    obtain ⟨g, ns, m, t, rfl, h1, h2, h3⟩ := h
    refine ⟨by simp, fun b hb => ?_⟩
    have e : b = a ∨ b = g := by simpa using hb
    rcases e with e | e
    · rw [e, h2]; simp
    · rw [e, h3]; simp
/-- a draw -/
def spec_draw : Spec := fun ss Q _ => ∃ many : Int, ss = [.src, .d (.int many)] ∧ 0 < many ∧ many.natAbs.log2 < 9000 ∧ ∀ r : Int, 0 ≤ r → r < many → Q (.d (.int r))
theorem len_draw : ∀ ss Q Xe, spec_draw ss Q Xe → ss.length = 2 := fun ss Q Xe h => by
  obtain ⟨m, e, _⟩ := h
  rw [e] <;> rfl
/-- a new source, of a list of ints -/
def spNew (Z : SrcK) (K : PySem.W.Frag) : Sp := fun vs H Q _ => ∃ (a : Addr) (F : Hp) (ns : List Int), vs = [.ref a] ∧ Same F H ∧ Rep K F (.lst (ns.map D.int)) (.ref a) ∧ ns.length ≤ 63 ∧
  ∀ (F' H' : Hp) (p : Addr) (fp : List Addr), Same F F' → Same F' H' → (∀ b o, H b = some o → H' b = some o) → Z.P p fp H' → (∀ b ∈ fp, F' b = none ∧ H b = none) → Q (.ref p) H'
/-- what the source holds may change, and what was not there may come -/
structure Drawn (H H' : Hp) (a g : Addr) : Prop where
  keep : ∀ b o, H b = some o → b ≠ a → b ≠ g → H' b = some o
theorem Drawn.after {src : Option (Addr × List Addr)} {a g : Addr} {F H H' : Hp} {ns : List Int} {m t : Int} (h : src = some (a, [a, g])) (s : Same F H) (fa : ∀ b ∈ [a, g], F b = none) (d : Drawn H H' a g) (p : AtA H' a g ns m t) : After SrcA src (fpOf src) F H F H' := by
  subst h
  have na : ∀ b o, F b = some o → b ≠ a := fun b o e z => by rw [z, fa a (by simp)] at e; cases e
  have ng : ∀ b o, F b = some o → b ≠ g := fun b o e z => by rw [z, fa g (by simp)] at e; cases e
  refine ⟨Same.refl _, fun b o e => d.keep b o (s b o e) (na b o e) (ng b o e), fun b e => .inl e, fun b o e n => ?_, fun b e => ?_, fun a' fp' e => ?_⟩
  · have n : b ∉ [a, g] := n
    exact d.keep b o e (fun z => n (by simp [z])) (fun z => n (by simp [z]))
  · by_cases h1 : b = a
    · rw [h1, p.2.1]; simp
    · by_cases h2 : b = g
      · rw [h2, p.2.2]; simp
      · obtain ⟨o, e⟩ := ne_some e
        rw [d.keep b o e h1 h2]; simp
  · cases e
    exact ⟨⟨g, ns, m, t, rfl, p⟩, fa⟩
/-- a walk whose last part is told by the hand layer -/
def DSx (Z : SrcK) (X : Cx) (E : L2.St → XK) (sts : List Stmt) (w : SW) (t3 : TS) : Prop := ∃ t, PSs X sts t ∧ ∀ (c : Cfg) (F H : Hp) (σ : L2.St) (ρ : Env) (Xd : XD) (DD : DEnds) (D : Ends), EnvOk Z X.K c F H σ ρ → ELk Z X.K c F H E Xd → w Xd DD ρ → EndsOk Z X.K c F H DD { D with nx := t3 D } → t D σ H
theorem dsx_last {Z : SrcK} {X : Cx} {E : L2.St → XK} {st : Stmt} {rest : List Stmt} {w : SW} {t3 : TS} (h : DS Z X E st w) (p : PSs X rest t3) : DSx Z X E (st :: rest) w t3 := by
  obtain ⟨t, p0, l⟩ := h
  exact ⟨_, pss_cons p0 p, fun c F H σ ρ Xd DD D e k hw q => l c F H σ ρ Xd DD _ e k hw q⟩
theorem dsx_cons {Z : SrcK} {X : Cx} {E : L2.St → XK} {st : Stmt} {rest : List Stmt} {w v : SW} {t3 : TS} (h : DS Z X E st w) (r : DSx Z X E rest v t3) : DSx Z X E (st :: rest) (sSeq w v) t3 := by
  obtain ⟨t, p0, l⟩ := h
  obtain ⟨u, p1, l1⟩ := r
  refine ⟨_, pss_cons p0 p1, fun c F H σ ρ Xd DD D e k hw q => l c F H σ ρ Xd { DD with nx := v Xd DD } _ e k hw ⟨fun σ' ρ' F' H' x e' s' n' => ?_, q.rt, q.bk, q.ct⟩⟩
  exact l1 c F' H' σ' ρ' Xd DD D e' (k.mono s' n') x (q.mono s' n')
theorem AtA.fresh {H : Hp} {a g p : Addr} {ns : List Int} {m t : Int} {o : HO} (h : AtA H a g ns m t) (n : H p = none) : AtA (upd H p o) a g ns m t := by
  obtain ⟨h1, h2, h3⟩ := h
  exact ⟨h1, by rw [upd_ne (ne_of_none h2 n)]; exact h2, by rw [upd_ne (ne_of_none h3 n)]; exact h3⟩
theorem Drawn.fresh {H H' : Hp} {a g p : Addr} {o : HO} (d : Drawn H H' a g) (n : H' p = none) : Drawn H (upd H' p o) a g := ⟨fun b u e h1 h2 => by
  have := d.keep b u e h1 h2
  rw [upd_ne (ne_of_none this n)]
  exact this⟩
theorem AtA.setG {H : Hp} {a g : Addr} {ns : List Int} {m t : Int} (h : AtA H a g ns m t) (ns' : List Int) : AtA (upd H g (.lst (ns'.map V.int))) a g ns' m t := by
  obtain ⟨h1, h2, h3⟩ := h
  exact ⟨h1, by rw [upd_ne h1]; exact h2, upd_same⟩
theorem AtA.setA {H : Hp} {a g : Addr} {ns : List Int} {m t : Int} (h : AtA H a g ns m t) (m' t' : Int) : AtA (upd H a (.lst [.ref g, .int m', .int t'])) a g ns m' t' := by
  obtain ⟨h1, h2, h3⟩ := h
  exact ⟨h1, upd_same, by rw [upd_ne (Ne.symm h1)]; exact h3⟩
theorem Drawn.setG {H H' : Hp} {a g : Addr} {o : HO} (d : Drawn H H' a g) : Drawn H (upd H' g o) a g := ⟨fun b u e h1 h2 => by
  rw [upd_ne h2]
  exact d.keep b u e h1 h2⟩
theorem Drawn.setA {H H' : Hp} {a g : Addr} {o : HO} (d : Drawn H H' a g) : Drawn H (upd H' a o) a g := ⟨fun b u e h1 h2 => by
  rw [upd_ne h1]
  exact d.keep b u e h1 h2⟩
theorem AtA.list {K : PySem.W.Frag} {H : Hp} {a g : Addr} {ns : List Int} {m t : Int} (h : AtA H a g ns m t) : SqL K H a [.ref g, .int m, .int t] := SqL.of h.2.1
theorem AtA.glist {K : PySem.W.Frag} {H : Hp} {a g : Addr} {ns : List Int} {m t : Int} (h : AtA H a g ns m t) : SqL K H g (ns.map V.int) := SqL.of h.2.2
theorem dpInts {K : PySem.W.Frag} {H : Hp} : ∀ ns : List Int, DpAll K H (ns.map V.int) (ns.map PyData.int)
  | [] => .nil
  | n :: ns => .cons (.int n) (dpInts ns)
theorem shapedInts (ns : List Int) : SeqAt.shaped (.list (ns.map PyData.int)) = true := by
  have h : ∀ ns : List Int, plainL 39 (ns.map D.int) = true ∧ toPyL (ns.map D.int) = ns.map PyData.int := fun ns => by
    induction ns with
    | nil => exact ⟨by simp [plainL], by simp [toPyL]⟩
    | cons n ns ih =>
      refine ⟨?_, ?_⟩
      · rw [List.map_cons, plainL, Bool.and_eq_true]
        exact ⟨rfl, ih.1⟩
      · rw [List.map_cons, toPyL, ih.2]
        rfl
  have p : plain 40 (.lst (ns.map D.int)) = true := by
    rw [plain]
    exact (h ns).1
  have s := plain_shaped p
  rw [toPy, (h ns).2] at s
  exact s
theorem ne_nil (ns : List Int) : PyData.eqv (.list (ns.map PyData.int)) (.list []) = decide (ns = []) := by
  cases ns <;> simp [PyData.eqv, PyData.eqvAll]
/-- `great != []` -/
theorem rNe_nil {K : PySem.W.Frag} {H : Hp} {g p : Addr} {ns : List Int} {Q : VK} (h : SqL K H g (ns.map V.int)) (hp : H p = some (.lst [])) (q : Q (.bl (!decide (ns = []))) H) : rNeD K (.ref g) (.ref p) H Q := by
  refine ⟨.list (ns.map PyData.int), .list [], .lst h (dpInts ns), .lst (SqL.of hp) .nil, shapedInts ns, shapedInts [], ?_⟩
  rw [ne_nil]
  exact q
theorem cond_N {K : PySem.W.Frag} {H0 H : Hp} {a g : Addr} {ns : List Int} {m t : Int} {σ : L2.St} {i : Nat} (hσ : σ[i]? = some (some (.ref g))) (dr : Drawn H0 H a g) (at0 : AtA H a g ns m t) {Q : Bool → Hp → Prop}
    (q : ∀ H1, Drawn H0 H1 a g → AtA H1 a g ns m t → Q (!decide (ns = [])) H1) : tTest (tOp (rNeD K) (tVar i) (tLst tNil)) σ H Q := by
  refine ⟨.ref g, hσ, Nat.zero_le _, fun p hp => ?_⟩
  have at2 := at0.fresh (o := .lst []) hp
  exact rNe_nil at2.glist upd_same ⟨_, rfl, q _ (dr.fresh hp) at2⟩
theorem cond_A {K : PySem.W.Frag} {H0 H : Hp} {a g : Addr} {ns : List Int} {m t : Int} {σ : L2.St} {i : Nat} (hσ : σ[i]? = some (some (.ref g))) (dr : Drawn H0 H a g) (at0 : AtA H a g ns m t) {Q : Bool → Hp → Prop}
    (q : ∀ b H1, (b = true → ∃ r, ns = 0 :: r) → Drawn H0 H1 a g → AtA H1 a g ns m t → Q b H1) : tAnd (tTest (tOp (rNeD K) (tVar i) (tLst tNil))) (tTest (tOp rEq (tOp (rIxL K) (tVar i) (tC (.int 0))) (tC (.int 0)))) σ H Q := by
  refine cond_N hσ dr at0 fun H1 d1 a1 => ?_
  cases ns with
  | nil =>
    refine ite2 (fun z => ?_) fun _ => q false H1 (fun z => nomatch z) d1 a1
    simp at z
  | cons n r =>
    refine ite2 (fun _ => ?_) fun z => absurd (by simp) z
    refine ⟨.ref g, hσ, g, _, 0, .int n, rfl, rfl, a1.glist, atI_nat (j := 0) rfl, rfl, _, rfl, ?_⟩
    refine q _ H1 (fun z => ?_) d1 a1
    have z : V.int n = V.int 0 := of_decide_eq_true z
    cases z
    exact ⟨r, rfl⟩
end DL
set_option linter.all false
set_option autoImplicit false
set_option maxHeartbeats 2000000
/-! Rules for what texts ask of data; fractions. -/
namespace DL
open PySem L2
/-! ### loops -/
/-- by what is left, and slots -/
theorem forGo_inv {g : GW} {b : SW} {X : XD} {DD : DEnds} (I : List D → Env → Prop) (step : ∀ x r ρ, I (x :: r) ρ → ∀ N : Env → Prop, (∀ ρ', I r ρ' → N ρ') → g x ρ fun ρ' => b X { DD with nx := N, ct := N, bk := DD.nx } ρ')
    (last : ∀ ρ, I [] ρ → DD.nx ρ) : ∀ xs ρ, I xs ρ → forGo g b X DD xs ρ
  | [], ρ, h => last ρ h
  | x :: r, ρ, h => step x r ρ h _ fun ρ' h' => forGo_inv I step last r ρ' h'
inductive All2 (R : D → D → Prop) : List D → List D → Prop
  | nil : All2 R [] []
  | cons {x y : D} {xs ys : List D} : R x y → All2 R xs ys → All2 R (x :: xs) (y :: ys)
/-- [f(x) for x in xs] -/
theorem compGo_map {g : GW} {a : EW} {ρ : Env} {Q : List D → Prop} (R : D → D → Prop) : ∀ (xs acc : List D), (∀ x ∈ xs, ∀ Q' : D → Prop, (∀ y, R x y → Q' y) → g x ρ fun ρ' => a X0 ρ' Q') → acc.length + xs.length ≤ 100000 →
    (∀ ys, All2 R xs ys → Q (acc ++ ys)) → compGo g tYesW a ρ Q xs acc
  | [], acc, _, _, q => by
    have := q [] .nil
    rw [List.append_nil] at this
    exact this
  | x :: r, acc, h, hl, q => by
    rw [List.length_cons] at hl
    have key : compGo g tYesW a ρ Q (x :: r) acc = g x ρ fun ρ' => a X0 ρ' fun y => acc.length < 100000 ∧ compGo g tYesW a ρ Q r (acc ++ [y]) := rfl
    rw [key]
    refine h x List.mem_cons_self _ fun y hy => ⟨by omega, ?_⟩
    refine compGo_map R r (acc ++ [y]) (fun z hz => h z (List.mem_cons_of_mem _ hz)) (by rw [List.length_append, List.length_singleton]; omega) fun ys hys => ?_
    rw [List.append_assoc]
    exact q (y :: ys) (.cons hy hys)
inductive Filt (R : D → Option D → Prop) : List D → List D → Prop
  | nil : Filt R [] []
  | take {x y : D} {xs ys : List D} : R x (some y) → Filt R xs ys → Filt R (x :: xs) (y :: ys)
  | drop {x : D} {xs ys : List D} : R x none → Filt R xs ys → Filt R (x :: xs) ys
/-- [f(x) for x in xs if t(x)] -/
theorem compGo_filt {g : GW} {t : TW} {a : EW} {ρ : Env} {Q : List D → Prop} (R : D → Option D → Prop) : ∀ (xs acc : List D), (∀ x ∈ xs, ∀ (Q' : D → Prop) (N : Prop), (∀ y, R x (some y) → Q' y) → (R x none → N) → g x ρ fun ρ' => t X0 ρ' fun k => if k = true then a X0 ρ' Q' else N) → acc.length + xs.length ≤ 100000 →
    (∀ ys, Filt R xs ys → Q (acc ++ ys)) → compGo g t a ρ Q xs acc
  | [], acc, _, _, q => by
    have := q [] .nil
    rw [List.append_nil] at this
    exact this
  | x :: r, acc, h, hl, q => by
    rw [List.length_cons] at hl
    have key : compGo g t a ρ Q (x :: r) acc = g x ρ fun ρ' => t X0 ρ' fun k => if k = true then a X0 ρ' fun y => acc.length < 100000 ∧ compGo g t a ρ Q r (acc ++ [y]) else compGo g t a ρ Q r acc := rfl
    rw [key]
    refine h x List.mem_cons_self _ _ (fun y hy => ⟨by omega, ?_⟩) fun hn => ?_
    · refine compGo_filt R r (acc ++ [y]) (fun z hz => h z (List.mem_cons_of_mem _ hz)) (by rw [List.length_append, List.length_singleton]; omega) fun ys hys => ?_
      rw [List.append_assoc]
      exact q (y :: ys) (.take hy hys)
    · exact compGo_filt R r acc (fun z hz => h z (List.mem_cons_of_mem _ hz)) (by omega) fun ys hys => q ys (.drop hn hys)
theorem Filt.all {R : D → Option D → Prop} {P : D → Prop} {xs ys : List D} (h : Filt R xs ys) (k : ∀ x y, x ∈ xs → R x (some y) → P y) : ∀ y ∈ ys, P y := by
  induction h with
  | nil => exact fun y hy => nomatch hy
  | take r _ ih =>
    intro z hz
    rcases List.mem_cons.mp hz with e | hz
    · rw [e]
      exact k _ _ List.mem_cons_self r
    · exact ih (fun x y hx => k x y (List.mem_cons_of_mem _ hx)) z hz
  | drop _ _ ih => exact ih fun x y hx => k x y (List.mem_cons_of_mem _ hx)
theorem Filt.len {R : D → Option D → Prop} {xs ys : List D} (h : Filt R xs ys) : ys.length ≤ xs.length := by
  induction h with
  | nil => exact Nat.le_refl _
  | take _ _ ih => simp only [List.length_cons]; omega
  | drop _ _ ih => simp only [List.length_cons]; omega
/-- data that are ints -/
theorem ints_of : ∀ {xs : List D}, (∀ x ∈ xs, ∃ i : Int, x = .int i) → ∃ ns : List Int, xs = ns.map D.int
  | [], _ => ⟨[], rfl⟩
  | x :: xs, h => by
    obtain ⟨i, rfl⟩ := h x List.mem_cons_self
    obtain ⟨ns, rfl⟩ := ints_of fun y hy => h y (List.mem_cons_of_mem _ hy)
    exact ⟨i :: ns, rfl⟩
theorem all2_mem {R : D → D → Prop} {xs ys : List D} (h : All2 R xs ys) : ∀ y ∈ ys, ∃ x ∈ xs, R x y := by
  induction h with
  | nil => exact fun y hy => nomatch hy
  | cons r _ ih =>
    intro z hz
    rcases List.mem_cons.mp hz with e | hz
    · exact ⟨_, List.mem_cons_self, by rw [e]; exact r⟩
    · obtain ⟨x, m, r⟩ := ih z hz
      exact ⟨x, List.mem_cons_of_mem _ m, r⟩
theorem all2_len {R : D → D → Prop} {xs ys : List D} (h : All2 R xs ys) : ys.length = xs.length := by
  induction h with
  | nil => rfl
  | cons _ _ ih => rw [List.length_cons, List.length_cons, ih]
/-! ### sizes -/
theorem imul_sz {i j : Int} {n m : Nat} (h1 : i.natAbs < 2 ^ n) (h2 : j.natAbs < 2 ^ m) (h : n + m < 999000) : IMul i j := by
  refine .inr (.inr ?_)
  have a : i.natAbs.log2 < n + 1 := PySem.Flt.log2_lt_of (by omega) (Nat.lt_of_lt_of_le h1 (Nat.pow_le_pow_right (by decide) (by omega)))
  have b : j.natAbs.log2 < m + 1 := PySem.Flt.log2_lt_of (by omega) (Nat.lt_of_lt_of_le h2 (Nat.pow_le_pow_right (by decide) (by omega)))
  omega
theorem abs_mul_lt {i j : Int} {n m : Nat} (h1 : i.natAbs < 2 ^ n) (h2 : j.natAbs < 2 ^ m) : (i * j).natAbs < 2 ^ (n + m) := by
  rw [Int.natAbs_mul, Nat.pow_add]
  exact Nat.mul_lt_mul'' h1 h2
theorem abs_add_lt {i j : Int} {n : Nat} (h1 : i.natAbs < 2 ^ n) (h2 : j.natAbs < 2 ^ n) : (i + j).natAbs < 2 ^ (n + 1) := by
  rw [Nat.pow_succ]
  omega
theorem abs_sub_lt {i j : Int} {n : Nat} (h1 : i.natAbs < 2 ^ n) (h2 : j.natAbs < 2 ^ n) : (i - j).natAbs < 2 ^ (n + 1) := by
  rw [Nat.pow_succ]
  omega
theorem log_lt {i : Int} {n m : Nat} (h : i.natAbs < 2 ^ n) (hm : n < m) : i.natAbs.log2 < m :=
  PySem.Flt.log2_lt_of (by omega) (Nat.lt_of_lt_of_le h (Nat.pow_le_pow_right (by decide) (by omega)))
/-! ### fractions -/
/-- a fraction as the texts hold it -/
def fr (q : Rat) : D := .tup [.int q.num, .int q.den]
/-- both parts below 2 ^ n -/
def Sz (n : Nat) (q : Rat) : Prop := q.num.natAbs < 2 ^ n ∧ q.den < 2 ^ n
/-- top / bottom -/
def rat (top bottom : Int) : Rat := Rat.divInt top bottom
theorem rat_self (q : Rat) : rat q.num q.den = q := Rat.num_divInt_den q
theorem rat_eq (a b : Int) : rat a b = (a : Rat) / (b : Rat) := Rat.divInt_eq_div a b
theorem num_nz {q : Rat} (h : q ≠ 0) : q.num ≠ 0 := fun z => h (by
  have e := Rat.num_divInt_den q
  rw [z, Rat.zero_divInt] at e
  exact e.symm)
theorem gcd_pos {a b : Int} (h : b ≠ 0) : 0 < Int.gcd a b := Int.gcd_pos_of_ne_zero_right a h
/-- what lowest terms are -/
theorem low_parts {top bottom : Int} (hb : bottom ≠ 0) {f : Int} (hf : f = (Int.gcd top bottom : Int) * (if 0 < bottom then 1 else -1)) : f ≠ 0 ∧ top.fdiv f = (rat top bottom).num ∧ bottom.fdiv f = (rat top bottom).den := by
  have hg : 0 < Int.gcd top bottom := gcd_pos hb
  obtain ⟨t, ht⟩ : (Int.gcd top bottom : Int) ∣ top := Int.gcd_dvd_left ..
  obtain ⟨b, hb2⟩ : (Int.gcd top bottom : Int) ∣ bottom := Int.gcd_dvd_right ..
  generalize hG : (Int.gcd top bottom : Int) = G at *
  have hG0 : 0 < G := by omega
  have e1 : (rat top bottom).num = bottom.sign * top / G := by
    unfold rat
    rw [Rat.num_divInt, Int.gcd_comm bottom top, hG]
  have e2 : ((rat top bottom).den : Int) = (bottom.natAbs : Int) / G := by
    unfold rat
    rw [Rat.den_divInt, if_neg hb, Int.gcd_comm bottom top, Int.natCast_ediv, hG]
  rw [e1, e2]
  by_cases hp : 0 < bottom
  · rw [if_pos hp, Int.mul_one] at hf
    subst hf
    refine ⟨by omega, ?_, ?_⟩
    · rw [Int.sign_eq_one_of_pos hp, Int.one_mul, Int.fdiv_eq_ediv_of_nonneg _ (by omega)]
    · rw [Int.fdiv_eq_ediv_of_nonneg _ (by omega), Int.natAbs_of_nonneg (by omega)]
  · rw [if_neg hp] at hf
    have hn : bottom < 0 := by omega
    have hf2 : f = -G := by omega
    subst hf2
    refine ⟨by omega, ?_, ?_⟩
    · rw [Int.sign_eq_neg_one_of_neg hn, ht]
      rw [show -1 * (G * t) = G * (-t) by rw [Int.mul_neg]; omega, Int.mul_ediv_cancel_left _ (by omega)]
      rw [show G * t = (-G) * (-t) by rw [Int.neg_mul_neg], Int.mul_fdiv_cancel_left _ (by omega)]
    · rw [show (bottom.natAbs : Int) = -bottom by omega]
      rw [hb2]
      rw [show -(G * b) = G * (-b) by rw [Int.mul_neg], Int.mul_ediv_cancel_left _ (by omega)]
      rw [show G * b = (-G) * (-b) by rw [Int.neg_mul_neg], Int.mul_fdiv_cancel_left _ (by omega)]
theorem gcd_le {a b : Int} (h : b ≠ 0) : Int.gcd a b ≤ b.natAbs := Int.gcd_le_natAbs_right a h
theorem plain_fr (n : Nat) (q : Rat) : plain (n + 2) (fr q) = true := by simp [fr, plain, plainL]
theorem peq_fr (p q : Rat) : peq (fr p) (fr q) = decide (p = q) := by
  simp only [fr, peq, peqL, Bool.and_true]
  by_cases h : p = q
  · subst h
    simp
  · rw [decide_eq_false h]
    rw [Bool.and_eq_false_iff]
    by_cases h1 : p.num = q.num
    · right
      rw [beq_eq_false_iff_ne]
      intro z
      exact h (Rat.ext h1 (by omega))
    · left
      rw [beq_eq_false_iff_ne]
      exact h1
theorem fr_inj {p q : Rat} (h : fr p = fr q) : p = q := by
  unfold fr at h
  injection h with h
  injection h with h1 h2
  injection h1 with h1
  injection h2 with h2
  injection h2 with h2
  exact Rat.ext h1 (by omega)
theorem Sz.den {n : Nat} {q : Rat} (h : Sz n q) : (q.den : Int).natAbs < 2 ^ n := by
  have := h.2
  omega
theorem Sz.mono {n m : Nat} {q : Rat} (h : Sz n q) (k : n ≤ m) : Sz m q :=
  ⟨Nat.lt_of_lt_of_le h.1 (Nat.pow_le_pow_right (by decide) k), Nat.lt_of_lt_of_le h.2 (Nat.pow_le_pow_right (by decide) k)⟩
/-- parts in lowest terms are no greater -/
theorem sz_rat {a b : Int} {n : Nat} (hb : b ≠ 0) (h1 : a.natAbs < 2 ^ n) (h2 : b.natAbs < 2 ^ n) : Sz n (rat a b) := by
  unfold Sz rat
  rw [Rat.num_divInt, Rat.den_divInt, if_neg hb]
  constructor
  · rw [Int.natAbs_ediv_of_dvd ?_]
    · refine Nat.lt_of_le_of_lt (Nat.div_le_self _ _) ?_
      rw [Int.natAbs_mul, Int.natAbs_sign_of_ne_zero hb, Nat.one_mul]
      exact h1
    · exact Int.dvd_mul_of_dvd_right (Int.gcd_dvd_right ..)
  · exact Nat.lt_of_le_of_lt (Nat.div_le_self _ _) h2
theorem den_nz (q : Rat) : (q.den : Int) ≠ 0 := by
  have := q.den_pos
  omega
theorem den_q (q : Rat) : ((q.den : Int) : Rat) ≠ 0 := by
  have := den_nz q
  intro z
  exact this (by exact_mod_cast z)
theorem self_div (q : Rat) : q = (q.num : Rat) / ((q.den : Int) : Rat) := by
  have := rat_self q
  rw [rat_eq] at this
  exact this.symm
theorem rat_of (a b : Int) : rat a b = (a : Rat) / (b : Rat) := rat_eq a b
theorem add_rat (p q : Rat) : rat (p.num * q.den + q.num * p.den) (p.den * q.den) = p + q := by
  have h1 := den_q p
  have h2 := den_q q
  have e1 := self_div p
  have e2 := self_div q
  rw [rat_eq, Rat.intCast_add, Rat.intCast_mul, Rat.intCast_mul, Rat.intCast_mul]
  generalize (p.num : Rat) = a at *
  generalize ((p.den : Int) : Rat) = b at *
  generalize (q.num : Rat) = c at *
  generalize ((q.den : Int) : Rat) = d at *
  subst e1 e2
  grind
theorem sub_rat (p q : Rat) : rat (p.num * q.den - q.num * p.den) (p.den * q.den) = p - q := by
  have h1 := den_q p
  have h2 := den_q q
  have e1 := self_div p
  have e2 := self_div q
  rw [rat_eq, Rat.intCast_sub, Rat.intCast_mul, Rat.intCast_mul, Rat.intCast_mul]
  generalize (p.num : Rat) = a at *
  generalize ((p.den : Int) : Rat) = b at *
  generalize (q.num : Rat) = c at *
  generalize ((q.den : Int) : Rat) = d at *
  subst e1 e2
  grind
theorem mul_rat (p q : Rat) : rat (p.num * q.num) (p.den * q.den) = p * q := by
  have h1 := den_q p
  have h2 := den_q q
  have e1 := self_div p
  have e2 := self_div q
  rw [rat_eq, Rat.intCast_mul, Rat.intCast_mul]
  generalize (p.num : Rat) = a at *
  generalize ((p.den : Int) : Rat) = b at *
  generalize (q.num : Rat) = c at *
  generalize ((q.den : Int) : Rat) = d at *
  subst e1 e2
  grind
theorem num_q {q : Rat} (h : q ≠ 0) : (q.num : Rat) ≠ 0 := fun z => num_nz h (by exact_mod_cast z)
theorem div_rat (p q : Rat) (h : q ≠ 0) : rat (p.num * q.den) (p.den * q.num) = p / q := by
  have h1 := den_q p
  have h2 := den_q q
  have h3 := num_q h
  have e1 := self_div p
  have e2 := self_div q
  rw [rat_eq, Rat.intCast_mul, Rat.intCast_mul]
  generalize (p.num : Rat) = a at *
  generalize ((p.den : Int) : Rat) = b at *
  generalize (q.num : Rat) = c at *
  generalize ((q.den : Int) : Rat) = d at *
  subst e1 e2
  grind
theorem Sz.add {n m : Nat} {p q : Rat} (h1 : Sz n p) (h2 : Sz m q) : Sz (n + m + 1) (p + q) := by
  rw [← add_rat]
  refine sz_rat (Int.mul_ne_zero (den_nz p) (den_nz q)) ?_ ?_
  · exact abs_add_lt (abs_mul_lt h1.1 h2.den) (by rw [Nat.add_comm]; exact abs_mul_lt h2.1 h1.den)
  · exact Nat.lt_of_lt_of_le (abs_mul_lt h1.den h2.den) (Nat.pow_le_pow_right (by decide) (by omega))
theorem Sz.sub {n m : Nat} {p q : Rat} (h1 : Sz n p) (h2 : Sz m q) : Sz (n + m + 1) (p - q) := by
  rw [← sub_rat]
  refine sz_rat (Int.mul_ne_zero (den_nz p) (den_nz q)) ?_ ?_
  · exact abs_sub_lt (abs_mul_lt h1.1 h2.den) (by rw [Nat.add_comm]; exact abs_mul_lt h2.1 h1.den)
  · exact Nat.lt_of_lt_of_le (abs_mul_lt h1.den h2.den) (Nat.pow_le_pow_right (by decide) (by omega))
theorem Sz.mul {n m : Nat} {p q : Rat} (h1 : Sz n p) (h2 : Sz m q) : Sz (n + m) (p * q) := by
  rw [← mul_rat]
  exact sz_rat (Int.mul_ne_zero (den_nz p) (den_nz q)) (abs_mul_lt h1.1 h2.1) (abs_mul_lt h1.den h2.den)
theorem Sz.div {n m : Nat} {p q : Rat} (h1 : Sz n p) (h2 : Sz m q) (h : q ≠ 0) : Sz (n + m) (p / q) := by
  rw [← div_rat p q h]
  exact sz_rat (Int.mul_ne_zero (den_nz p) (num_nz h)) (abs_mul_lt h1.1 h2.den) (abs_mul_lt h1.den h2.1)
theorem Sz.neg {n : Nat} {p : Rat} (h1 : Sz n p) : Sz n (-p) := by
  refine ⟨?_, ?_⟩
  · rw [Rat.neg_num, Int.natAbs_neg]
    exact h1.1
  · rw [Rat.neg_den]
    exact h1.2
end DL
set_option linter.all false
set_option autoImplicit false
set_option maxHeartbeats 2000000
/-! The law's own def. -/
namespace DL
open PySem PySem.Spec PyProof.Rows L2
def spLaw (K : PySem.W.Frag) : Sp := fun vs H Q _ => ∃ (a : Addr) (ns : List Int), vs = [.ref a] ∧ SqL K H a (ns.map V.int) ∧ ns.length ≤ 63 ∧ ∀ H', Q (.bl true) H'
/-- the def that makes the source -/
structure MadeBy (P : Program) (w : World) (K : PySem.W.Frag) (mg : Str → Option Value) (base : Heap) (Z : SrcK) (k : Nat) (x : Str) : Prop where
  ex : ∃ (f : Addr) (fd : FuncData), FnOk P w K mg base (L2.CX P w) k f fd ["script"] (spNew Z K) ∧ mg x = some (.ref f) ∧ PySem.W.keepIn K (.ref f) = true ∧ Binds K fd ["script"] []
section
variable {P : Program} {w : World} {K : PySem.W.Frag} {mg : Str → Option Value} {base : Heap} {Z : SrcK}
theorem repL_ints {F : Hp} : ∀ ns : List Int, RepL K F (ns.map D.int) (ns.map V.int)
  | [] => rfl
  | n :: ns => ⟨.int n, _, rfl, rfl, repL_ints ns⟩
theorem law_of {st : Stmt} {f : Addr} {fd : FuncData} {N : List Str} {k i : Nat} {wb : SW} {p : Pos} {y v : Str} {p1 p2 p3 p4 : Pos} (F : Fun K "law" "law" st f fd) (S : FnScope N ["script"] (defScope st))
    (hfirst : (defBody st).head? = some (.Assign [.Name v p1] (.Call (.Name y p2) [.Name "script" p3] [] p4) p))
    (h0 : ∀ (cdv : Value) (A : Around) (outer : List PySem.Env) (s : Shared) (H : Hp) (E : XK), Room k (A.deeper (envOfC "law" (defScope st) s.heap.objs.size f cdv)) →
      PS (cxOf (L2.CX P w) P w K mg base N "law" (defScope st) f cdv A outer s H E) (.Assign [.Name v p1] (.Call (.Name y p2) [.Name "script" p3] [] p4) p) (tAsg (tCallS (spNew Z K) (fun _ => E) (tCons (tVar 0) tNil)) (gName i)))
    (hN : N.length = N.length - 1 + 1) (hi : 0 < i)
    (hbody : ∀ (cdv : Value) (A : Around) (outer : List PySem.Env) (s : Shared) (H : Hp) (E : XK), Room k (A.deeper (envOfC "law" (defScope st) s.heap.objs.size f cdv)) →
      DSs Z (cxOf (L2.CX P w) P w K mg base N "law" (defScope st) f cdv A outer s H E) (fun _ => E) (defBody st).tail wb)
    (hw : ∀ ns : List Int, ns.length ≤ 63 → wb (fun _ _ => False) { nx := fun _ => False, rt := fun r => r = .d (.bl true) } ((.d (.lst (ns.map D.int)) :: List.replicate (N.length - 1) .un).set i .src)) : FnOk P w K mg base (L2.CX P w) (k + 1) f fd ["script"] (spLaw K) := by
  refine F.okX S (fun vs H Q E h => ?_) (fun cdv A outer s H vs Q E hr h => ?_)
  · obtain ⟨a, ns, rfl, _⟩ := h
    rfl
  · obtain ⟨a, ns, rfl, hS, hlen, q⟩ := h
    obtain ⟨t, p, l⟩ := hbody cdv A outer s H E hr
    have p0 := h0 cdv A outer s H E hr
    have hsplit : ∀ (b : List Stmt) (x : Stmt), b.head? = some x → b = x :: b.tail := fun b x h => by
      cases b with
      | nil => cases h
      | cons z r =>
        cases h
        rfl
    refine ⟨_, by rw [hsplit _ _ hfirst]; exact pss_cons p0 p, ?_⟩
    refine ⟨.ref a, rfl, a, H, ns, rfl, Same.refl H, ⟨a, ns.map V.int, rfl, hS, repL_ints ns⟩, hlen, fun F' H' pp fp sF sH kp hP hfp => ?_⟩
    have e0 : EnvOk Z K ⟨none, H, H⟩ H H (L2.start N [.ref a]) (([.d (.lst (ns.map D.int))] : List SV) ++ List.replicate (N.length - 1) .un) :=
      env_start (src := none) (ss := [.d (.lst (ns.map D.int))]) (Same.refl H) (fun _ _ z => nomatch z) ⟨.ref a, [], rfl, ⟨a, ns.map V.int, rfl, hS, repL_ints ns⟩, rfl⟩ (by rw [hN]; simp)
    have e1 : EnvOk Z K ⟨some (pp, fp), F', H'⟩ F' H' ((L2.start N [.ref a]).set i (some (.ref pp))) ((.d (.lst (ns.map D.int)) :: List.replicate (N.length - 1) .un).set i .src) := by
      refine EnvOk.setS (s := .src) ⟨e0.len, fun j u hj => ?_, fun i j xs ys _ h1 _ => ?_, sH, Same.refl F', fun b hb => .inl hb, fun b o hb _ => hb, fun b hb => hb, fun a' fp' e => ?_⟩ ⟨pp, fp, rfl, rfl⟩ (fun _ _ z => nomatch z)
      · obtain ⟨o, o1, o2⟩ := e0.slot j u hj
        refine ⟨o, o1, ?_⟩
        cases u with
        | un => trivial
        | d x =>
          obtain ⟨v, z1, z2⟩ := o2
          exact ⟨v, z1, Rep.mono sF _ _ z2⟩
        | own xs =>
          exfalso
          cases j with
          | zero => cases hj
          | succ j =>
            have hj : (List.replicate (N.length - 1) SV.un)[j]? = some (SV.own xs) := hj
            rw [List.getElem?_replicate] at hj
            split at hj <;> cases hj
        | src =>
          exfalso
          cases j with
          | zero => cases hj
          | succ j =>
            have hj : (List.replicate (N.length - 1) SV.un)[j]? = some SV.src := hj
            rw [List.getElem?_replicate] at hj
            split at hj <;> cases hj
        | obj px C fs =>
          exfalso
          cases j with
          | zero => cases hj
          | succ j =>
            have hj : (List.replicate (N.length - 1) SV.un)[j]? = some (SV.obj px C fs) := hj
            rw [List.getElem?_replicate] at hj
            split at hj <;> cases hj
      · exfalso
        cases i with
        | zero => cases h1
        | succ j =>
          have h1 : (List.replicate (N.length - 1) SV.un)[j]? = some (SV.own xs) := h1
          rw [List.getElem?_replicate] at h1
          split at h1 <;> cases h1
      · cases e
        exact ⟨hP, fun b hb => ⟨(hfp b hb).1, (Z.tr hP).2 b hb⟩⟩
    refine l ⟨some (pp, fp), F', H'⟩ F' H' _ _ _ _ _ e1 elk0 (hw ns hlen) ⟨fun _ _ _ _ z => z.elim, fun r v σ ρ F2 H2 hr e2 s2 r2 => ?_, fun _ _ _ _ z => z.elim, fun _ _ _ _ z => z.elim⟩
    subst hr
    have r2 : v = .bl true := r2
    subst r2
    exact q H2
end
/-- keywords alone: how they bind -/
theorem kw1 {fd : FuncData} {x a : Str} (h : ∀ u : Value, bindArgs fd ⟨[], [(a, u)]⟩ = pure [(a, u)]) : KwOk fd [a] [a] [0] := ⟨fun ws hl => match ws, hl with
  | [u], _ => h u, rfl⟩
/-! ### promises in short -/
def S1 (f : D → (RV → Prop) → Prop) : Spec := fun ss Q _ => ∃ x, ss = [.d x] ∧ f x Q
def S2 (f : D → D → (RV → Prop) → Prop) : Spec := fun ss Q _ => ∃ x y, ss = [.d x, .d y] ∧ f x y Q
def S3 (f : D → D → D → (RV → Prop) → Prop) : Spec := fun ss Q _ => ∃ x y z, ss = [.d x, .d y, .d z] ∧ f x y z Q
def G1 (f : (RV → Prop) → Prop) : Spec := fun ss Q _ => ss = [.src] ∧ f Q
def G2 (f : D → (RV → Prop) → Prop) : Spec := fun ss Q _ => ∃ x, ss = [.src, .d x] ∧ f x Q
def G3 (f : D → D → (RV → Prop) → Prop) : Spec := fun ss Q _ => ∃ x y, ss = [.src, .d x, .d y] ∧ f x y Q
theorem len_S1 {f : D → (RV → Prop) → Prop} : ∀ ss Q Xe, S1 f ss Q Xe → ss.length = 1 := fun ss Q Xe h => by
  obtain ⟨x, e, _⟩ := h
  rw [e] <;> rfl
theorem len_S2 {f : D → D → (RV → Prop) → Prop} : ∀ ss Q Xe, S2 f ss Q Xe → ss.length = 2 := fun ss Q Xe h => by
  obtain ⟨x, y, e, _⟩ := h
  rw [e] <;> rfl
theorem len_S3 {f : D → D → D → (RV → Prop) → Prop} : ∀ ss Q Xe, S3 f ss Q Xe → ss.length = 3 := fun ss Q Xe h => by
  obtain ⟨x, y, z, e, _⟩ := h
  rw [e] <;> rfl
theorem len_G1 {f : (RV → Prop) → Prop} : ∀ ss Q Xe, G1 f ss Q Xe → ss.length = 1 := fun ss Q Xe h => by
  obtain ⟨e, _⟩ := h
  rw [e] <;> rfl
theorem len_G2 {f : D → (RV → Prop) → Prop} : ∀ ss Q Xe, G2 f ss Q Xe → ss.length = 2 := fun ss Q Xe h => by
  obtain ⟨x, e, _⟩ := h
  rw [e] <;> rfl
theorem len_G3 {f : D → D → (RV → Prop) → Prop} : ∀ ss Q Xe, G3 f ss Q Xe → ss.length = 3 := fun ss Q Xe h => by
  obtain ⟨x, y, e, _⟩ := h
  rw [e] <;> rfl
end DL
set_option linter.all false
set_option autoImplicit false
set_option maxHeartbeats 2000000
/-! What fractions' functions promise. -/
namespace DL
open PySem L2
/-- what a def's text is to give -/
def VC (w : SW) (n : Nat) (sp : Spec) : Prop := ∀ ss Q Xe, sp ss Q Xe → w (fun _ => Xe) { nx := fun _ => Q (.d .non), rt := Q } (ss ++ List.replicate (n - ss.length) .un)
theorem atI0 {α : Type} {x : α} {r : List α} : atI (x :: r) 0 = some x := atI_nat (j := 0) rfl
theorem atI1 {α : Type} {x y : α} {r : List α} : atI (x :: y :: r) 1 = some y := atI_nat (j := 1) rfl
theorem atI2 {α : Type} {x y z : α} {r : List α} : atI (x :: y :: z :: r) 2 = some z := atI_nat (j := 2) rfl
theorem atI3 {α : Type} {x y z u : α} {r : List α} : atI (x :: y :: z :: u :: r) 3 = some u := atI_nat (j := 3) rfl
def isInt : D → Bool
  | .int _ => true
  | _ => false
def isFr : D → Bool
  | .tup [.int a, .int b] => decide (0 < b ∧ Int.gcd a b = 1)
  | _ => false
theorem isFr_fr (q : Rat) : isFr (fr q) = true := by
  have h1 := q.reduced
  have h2 := q.den_pos
  show decide _ = true
  rw [decide_eq_true_eq]
  refine ⟨by omega, ?_⟩
  exact h1
def sp_isint : Spec := S1 fun d Q => (tyOf d).isSome = true ∧ Q (.d (.bl (isInt d)))
def sp_gcd : Spec := S2 fun x y Q => ∃ a b : Int, x = .int a ∧ y = .int b ∧ 0 ≤ a ∧ 0 ≤ b ∧ Q (.d (.int (Int.gcd a b)))
def sp_low : Spec := S2 fun x y Q => ∃ a b : Int, x = .int a ∧ y = .int b ∧ b ≠ 0 ∧ b.natAbs.log2 < 9000 ∧ Q (.d (fr (rat a b)))
def sp_isfr : Spec := S1 fun d Q => plain 40 d = true ∧ Q (.d (.bl (isFr d)))
@[irreducible] def sp_op (n0 : Nat) (f : Rat → Rat → D) : Spec := S2 fun x y Q => ∃ (p q : Rat) (n m : Nat), x = fr p ∧ y = fr q ∧ Sz n p ∧ Sz m q ∧ n + m < n0 ∧ Q (.d (f p q))
theorem op_el {n0 : Nat} {f : Rat → Rat → D} {ss : List SV} {Q : RV → Prop} {Xe : Exc → Prop} (h : sp_op n0 f ss Q Xe) : ∃ x y, ss = [.d x, .d y] ∧ ∃ (p q : Rat) (n m : Nat), x = fr p ∧ y = fr q ∧ Sz n p ∧ Sz m q ∧ n + m < n0 ∧ Q (.d (f p q)) := by
  unfold sp_op at h
  exact h
theorem op_ok {n0 n m : Nat} {f : Rat → Rat → D} {p q : Rat} {Q : RV → Prop} {Xe : Exc → Prop} (hp : Sz n p) (hq : Sz m q) (h : n + m < n0) (k : Q (.d (f p q))) : sp_op n0 f [.d (fr p), .d (fr q)] Q Xe := by
  unfold sp_op
  exact ⟨_, _, rfl, p, q, n, m, rfl, rfl, hp, hq, h, k⟩
theorem len_op {n0 : Nat} {f : Rat → Rat → D} : ∀ ss Q Xe, sp_op n0 f ss Q Xe → ss.length = 2 := fun ss Q Xe h => by
  obtain ⟨x, y, e, _⟩ := op_el h
  rw [e] <;> rfl
/-- of two fractions, the second not 0 -/
@[irreducible] def sp_over (n0 : Nat) : Spec := S2 fun x y Q => ∃ (p q : Rat) (n m : Nat), x = fr p ∧ y = fr q ∧ q ≠ 0 ∧ Sz n p ∧ Sz m q ∧ n + m < n0 ∧ Q (.d (fr (p / q)))
theorem over_el {n0 : Nat} {ss : List SV} {Q : RV → Prop} {Xe : Exc → Prop} (h : sp_over n0 ss Q Xe) : ∃ x y, ss = [.d x, .d y] ∧ ∃ (p q : Rat) (n m : Nat), x = fr p ∧ y = fr q ∧ q ≠ 0 ∧ Sz n p ∧ Sz m q ∧ n + m < n0 ∧ Q (.d (fr (p / q))) := by
  unfold sp_over at h
  exact h
theorem over_ok {n0 n m : Nat} {p q : Rat} {Q : RV → Prop} {Xe : Exc → Prop} (hz : q ≠ 0) (hp : Sz n p) (hq : Sz m q) (h : n + m < n0) (k : Q (.d (fr (p / q)))) : sp_over n0 [.d (fr p), .d (fr q)] Q Xe := by
  unfold sp_over
  exact ⟨_, _, rfl, p, q, n, m, rfl, rfl, hz, hp, hq, h, k⟩
theorem len_ovr {n0 : Nat} : ∀ ss Q Xe, sp_over n0 ss Q Xe → ss.length = 2 := fun ss Q Xe h => by
  obtain ⟨x, y, e, _⟩ := over_el h
  rw [e] <;> rfl
/-- fractions of a tuple or a list -/
def frs (qs : List Rat) : List D := qs.map fr
theorem frs_of : ∀ {xs : List D}, (∀ x ∈ xs, ∃ q : Rat, x = fr q) → ∃ qs : List Rat, xs = frs qs
  | [], _ => ⟨[], rfl⟩
  | x :: xs, h => by
    obtain ⟨q, rfl⟩ := h x List.mem_cons_self
    obtain ⟨qs, rfl⟩ := frs_of fun y hy => h y (List.mem_cons_of_mem _ hy)
    exact ⟨q :: qs, rfl⟩
theorem bools_all {b : Bool} : ∀ {xs : List D}, (∀ x ∈ xs, x = .bl b) → bools xs = some (List.replicate xs.length b)
  | [], _ => rfl
  | x :: xs, h => by
    have e := h x List.mem_cons_self
    subst e
    rw [bools, bools_all fun y hy => h y (List.mem_cons_of_mem _ hy)]
    rfl
theorem all_replicate (n : Nat) : (List.replicate n true).all id = true := by
  rw [List.all_eq_true]
  intro x hx
  rw [List.eq_of_mem_replicate hx]
  rfl
/-! ### gcd by division -/
theorem gcd_step {a b : Int} (ha : 0 ≤ a) (hb : 0 < b) : Int.gcd b (a % b) = Int.gcd a b := by
  obtain ⟨m, rfl⟩ := Int.eq_ofNat_of_zero_le ha
  obtain ⟨n, rfl⟩ := Int.eq_ofNat_of_zero_le (Int.le_of_lt hb)
  show Nat.gcd n ((m : Int) % (n : Int)).natAbs = Nat.gcd m n
  rw [← Int.natCast_emod, Int.natAbs_natCast, Nat.gcd_comm n, ← Nat.gcd_rec, Nat.gcd_comm]
mutual
/-- data that may be compared, nested at most n deep, at most 1000 long -/
def short : Nat → D → Bool
  | 0, _ => false
  | _ + 1, .non => true
  | _ + 1, .bl _ => true
  | _ + 1, .int _ => true
  | _ + 1, .str s => PyData.strOk s
  | n + 1, .tup xs => decide (xs.length ≤ 1000) && shortL n xs
  | n + 1, .lst xs => decide (xs.length ≤ 1000) && shortL n xs
  | _ + 1, .ins _ _ _ => false
def shortL : Nat → List D → Bool
  | _, [] => true
  | n, x :: xs => short n x && shortL n xs
end
mutual
theorem short_plain : ∀ (n m : Nat) (d : D), n ≤ m → short n d = true → plain m d = true
  | 0, _, _, _, h => by simp [short] at h
  | n + 1, 0, _, hm, _ => absurd hm (by omega)
  | n + 1, m + 1, .non, _, _ => by simp [plain]
  | n + 1, m + 1, .bl _, _, _ => by simp [plain]
  | n + 1, m + 1, .int _, _, _ => by simp [plain]
  | n + 1, m + 1, .str s, _, h => by
    simp only [short] at h
    simp only [plain]
    exact h
  | n + 1, m + 1, .tup xs, hm, h => by
    simp only [short, Bool.and_eq_true] at h
    simp only [plain]
    exact shortL_plain n m xs (by omega) h.2
  | n + 1, m + 1, .lst xs, hm, h => by
    simp only [short, Bool.and_eq_true] at h
    simp only [plain]
    exact shortL_plain n m xs (by omega) h.2
  | n + 1, m + 1, .ins _ _ _, _, h => by simp [short] at h
theorem shortL_plain : ∀ (n m : Nat) (ds : List D), n ≤ m → shortL n ds = true → plainL m ds = true
  | _, _, [], _, _ => by simp [plainL]
  | n, m, x :: xs, hm, h => by
    simp only [shortL, Bool.and_eq_true] at h
    simp only [plainL, Bool.and_eq_true]
    exact ⟨short_plain n m x hm h.1, shortL_plain n m xs hm h.2⟩
end
theorem shortL_at {n : Nat} : ∀ {xs : List D}, shortL n xs = true → ∀ x ∈ xs, short n x = true
  | [], _, _, hx => nomatch hx
  | x :: xs, h, y, hy => by
    simp only [shortL, Bool.and_eq_true] at h
    rcases List.mem_cons.mp hy with e | hy
    · rw [e]
      exact h.1
    · exact shortL_at h.2 y hy
theorem shortL_of {n : Nat} : ∀ {xs : List D}, (∀ x ∈ xs, short n x = true) → shortL n xs = true
  | [], _ => by simp [shortL]
  | x :: xs, h => by
    simp only [shortL, Bool.and_eq_true]
    exact ⟨h x List.mem_cons_self, shortL_of fun y hy => h y (List.mem_cons_of_mem _ hy)⟩
theorem short_fr (n : Nat) (q : Rat) : short (n + 2) (fr q) = true := by simp [fr, short, shortL]
mutual
theorem peq_refl : ∀ d : D, (∀ n, plain n d = true → peq d d = true)
  | .non, _, _ => by simp [peq]
  | .bl _, _, _ => by simp [peq]
  | .int _, _, _ => by simp [peq]
  | .str _, _, _ => by simp [peq]
  | .tup xs, 0, h => by simp [plain] at h
  | .tup xs, n + 1, h => by
    simp only [plain] at h
    simp only [peq]
    exact peqL_refl xs n h
  | .lst xs, 0, h => by simp [plain] at h
  | .lst xs, n + 1, h => by
    simp only [plain] at h
    simp only [peq]
    exact peqL_refl xs n h
  | .ins _ _ _, 0, h => by simp [plain] at h
  | .ins _ _ _, n + 1, h => by simp [plain] at h
theorem peqL_refl : ∀ ds : List D, (∀ n, plainL n ds = true → peqL ds ds = true)
  | [], _, _ => by simp [peqL]
  | x :: xs, n, h => by
    simp only [plainL, Bool.and_eq_true] at h
    simp only [peqL, Bool.and_eq_true]
    exact ⟨peq_refl x n h.1, peqL_refl xs n h.2⟩
end
theorem plain_ty : ∀ {n : Nat} {d : D}, plain n d = true → (tyOf d).isSome = true
  | 0, _, h => by simp [plain] at h
  | n + 1, .ins _ _ _, h => by simp [plain] at h
  | n + 1, .non, _ => rfl
  | n + 1, .bl _, _ => rfl
  | n + 1, .int _, _ => rfl
  | n + 1, .str _, _ => rfl
  | n + 1, .tup _, _ => rfl
  | n + 1, .lst _, _ => rfl
theorem plain_at {n : Nat} : ∀ {xs : List D}, plainL n xs = true → ∀ x ∈ xs, plain n x = true
  | [], _, _, hx => nomatch hx
  | x :: xs, h, y, hy => by
    simp only [plainL, Bool.and_eq_true] at h
    rcases List.mem_cons.mp hy with e | hy
    · rw [e]
      exact h.1
    · exact plain_at h.2 y hy
theorem isInt_of {d : D} (h : isInt d = true) : ∃ i : Int, d = .int i := by
  cases d with
  | int i => exact ⟨i, rfl⟩
  | _ => cases h
/-- a pair that is no fraction for want of ints -/
theorem isFr_no1 {x y : D} (h : isInt x = false) : isFr (.tup [x, y]) = false := by
  cases x with
  | int i => cases h
  | _ => rfl
theorem isFr_no2 {x y : D} (h : isInt y = false) : isFr (.tup [x, y]) = false := by
  cases y with
  | int i => cases h
  | _ => cases x <;> rfl
theorem isFr_len {xs : List D} (h : xs.length ≠ 2) : isFr (.tup xs) = false := by
  unfold isFr
  cases xs with
  | nil => rfl
  | cons x r =>
    cases r with
    | nil => cases x <;> rfl
    | cons y t =>
      cases t with
      | nil => exact absurd rfl h
      | cons z u => cases x <;> cases y <;> rfl
theorem peq_int {i j : Int} : peq (.int i) (.int j) = decide (i = j) := by
  simp only [peq]
  by_cases h : i = j
  · subst h
    simp
  · rw [decide_eq_false h]
    exact beq_false_of_ne h
theorem bcases (b : Bool) : b = true ∨ b = false := by cases b <;> simp
end DL
set_option linter.all false
set_option autoImplicit false
set_option maxHeartbeats 2000000
set_option maxRecDepth 100000
/-! The law's def, called by no other code: nothing is under way but it (so repr shows all). -/
namespace DL
open PySem PySem.Spec PySem.W PySem.Calls PyProof.Rows L2
/-- what the end asks of the law's def: its run where nothing else stands on the stack -/
def RunsAt (P : Program) (w : World) (K : PySem.W.Frag) (mg : Str → Option Value) (base : Heap) (k : Nat) (f : Addr) (fd : FuncData) (sp : Sp) : Prop :=
  ∀ (s : Shared) (H : Hp) (u : Value) (v : V) (Q : VK) (E : XK), Room k callerA → Env0 P w K mg base callerA [] s H → BindsTo s fd ⟨[u], []⟩ [("script", u)] → RelV v u → sp [v] H Q E →
    codeAny (model P w) callerA (.call (.ref f) ⟨[u], []⟩) (CR (L2.CX P w) [] P w H s Q E) s
section
variable {P : Program} {w : World} {K : PySem.W.Frag} {mg : Str → Option Value} {base : Heap}
theorem runs_of {st : Stmt} {f : Addr} {fd : FuncData} {N : List Str} {k : Nat} {sp : Sp} (F : Fun K "law" "law" st f fd) (S : FnScope N ["script"] (defScope st))
    (hbody : ∀ (cdv : Value) (s : Shared) (H : Hp) (v : V) (Q : VK) (E : XK), Room k (callerA.deeper (envOfC "law" (defScope st) s.heap.objs.size f cdv)) → sp [v] H Q E →
      ∃ t, PSs (cxOf (L2.CX P w) P w K mg base N "law" (defScope st) f cdv callerA [] s H E) (defBody st) t ∧ t { nx := fun _ H' => Q .non H', rt := Q } (L2.start N [v]) H) : RunsAt P w K mg base (k + 1) f fd sp := by
  intro s H u v Q E room env hbind rel hsp
  obtain ⟨oc, od, kV, doc, pm, an, cdv, ct, osl, rfl, look, code⟩ := F.ex
  have inK : K.In s.heap := Frag.In.keeps env.mod.kin (fun b o e => And.left (env.bs b o e))
  have noLim : s.heap.NoLimit := Heap.NoLimit.keeps env.mod.nolimit (fun b o e => And.left (env.bs b o e))
  have kinds : ∀ y ∈ List.zip [("script" : Str)] [u], (defScope st).names.lookup y.1 = some .local ∨ ((defScope st).names.lookup y.1 = some .cell ∧ ((cellsFrom (s.heap.objs.size + 1) (defScope st).names []).lookup y.1).isSome = true) := by
    rintro ⟨n, x⟩ hy
    exact (S.par n (List.of_mem_zip hy).1).imp id fun q => ⟨q, cellsFrom_some _ _ _ (Or.inl q)⟩
  refine codeAny_call_function room.depth (inK _ _ look) rfl S.co S.gen rfl (codeRec_of inK code) (hbind _ _ _ _ (wpAny_newFunctionEnv_cells S.kind kinds fun e he s1 made => ?_))
  subst he
  refine And.intro (Heap.NoLimit.keeps noLim made.toInCall.keep) (codeAny_func ?_)
  obtain ⟨t, pt, tq⟩ := hbody cdv s H v Q E (room.deeper _) hsp
  have inv0 : L2.Inv (cxOf (L2.CX P w) P w K mg base N "law" (defScope st) f cdv callerA [] s H E) [] (L2.start N [v]) H s1 := inv_start S room.hd env rfl (.cons rel .nil) made
  refine wpAny_mono (pt.run [] s1 _ H _ inv0 tq) ?_ (fun _ _ h => h)
  intro fl s' ends
  have done : ∀ {σ : L2.St} {H2 : Hp} {y : V} {z : Value}, L2.Inv (cxOf (L2.CX P w) P w K mg base N "law" (defScope st) f cdv callerA [] s H E) [] σ H2 s' → RelV y z → Q y H2 → CE [] P w H s Q z s' := by
    intro σ H2 y z J ry q
    exact ⟨y, H2, J.os, J.bare, J.base, J.hok, ry, q⟩
  cases fl with
  | next =>
    obtain ⟨σ, H2, J, q⟩ := ends
    exact done (y := .non) (z := .none) J rfl q
  | ret z =>
    obtain ⟨y, σ, H2, J, ry, q⟩ := ends
    exact done J ry q
  | brk =>
    obtain ⟨_, _, _, q⟩ := ends
    exact q.elim
  | cont =>
    obtain ⟨_, _, _, q⟩ := ends
    exact q.elim
/-- from a heap in which at most the script stands -/
theorem runs_from {k : Nat} {fa a : Addr} {fd : FuncData} {mb : Str → Option Value} {s : Shared} {vs : List Value} {ns : List Int} (H : Hp) (inK : K.In s.heap) (gl : s.heap.Ns mainGlobals mg) (bl : s.heap.Ns builtinsNs mb) (boot : ∀ x : Str, x ≠ "__name__" → mb x = bootBuiltins x)
    (noLim : s.heap.NoLimit) (noGens : s.gens = #[]) (obj : s.heap.get? a = some { cls := .type "list", data := .seq vs.toArray }) (short : ns.length ≤ 63) (room : Room k callerA)
    (F : ∀ base : Heap, K.In base → base.Ns mainGlobals mg → RunsAt P w K mg base k fa fd (spLaw K)) (bind : ∀ (s : Shared) (u : Value), BindsTo s fd ⟨[u], []⟩ [("script", u)])
    (only : ∀ b, H b = none ∨ ∃ o xs, H b = some (.frz o (.lst xs))) (seq : SqL K H a (ns.map V.int)) (laid : HOk P w H s.heap) (one : ∀ b, H b ≠ none → b = a) (free : H a ≠ none → K.lookup a = none) :
    codeAny (model P w) callerA (.call (.ref fa) ⟨[.ref a], []⟩) (fun r s' => r = .ok (.ret (.bool true)) ∧ OldK s.heap s'.heap ∧ s'.os = s.os ∧ AllBare s'.gens) s := by
  have dicts : ∀ {b : Addr} {o : Obj} {es : Array DictEntry} {ep : Nat}, s.heap.get? b = some o → o.data = .dict es ep → H b = none := by
    intro b o es ep e d
    refine Classical.byContradiction fun z => ?_
    rw [one b z, obj] at e
    cases e
    cases d
  have nsOf : ∀ {b : Addr} {m : Str → Option Value}, s.heap.Ns b m → (hidT s.heap H).Ns b m := by
    rintro b m ⟨o, es, ep, e, d, r⟩
    exact ⟨o, es, ep, hidT_get e (dicts e d), d, r⟩
  have kOf : K.In (hidT s.heap H) := by
    intro b o e
    refine hidT_get (inK b o e) (Classical.byContradiction fun z => ?_)
    have q := one b z
    subst q
    rw [free z] at e
    cases e
  have md : Mod K mg (hidT s.heap H) := by
    obtain ⟨mc, h1, h2⟩ := noLim
    exact ⟨kOf, nsOf gl, ⟨mb, nsOf bl, boot⟩, ⟨mc, nsOf h1, h2⟩⟩
  have env : Env0 P w K mg (hidT s.heap H) callerA [] s H :=
    ⟨rfl, md, fun _ _ e => of_hidT e, Nat.le_of_eq (hidT_size _ _), trivial, fun b hb => absurd (show b ∈ ([] : List Addr) from hb) List.not_mem_nil, laid, .of_eq noGens⟩
  have run := F _ kOf (nsOf gl) s H (.ref a) (.ref a) (fun v _ => v = .bl true) (fun _ _ _ => False) room env (bind _ _) rfl ⟨a, ns, rfl, seq, short, fun _ => rfl⟩
  refine codeAny_mono run ?_
  intro r s' out
  cases r with
  | error e =>
    exfalso
    obtain ⟨_, _, _, _, _, _, _, _, _, _, _, _, z⟩ := out
    exact z
  | ok fl =>
    cases fl with
    | ret u =>
      obtain ⟨v, H2, os, bare, un, laid2, rel, q⟩ := out
      have q : v = .bl true := q
      subst q
      have rel : u = .bool true := rel
      subst rel
      refine ⟨rfl, OldK.of_keep ?_, os, bare⟩
      intro b o e
      rcases only b with z | ⟨ob, xs, z⟩
      · exact un.keep b o e z (fun q => absurd (show b ∈ ([] : List Addr) from q) List.not_mem_nil) (by simp)
      · have e1 := (laid b _ z).1
        have e2 := (laid2 b _ (un.frzs b ob _ z)).1
        rw [e] at e1
        cases e1
        exact e2
    | next => exact out.elim
    | brk => exact out.elim
    | cont => exact out.elim
theorem runs_law {k : Nat} {fa a : Addr} {fd : FuncData} {mb : Str → Option Value} {s : Shared} {vs : List Value} {ns : List Int} (inK : K.In s.heap) (gl : s.heap.Ns mainGlobals mg) (bl : s.heap.Ns builtinsNs mb) (boot : ∀ x : Str, x ≠ "__name__" → mb x = bootBuiltins x)
    (noLim : s.heap.NoLimit) (noGens : s.gens = #[]) (obj : s.heap.get? a = some { cls := .type "list", data := .seq vs.toArray }) (nums : IntsAre vs ns) (short : ns.length ≤ 63) (room : Room k callerA)
    (F : ∀ base : Heap, K.In base → base.Ns mainGlobals mg → RunsAt P w K mg base k fa fd (spLaw K)) (bind : ∀ (s : Shared) (u : Value), BindsTo s fd ⟨[u], []⟩ [("script", u)]) :
    codeAny (model P w) callerA (.call (.ref fa) ⟨[.ref a], []⟩) (fun r s' => r = .ok (.ret (.bool true)) ∧ OldK s.heap s'.heap ∧ s'.os = s.os ∧ AllBare s'.gens) s := by
  have rel := vals_ints nums
  have len := nums.length
  have fits : ns.length ≤ sizeLine := Nat.le_trans short (by decide)
  cases look : K.lookup a with
  | none =>
    have at_a : ∀ b u, (if b = a then some (HO.frz { cls := .type "list", data := .seq vs.toArray } (.lst (ns.map V.int))) else none) = some u → b = a ∧ u = .frz { cls := .type "list", data := .seq vs.toArray } (.lst (ns.map V.int)) := by
      intro b u z
      split at z
      · rename_i q
        exact ⟨q, (Option.some.inj z).symm⟩
      · cases z
    refine runs_from (fun b => if b = a then some (.frz { cls := .type "list", data := .seq vs.toArray } (.lst (ns.map V.int))) else none) inK gl bl boot noLim noGens obj short room F bind ?_ ?_ ?_ ?_ (fun _ => look)
    · intro b
      by_cases q : b = a
      · exact Or.inr ⟨_, _, if_pos q⟩
      · exact Or.inl (if_neg q)
    · exact Or.inl (Or.inr ⟨_, if_pos rfl⟩)
    · intro b u z
      obtain ⟨q1, q2⟩ := at_a b u z
      subst q1 q2
      exact ⟨obj, by rw [List.length_map]; exact fits, vs, _, rel, obj⟩
    · intro b z
      exact Classical.byContradiction fun q => z (if_neg q)
  | some o =>
    have e := inK a o look
    rw [obj] at e
    cases e
    refine runs_from (fun _ => none) inK gl bl boot noLim noGens obj short room F bind (fun _ => Or.inl rfl) ?_ (fun b u z => nomatch z) (fun b z => absurd rfl z) (fun z => absurd rfl z)
    exact Or.inr ⟨_, vs.toArray, _, look, rfl, rfl, rfl, by rw [List.size_toArray, len]; exact fits, by simpa using rel⟩
end
/-- the end of a law's row -/
theorem walk_runs {l : OpenLaw} {k : Nat} {q : Program} {loose : List Str} {XP : (Str → Option Value) → Heap → Prop} {YP : World → Heap → Prop} {d : DefRec} {K : Params → Frag} (most : l.most = some 63) (plain : d.params.defaults = []) (room : Room k callerA)
    (inK : ∀ (w : World) (h : Heap), YP w h → (K w.params).In h)
    (F : ∀ (w : World) (mg : Str → Option Value) (fa : Addr) (h : Heap), (K w.params).In h → h.Ns mainGlobals mg → mg d.name = some (.ref fa) →
      ∃ fd : FuncData, (∀ (s : Shared) (u : Value), BindsTo s fd ⟨[u], []⟩ [("script", u)]) ∧
        ∀ base : Heap, (K w.params).In base → base.Ns mainGlobals mg → RunsAt l.prog w (K w.params) mg base k fa fd (spLaw (K w.params))) :
    WalkO q loose XP YP l.row.toRowW d [] (fun f vs => PySem.call f vs) := by
  refine Att.attach_call most plain ?_
  intro w s₀ s mg mb fa o pm cd doc a vs ns G Y ho hd hcd hmg obj nums len gens
  obtain ⟨fd, bind, run⟩ := F w mg fa _ (inK w _ Y) G.T.g hmg
  exact runs_law (inK w _ Y) G.T.g G.T.b G.T.builtins G.T.nolimit gens obj nums len room run bind
end DL
set_option linter.all false
set_option autoImplicit false
set_option maxHeartbeats 2000000
set_option maxRecDepth 100000
/-! repr of data; texts compared. -/
namespace DL
open PySem PySem.Spec PyProof.Rows L2
def reprD (d : D) : Str := (toPy d).shown
def bRepr : OpN
  | [x], Q => plain 40 x = true ∧ (toPy x).showable = true ∧ (reprD x).length ≤ 10000000 ∧ Q (.str (reprD x))
  | _, _ => False
def bEqS : Op2
  | .str s, .str t, Q => Q (.bl (decide (s = t)))
  | _, _, _ => False
def bNeS : Op2
  | .str s, .str t, Q => Q (.bl (!decide (s = t)))
  | _, _, _ => False
section
variable {X : Cx} {K : PySem.W.Frag}
def rReprD (K : PySem.W.Frag) : List V → Hp → VK → Prop := fun vs H Q => ∃ (v : V) (d : PyData), vs = [v] ∧ Dp K H v d ∧ d.hasDict = false ∧ d.showable = true ∧ d.depth ≤ 40 ∧ d.shown.length ≤ sizeLine ∧ Q (.str d.shown) H
theorem call_reprD (hg : X.A.guards = some []) (hu : X.A.units + 100 < cLine) : CallR X (.builtin "repr") (rReprD X.K) := by
  intro pins s σ H vs us Q I r h
  obtain ⟨v, d, rfl, hd, nd, hs, hdep, hz, q⟩ := h
  obtain ⟨u, rfl, ru⟩ := vals1 r
  obtain ⟨as, rd⟩ := Dp.reads I d v u hd ru
  cases rd with
  | none => exact PySem.P.repr_of_none ⟨.str _, H, I.tok _, ⟨_, rfl⟩, q⟩
  | bool b =>
    refine PySem.P.repr_of_bool ⟨.str _, H, I.tok _, ⟨_, rfl⟩, ?_⟩
    cases b <;> exact q
  | int i t =>
    have hi : i.natAbs.log2 < 1920 := by simpa only [PyData.showable, decide_eq_true_eq] using hs
    exact PySem.P.repr_of_int hi ⟨.str _, H, I.tok _, ⟨_, rfl⟩, q⟩
  | str x t => exact PySem.P.repr_of_str ⟨.str _, H, I.tok _, ⟨_, rfl⟩, q⟩ hz
  | list h1 h2 h3 h4 =>
    refine repr_of_reads' (.list h1 h2 h3 h4) hs (PyData.noDict_hsm nd) hg (by omega) (fun _ _ e => e) (fun h' u tk k => ?_) hz
    exact ⟨.str _, H, I.kept (t' := tk) k, ⟨_, rfl⟩, q⟩
  | tuple h1 h2 h3 h4 =>
    refine repr_of_reads' (.tuple h1 h2 h3 h4) hs (PyData.noDict_hsm nd) hg (by omega) (fun _ _ e => e) (fun h' u tk k => ?_) hz
    exact ⟨.str _, H, I.kept (t' := tk) k, ⟨_, rfl⟩, q⟩
  | dict h1 h2 h3 h4 h5 => cases nd
theorem lcb_repr : LCB K (rReprD K) bRepr := fun F H ds vs Qd Qv s r z q => by
  unfold bRepr at z
  split at z
  · obtain ⟨v, rfl, h1⟩ := repL_1 r
    obtain ⟨z1, z2, z3, z4⟩ := z
    obtain ⟨l1, l2⟩ := plain_lay 40 _ z1
    exact ⟨v, _, rfl, rep_dp s 40 _ _ z1 h1, PyData.hasDict_of_canLay _ l1, z2, l2, Nat.le_trans z3 (by decide), q _ _ F H z4 (Ext.refl s) rfl⟩
  · exact z.elim
theorem lop_eqS : LOp K rEq bEqS := fun F H dx dy vx vy Qd Qv s rx ry z q => by
  unfold bEqS at z
  split at z
  · rename_i a b
    have rx : vx = .str a := rx
    have ry : vy = .str b := ry
    subst rx ry
    refine ⟨rfl, ?_⟩
    have e : decide (V.str a = V.str b) = decide (a = b) := by
      rw [decide_eq_decide]
      exact ⟨fun h => by cases h; rfl, fun h => by rw [h]⟩
    rw [e]
    exact q _ _ F H z (Ext.refl s) rfl
  · exact z.elim
theorem lop_neS : LOp K rNe bNeS := fun F H dx dy vx vy Qd Qv s rx ry z q => by
  unfold bNeS at z
  split at z
  · rename_i a b
    have rx : vx = .str a := rx
    have ry : vy = .str b := ry
    subst rx ry
    refine ⟨rfl, ?_⟩
    have e : decide (V.str a = V.str b) = decide (a = b) := by
      rw [decide_eq_decide]
      exact ⟨fun h => by cases h; rfl, fun h => by rw [h]⟩
    rw [e]
    exact q _ _ F H z (Ext.refl s) rfl
  · exact z.elim
end
/-! ### how long repr's text is -/
mutual
def cost : D → Nat
  | .non => 8
  | .bl _ => 8
  | .int i => i.natAbs.log2 + 2
  | .str s => 10 * s.length + 8
  | .tup xs => costL xs + 3
  | .lst xs => costL xs + 3
  | .ins _ _ _ => 8
def costL : List D → Nat
  | [] => 0
  | x :: xs => cost x + 2 + costL xs
end
theorem int_len (i : Int) : (PyData.int i).shown.length ≤ i.natAbs.log2 + 2 := by
  have h10 : i.natAbs < 10 ^ (i.natAbs.log2 + 1) := by
    have h2 : i.natAbs < 2 ^ (i.natAbs.log2 + 1) := Nat.lt_log2_self
    exact Nat.lt_of_lt_of_le h2 (Nat.pow_le_pow_left (by decide) _)
  have e := int_text_length_le10 (k := i.natAbs.log2 + 1) (by omega) h10
  show (Str.ofString (toString i)).length ≤ _
  rw [PyProof.Rows.ofString_length]
  exact e
mutual
theorem shown_cost : ∀ (n : Nat) (d : D), plain n d = true → (toPy d).shown.length ≤ cost d
  | 0, _, h => by simp [plain] at h
  | n + 1, .ins _ _ _, h => by simp [plain] at h
  | n + 1, .non, _ => by decide
  | n + 1, .bl b, _ => by cases b <;> decide
  | n + 1, .int i, _ => by
    simp only [toPy, cost]
    exact int_len i
  | n + 1, .str s, h => by
    simp only [plain, PyData.strOk, Array.all_eq_true'] at h
    simp only [toPy, cost, PyData.shown]
    have := StrLaws.reprText_len s fun c hc => Nat.lt_trans (of_decide_eq_true (h c (by simpa using hc))) (by decide)
    omega
  | n + 1, .tup xs, h => by
    simp only [plain] at h
    simp only [toPy, cost, PyData.shown]
    have := shown_costL n xs h
    have := tupleText_len_le (PyData.shownAll (toPyL xs))
    have := PyData.shownAll_length (toPyL xs)
    have := toPyL_len xs
    omega
  | n + 1, .lst xs, h => by
    simp only [plain] at h
    simp only [toPy, cost, PyData.shown]
    have := shown_costL n xs h
    have := listText_len_le (PyData.shownAll (toPyL xs))
    have := PyData.shownAll_length (toPyL xs)
    have := toPyL_len xs
    omega
theorem shown_costL : ∀ (n : Nat) (ds : List D), plainL n ds = true → ((PyData.shownAll (toPyL ds)).map (·.length)).sum + 2 * ds.length ≤ costL ds
  | _, [], _ => by simp [toPyL, PyData.shownAll, costL]
  | n, x :: xs, h => by
    simp only [plainL, Bool.and_eq_true] at h
    have h1 := shown_cost n x h.1
    have h2 := shown_costL n xs h.2
    simp only [toPyL, PyData.shownAll, costL, List.map_cons, List.sum_cons, List.length_cons]
    omega
theorem toPyL_len : ∀ ds : List D, (toPyL ds).length = ds.length
  | [] => by simp [toPyL]
  | x :: xs => by
    rw [toPyL, List.length_cons, List.length_cons, toPyL_len xs]
end
end DL
set_option linter.all false
set_option autoImplicit false
set_option maxHeartbeats 2000000
/-! The law's own def, at the bottom of the stack. -/
namespace DL
open PySem PySem.Spec PyProof.Rows L2
theorem At.u100 {X : Cx} {E : L2.St → XK} {k : Nat} (A : At X E k) : X.A.units + 100 < cLine := by
  have := A.room.un
  omega
section
variable {P : Program} {w : World} {K : PySem.W.Frag} {mg : Str → Option Value} {base : Heap} {Z : SrcK}
theorem law_ofR {st : Stmt} {f : Addr} {fd : FuncData} {N : List Str} {k i : Nat} {wb : SW} {p : Pos} {y v : Str} {p1 p2 p3 p4 : Pos} (F : Fun K "law" "law" st f fd) (S : FnScope N ["script"] (defScope st))
    (hfirst : (defBody st).head? = some (.Assign [.Name v p1] (.Call (.Name y p2) [.Name "script" p3] [] p4) p))
    (h0 : ∀ (cdv : Value) (s : Shared) (H : Hp) (E : XK), Room k (callerA.deeper (envOfC "law" (defScope st) s.heap.objs.size f cdv)) →
      PS (cxOf (L2.CX P w) P w K mg base N "law" (defScope st) f cdv callerA [] s H E) (.Assign [.Name v p1] (.Call (.Name y p2) [.Name "script" p3] [] p4) p) (tAsg (tCallS (spNew Z K) (fun _ => E) (tCons (tVar 0) tNil)) (gName i)))
    (hN : N.length = N.length - 1 + 1) (hi : 0 < i)
    (hbody : ∀ (cdv : Value) (s : Shared) (H : Hp) (E : XK), Room k (callerA.deeper (envOfC "law" (defScope st) s.heap.objs.size f cdv)) →
      DSs Z (cxOf (L2.CX P w) P w K mg base N "law" (defScope st) f cdv callerA [] s H E) (fun _ => E) (defBody st).tail wb)
    (hw : ∀ ns : List Int, ns.length ≤ 63 → wb (fun _ _ => False) { nx := fun _ => False, rt := fun r => r = .d (.bl true) } ((.d (.lst (ns.map D.int)) :: List.replicate (N.length - 1) .un).set i .src)) : RunsAt P w K mg base (k + 1) f fd (spLaw K) := by
  refine runs_of F S (fun cdv s H v Q E hr h => ?_)
  · obtain ⟨a, ns, hv, hS, hlen, q⟩ := h
    have hv : v = .ref a := by simpa using hv
    subst hv
    obtain ⟨t, p, l⟩ := hbody cdv s H E hr
    have p0 := h0 cdv s H E hr
    have hsplit : ∀ (b : List Stmt) (x : Stmt), b.head? = some x → b = x :: b.tail := fun b x h => by
      cases b with
      | nil => cases h
      | cons z r =>
        cases h
        rfl
    refine ⟨_, by rw [hsplit _ _ hfirst]; exact pss_cons p0 p, ?_⟩
    refine ⟨.ref a, rfl, a, H, ns, rfl, Same.refl H, ⟨a, ns.map V.int, rfl, hS, repL_ints ns⟩, hlen, fun F' H' pp fp sF sH kp hP hfp => ?_⟩
    have e0 : EnvOk Z K ⟨none, H, H⟩ H H (L2.start N [.ref a]) (([.d (.lst (ns.map D.int))] : List SV) ++ List.replicate (N.length - 1) .un) :=
      env_start (src := none) (ss := [.d (.lst (ns.map D.int))]) (Same.refl H) (fun _ _ z => nomatch z) ⟨.ref a, [], rfl, ⟨a, ns.map V.int, rfl, hS, repL_ints ns⟩, rfl⟩ (by rw [hN]; simp)
    have e1 : EnvOk Z K ⟨some (pp, fp), F', H'⟩ F' H' ((L2.start N [.ref a]).set i (some (.ref pp))) ((.d (.lst (ns.map D.int)) :: List.replicate (N.length - 1) .un).set i .src) := by
      refine EnvOk.setS (s := .src) ⟨e0.len, fun j u hj => ?_, fun i j xs ys _ h1 _ => ?_, sH, Same.refl F', fun b hb => .inl hb, fun b o hb _ => hb, fun b hb => hb, fun a' fp' e => ?_⟩ ⟨pp, fp, rfl, rfl⟩ (fun _ _ z => nomatch z)
      · obtain ⟨o, o1, o2⟩ := e0.slot j u hj
        refine ⟨o, o1, ?_⟩
        cases u with
        | un => trivial
        | d x =>
          obtain ⟨v, z1, z2⟩ := o2
          exact ⟨v, z1, Rep.mono sF _ _ z2⟩
        | own xs =>
          exfalso
          cases j with
          | zero => cases hj
          | succ j =>
            have hj : (List.replicate (N.length - 1) SV.un)[j]? = some (SV.own xs) := hj
            rw [List.getElem?_replicate] at hj
            split at hj <;> cases hj
        | src =>
          exfalso
          cases j with
          | zero => cases hj
          | succ j =>
            have hj : (List.replicate (N.length - 1) SV.un)[j]? = some SV.src := hj
            rw [List.getElem?_replicate] at hj
            split at hj <;> cases hj
        | obj px C fs =>
          exfalso
          cases j with
          | zero => cases hj
          | succ j =>
            have hj : (List.replicate (N.length - 1) SV.un)[j]? = some (SV.obj px C fs) := hj
            rw [List.getElem?_replicate] at hj
            split at hj <;> cases hj
      · exfalso
        cases i with
        | zero => cases h1
        | succ j =>
          have h1 : (List.replicate (N.length - 1) SV.un)[j]? = some (SV.own xs) := h1
          rw [List.getElem?_replicate] at h1
          split at h1 <;> cases h1
      · cases e
        exact ⟨hP, fun b hb => ⟨(hfp b hb).1, (Z.tr hP).2 b hb⟩⟩
    refine l ⟨some (pp, fp), F', H'⟩ F' H' _ _ _ _ _ e1 elk0 (hw ns hlen) ⟨fun _ _ _ _ z => z.elim, fun r v σ ρ F2 H2 hr e2 s2 r2 => ?_, fun _ _ _ _ z => z.elim, fun _ _ _ _ z => z.elim⟩
    subst hr
    have r2 : v = .bl true := r2
    subst r2
    exact q H2
end
end DL
set_option linter.all false
set_option autoImplicit false
set_option maxHeartbeats 4000000
set_option maxRecDepth 100000
set_option exponentiation.threshold 20000
/-! Lemmas for what the defs promise. -/
namespace DL
open PySem PySem.Spec PyProof.Rows L2
theorem gcd_loop {X : XD} {DD : DEnds} {wr : Nat} (a b : Int) (ha : 0 ≤ a) (hb : 0 ≤ b) (q : ∀ u : Int, u = (Int.gcd a b : Int) → DD.nx [.d (.int u), .d (.int 0)]) :
    sWhile (DL.tB (wBin bGt (wVar 1) (wC (.int 0)))) (sPar [0, 1] (wCons (wVar 1) (wCons (wBin bMod (wVar 0) (wVar 1)) wNil))) X DD [.d (.int a), .d (.int b)] := by
  refine ⟨fun m ρ => ∃ x y : Int, ρ = [.d (.int x), .d (.int y)] ∧ 0 ≤ x ∧ 0 ≤ y ∧ y.toNat = m ∧ Int.gcd x y = Int.gcd a b, ⟨b.toNat, a, b, rfl, ha, hb, rfl, rfl⟩, ?_⟩
  rintro m ρ ⟨x, y, rfl, hx, hy, hm, hg⟩
  refine ite2 (fun z => ?_) fun z => ?_
  · have hy0 : 0 < y := of_decide_eq_true z
    refine ⟨hy0, (x % y).toNat, ?_, y, x % y, rfl, by omega, Int.emod_nonneg _ (by omega), rfl, ?_⟩
    · have := Int.emod_lt_of_pos x hy0
      have := Int.emod_nonneg x (show y ≠ 0 by omega)
      omega
    · rw [gcd_step hx hy0, hg]
  · have hy0 : ¬ 0 < y := fun k => z (decide_eq_true k)
    have e : y = 0 := by omega
    subst e
    refine q x ?_
    rw [← hg, Int.gcd_zero_right]
    omega
theorem bools_fr : ∀ {xs : List D}, (∀ x ∈ xs, x = .bl true) → ∃ bs, bools xs = some bs ∧ bs.all id = true := fun {xs} h => ⟨_, bools_all h, all_replicate _⟩
theorem low_loop {X : XD} {DD : DEnds} {u v : SV} (a b : Int) (ha : 0 ≤ a) (hb : 0 ≤ b) (q : ∀ r : Int, r = (Int.gcd a b : Int) → DD.nx [u, v, .d (.int r), .d (.int 0)]) :
    sWhile (DL.tB (wBin bGt (wVar 3) (wC (.int 0)))) (sPar [2, 3] (wCons (wVar 3) (wCons (wBin bMod (wCB bInt (wCons (wVar 2) wNil)) (wVar 3)) wNil))) X DD [u, v, .d (.int a), .d (.int b)] := by
  refine ⟨fun m ρ => ∃ x y : Int, ρ = [u, v, .d (.int x), .d (.int y)] ∧ 0 ≤ x ∧ 0 ≤ y ∧ y.toNat = m ∧ Int.gcd x y = Int.gcd a b, ⟨b.toNat, a, b, rfl, ha, hb, rfl, rfl⟩, ?_⟩
  rintro m ρ ⟨x, y, rfl, hx, hy, hm, hg⟩
  refine ite2 (fun z => ?_) fun z => ?_
  · have hy0 : 0 < y := of_decide_eq_true z
    refine ⟨hy0, (x % y).toNat, ?_, y, x % y, rfl, by omega, Int.emod_nonneg _ (by omega), rfl, ?_⟩
    · have := Int.emod_lt_of_pos x hy0
      have := Int.emod_nonneg x (show y ≠ 0 by omega)
      omega
    · rw [gcd_step hx hy0, hg]
  · have hy0 : ¬ 0 < y := fun k => z (decide_eq_true k)
    have e : y = 0 := by omega
    subst e
    refine q x ?_
    rw [← hg, Int.gcd_zero_right]
    omega
theorem low_fin {Q : RV → Prop} {a b : Int} (hb : b ≠ 0) (hlog : b.natAbs.log2 < 9000) (q : Q (.d (fr (rat a b)))) : ∀ f : Int, f = (Int.gcd a b : Int) * (if 0 < b then 1 else -1) → (f ≠ 0 ∧ f.natAbs.log2 < 9000) ∧ (f ≠ 0 ∧ f.natAbs.log2 < 9000) ∧ 2 ≤ 100000 ∧ Q (.d (.tup [.int (a.fdiv f), .int (b.fdiv f)])) := fun f hf => by
  obtain ⟨h1, h2, h3⟩ := low_parts (top := a) hb hf
  have hn : f.natAbs = Int.gcd a b := by
    rw [hf]
    split <;> omega
  have hl : f.natAbs.log2 < 9000 := by
    rw [hn]
    refine Nat.lt_of_le_of_lt ?_ hlog
    rw [Nat.le_log2 (by omega)]
    exact Nat.le_trans (Nat.log2_self_le (Nat.pos_iff_ne_zero.mp (gcd_pos hb))) (gcd_le hb)
  rw [h2, h3]
  exact ⟨⟨h1, hl⟩, ⟨h1, hl⟩, by decide, q⟩
theorem bAll_true {ys : List D} {Q : D → Prop} (h : ∀ y ∈ ys, y = .bl true) (q : Q (.bl true)) : bAll [.lst ys] Q := by
  obtain ⟨bs, e1, e2⟩ := bools_fr h
  show match bools ys with
    | some bs => Q (.bl (bs.all id))
    | none => False
  rw [e1]
  show Q (.bl (bs.all id))
  rw [e2]
  exact q
theorem mem_range {lo : Int} {n : Nat} {x : D} (h : x ∈ rangeD lo n) : ∃ k : Nat, k < n ∧ x = .int (lo + k) := by
  obtain ⟨k, hk, rfl⟩ := List.mem_map.mp h
  exact ⟨k, List.mem_range.mp hk, rfl⟩
theorem isFr_low {i j : Int} (hj : 0 < j) : peq (fr (rat i j)) (.tup [.int i, .int j]) = isFr (.tup [.int i, .int j]) := by
  have e1 : (rat i j).num = i / (Int.gcd j i : Int) := by
    unfold rat
    rw [Rat.num_divInt, Int.sign_eq_one_of_pos hj, Int.one_mul]
  have e2 : (rat i j).den = j.natAbs / Int.gcd j i := by
    unfold rat
    rw [Rat.den_divInt, if_neg (by omega)]
  show (((rat i j).num == i) && (((rat i j).den : Int) == j && true)) = decide (0 < j ∧ Int.gcd i j = 1)
  by_cases hg : Int.gcd i j = 1
  · have hg2 : Int.gcd j i = 1 := by rw [Int.gcd_comm]; exact hg
    rw [hg2] at e1 e2
    rw [e1, e2, decide_eq_true ⟨hj, hg⟩]
    have a1 : i / ((1 : Nat) : Int) = i := by simp
    have a2 : ((j.natAbs / 1 : Nat) : Int) = j := by
      rw [Nat.div_one]
      omega
    rw [a1, a2]
    simp
  · rw [decide_eq_false (fun k => hg k.2)]
    rw [Bool.and_eq_false_iff]
    by_cases h1 : (rat i j).num = i
    · right
      rw [Bool.and_true]
      refine beq_false_of_ne fun h2 => hg ?_
      have r := (rat i j).reduced
      rw [h1] at r
      have h3 : (rat i j).den = j.natAbs := by omega
      rw [h3] at r
      exact r
    · left
      exact beq_false_of_ne h1
theorem fr_int (k : Int) : fr (k : Rat) = .tup [.int k, .int 1] := rfl
theorem frs_len (qs : List Rat) : (frs qs).length = qs.length := by simp [frs]
theorem plainL_frs (n : Nat) (qs : List Rat) : plainL (n + 2) (frs qs) = true := by
  induction qs with
  | nil => simp [frs, plainL]
  | cons q qs ih =>
    simp only [frs, List.map_cons, plainL, Bool.and_eq_true]
    exact ⟨plain_fr n q, ih⟩
theorem rsum_snoc (t : Rat) : ∀ ps : List Rat, (ps ++ [t]).sum = ps.sum + t
  | [] => by
    show t + 0 = 0 + t
    rw [Rat.add_zero, Rat.zero_add]
  | p :: ps => by
    show p + (ps ++ [t]).sum = (p + ps.sum) + t
    rw [rsum_snoc t ps, Rat.add_assoc]
theorem ne_t {a b : Rat} (h : a = b) : ¬ (!peq (fr a) (fr b)) = true := by
  subst h
  rw [peq_fr, decide_eq_true rfl]
  simp
theorem isnot_t {x b : Bool} (h : x = b) : ¬ (!decide (x = b)) = true := by
  subst h
  simp
theorem num_ne {q : Rat} (h : (!peq (.int q.num) (.int 0)) = true) : q ≠ 0 := fun z => by
  subst z
  rw [peq_int] at h
  simp at h
theorem num_pos {q : Rat} (h : 0 < q.num) : 0 < q := by
  rw [Rat.lt_iff]
  simpa using h
theorem num_neg {q : Rat} (h : q.num < 0) : q < 0 := by
  rw [Rat.lt_iff]
  simpa using h
theorem num_nil {q : Rat} (h : q.num = 0) : q = 0 := by
  by_cases k : q = 0
  · exact k
  · exact absurd h (num_nz k)
theorem mul_lt_neg {p q r : Rat} (h : r < 0) : p * r < q * r ↔ q < p := by
  have h2 : 0 < -r := by grind
  have e : q * -r < p * -r ↔ q < p := Rat.mul_lt_mul_right h2
  rw [Rat.mul_neg, Rat.mul_neg] at e
  rw [← e]
  constructor <;> intro k <;> grind
theorem cross {t b : Int} (hb : b ≠ 0) : (rat t b).num * b = t * (rat t b).den := by
  have h1 := den_q (rat t b)
  have h2 : (b : Rat) ≠ 0 := fun z => hb (by exact_mod_cast z)
  have e : (t : Rat) / (b : Rat) = ((rat t b).num : Rat) / (((rat t b).den : Int) : Rat) := (rat_of t b).symm.trans (self_div _)
  have e3 : (((rat t b).num * b : Int) : Rat) = ((t * (rat t b).den : Int) : Rat) := by
    rw [Rat.intCast_mul, Rat.intCast_mul]
    generalize ((rat t b).num : Rat) = x at *
    generalize (((rat t b).den : Int) : Rat) = y at *
    generalize (t : Rat) = u at *
    generalize (b : Rat) = v at *
    grind
  exact_mod_cast e3
def unfr : D → Rat
  | .tup [.int a, .int b] => rat a b
  | _ => 0
theorem unfr_fr (q : Rat) : unfr (fr q) = q := rat_self q
theorem unfr_frs (qs : List Rat) : (frs qs).map unfr = qs := by
  induction qs with
  | nil => rfl
  | cons q qs ih =>
    show unfr (fr q) :: (frs qs).map unfr = q :: qs
    rw [ih, unfr_fr]
theorem rsum_perm {xs ys : List Rat} (h : xs.Perm ys) : xs.sum = ys.sum := by
  induction h with
  | nil => rfl
  | cons x _ ih =>
    exact congrArg (x + ·) ih
  | swap x y l =>
    show y + (x + l.sum) = x + (y + l.sum)
    rw [← Rat.add_assoc, ← Rat.add_assoc, Rat.add_comm y x]
  | trans _ _ h1 h2 => exact h1.trans h2
theorem rat_scale {p : Rat} {f : Int} (hf : f ≠ 0) : rat (p.num * f) (p.den * f) = p := by
  unfold rat
  rw [Rat.divInt_mul_right hf]
  exact rat_self p
theorem fr_neg (p : Rat) : D.tup [.int (-p.num), .int p.den] = fr (-p) := by
  unfold fr
  rw [Rat.neg_num, Rat.neg_den]
theorem frs_rev (qs : List Rat) : (frs qs).reverse = frs qs.reverse := by simp [frs]
/-! ### one fraction -/
def rabs (q : Rat) : Rat := if q < 0 then -q else q
@[irreducible] def sp_un (f : Rat → D) : Spec := S1 fun x Q => ∃ q : Rat, x = fr q ∧ Q (.d (f q))
theorem un_el {f : Rat → D} {ss : List SV} {Q : RV → Prop} {Xe : Exc → Prop} (h : sp_un f ss Q Xe) : ∃ x, ss = [.d x] ∧ ∃ q : Rat, x = fr q ∧ Q (.d (f q)) := by
  unfold sp_un at h
  exact h
theorem un_ok {f : Rat → D} {q : Rat} {Q : RV → Prop} {Xe : Exc → Prop} (k : Q (.d (f q))) : sp_un f [.d (fr q)] Q Xe := by
  unfold sp_un
  exact ⟨_, rfl, q, rfl, k⟩
theorem len_un {f : Rat → D} : ∀ ss Q Xe, sp_un f ss Q Xe → ss.length = 1 := fun ss Q Xe h => by
  obtain ⟨x, e, _⟩ := un_el h
  rw [e] <;> rfl
theorem num_sign (q : Rat) : q < 0 ↔ q.num < 0 := by
  rw [Rat.lt_iff]
  simp
theorem fr_abs (q : Rat) : D.tup [.int (if q.num < 0 then -q.num else q.num), .int q.den] = fr (rabs q) := by
  unfold rabs
  by_cases h : q < 0
  · rw [if_pos h, if_pos ((num_sign q).mp h)]
    exact fr_neg q
  · rw [if_neg h, if_neg (fun k => h ((num_sign q).mpr k))]
    rfl
theorem Sz.abs {n : Nat} {q : Rat} (h : Sz n q) : Sz n (rabs q) := by
  unfold rabs
  split
  · exact h.neg
  · exact h
theorem dec_lt (p q : Rat) : decide (p.num * (q.den : Int) < q.num * (p.den : Int)) = decide (p < q) := by
  rw [decide_eq_decide]
  exact (Rat.lt_iff p q).symm
/-! ### data of any form -/
mutual
def sml : D → Prop
  | .int i => i.natAbs < 2 ^ 4000
  | .tup xs => smlL xs
  | .lst xs => smlL xs
  | _ => True
def smlL : List D → Prop
  | [] => True
  | x :: xs => sml x ∧ smlL xs
end
/-- data that may be looked at by any def -/
def okD (d : D) : Prop := short 40 d = true ∧ sml d
theorem sml_at : ∀ {xs : List D}, smlL xs → ∀ x ∈ xs, sml x
  | [], _, _, h => nomatch h
  | x :: xs, h, y, m => by
    simp only [smlL] at h
    rcases List.mem_cons.mp m with e | m
    · rw [e]
      exact h.1
    · exact sml_at h.2 y m
theorem short_mono : ∀ (n m : Nat) (d : D), n ≤ m → short n d = true → short m d = true := by
  have key : ∀ n m : Nat, n ≤ m → ∀ d : D, short n d = true → short m d = true := by
    intro n
    induction n with
    | zero => intro m _ d h; simp [short] at h
    | succ n ih =>
      intro m hm d h
      obtain ⟨m, rfl⟩ : ∃ k, m = k + 1 := ⟨m - 1, by omega⟩
      have l : ∀ xs : List D, shortL n xs = true → shortL m xs = true := fun xs h => shortL_of fun x hx => ih m (by omega) x (shortL_at h x hx)
      cases d with
      | tup xs =>
        simp only [short, Bool.and_eq_true] at h ⊢
        exact ⟨h.1, l xs h.2⟩
      | lst xs =>
        simp only [short, Bool.and_eq_true] at h ⊢
        exact ⟨h.1, l xs h.2⟩
      | str s =>
        simp only [short] at h ⊢
        exact h
      | non => simp [short]
      | bl _ => simp [short]
      | int _ => simp [short]
      | ins _ _ _ => simp [short] at h
  exact fun n m d h => key n m h d
theorem okD.plain {d : D} (h : okD d) : plain 40 d = true := short_plain _ _ d (Nat.le_refl _) h.1
theorem okD.ty {d : D} (h : okD d) : (tyOf d).isSome = true := plain_ty h.plain
theorem okD.tup {xs : List D} (h : okD (.tup xs)) : ∀ x ∈ xs, okD x := fun x m => by
  obtain ⟨h1, h2⟩ := h
  simp only [short, Bool.and_eq_true] at h1
  simp only [sml] at h2
  exact ⟨short_mono 39 40 x (by decide) (shortL_at h1.2 x m), sml_at h2 x m⟩
theorem okD.len {xs : List D} (h : okD (.tup xs)) : xs.length ≤ 1000 := by
  have h1 := h.1
  simp only [short, Bool.and_eq_true, decide_eq_true_eq] at h1
  exact h1.1
/-- a fraction by its form -/
theorem isFr_el {d : D} (h : isFr d = true) : ∃ q : Rat, d = fr q := by
  unfold isFr at h
  split at h
  · rename_i a b
    have h := of_decide_eq_true h
    have e := isFr_low (i := a) h.1
    have h2 : isFr (.tup [.int a, .int b]) = true := decide_eq_true h
    rw [h2] at e
    refine ⟨rat a b, ?_⟩
    unfold fr at e ⊢
    simp only [peq, peqL, Bool.and_true, Bool.and_eq_true, beq_iff_eq] at e
    rw [e.1, e.2]
  · cases h
theorem okD.sz {q : Rat} (h : okD (fr q)) : Sz 4000 q := by
  have h2 := h.2
  simp only [fr, sml, smlL] at h2
  exact ⟨h2.1, by have := h2.2.1; omega⟩
theorem okD_fr {n : Nat} {q : Rat} (h : Sz n q) (k : n ≤ 4000) : okD (fr q) := by
  have h := h.mono k
  refine ⟨short_fr 38 q, ?_⟩
  simp only [fr, sml, smlL]
  exact ⟨h.1, by have := h.2; omega, trivial⟩
def isAbove (d : D) : Bool := isFr d && decide (0 < unfr d)
def isAmount (d : D) : Bool := isFr d && !decide (unfr d < 0)
def isPoint (n : Int) : D → Bool
  | .tup xs => decide ((xs.length : Int) = n) && xs.all isFr
  | _ => false
def isBool : D → Bool
  | .bl _ => true
  | _ => false
def nought : Rat := 0
theorem nought_fr : D.tup [.int 0, .int 1] = fr 0 := rfl
theorem sz_0 : Sz 1 (0 : Rat) := ⟨by decide, by decide⟩
end DL
set_option linter.all false
set_option autoImplicit false
set_option maxHeartbeats 4000000
set_option maxRecDepth 100000
set_option exponentiation.threshold 20000
/-! Programs of moves, as the laws draw them. -/
namespace DL
open PySem PySem.Spec PyProof.Rows L2
/-- multiples of 1 / (6 * 10 ^ 60), so many at most -/
def D0 : Int := 6 * 10 ^ 60
theorem D0_pos : 0 < D0 := by decide
def Gr (b : Nat) (q : Rat) : Prop := ∃ z : Int, q = rat z D0 ∧ z.natAbs ≤ b
theorem D0_nz : (D0 : Rat) ≠ 0 := by
  have : D0 ≠ 0 := by decide
  exact fun z => this (by exact_mod_cast z)
theorem Gr.add {a b : Nat} {p q : Rat} (h : Gr a p) (k : Gr b q) : Gr (a + b) (p + q) := by
  obtain ⟨y, rfl, hy⟩ := h
  obtain ⟨z, rfl, hz⟩ := k
  refine ⟨y + z, ?_, by omega⟩
  have := D0_nz
  rw [rat_of, rat_of, rat_of, Rat.intCast_add]
  grind
theorem Gr.sub {a b : Nat} {p q : Rat} (h : Gr a p) (k : Gr b q) : Gr (a + b) (p - q) := by
  obtain ⟨y, rfl, hy⟩ := h
  obtain ⟨z, rfl, hz⟩ := k
  refine ⟨y - z, ?_, by omega⟩
  have := D0_nz
  rw [rat_of, rat_of, rat_of, Rat.intCast_sub]
  grind
theorem Gr.mono {a b : Nat} {p : Rat} (h : Gr a p) (k : a ≤ b) : Gr b p := by
  obtain ⟨y, e, hy⟩ := h
  exact ⟨y, e, by omega⟩
theorem Gr.scale {a : Nat} {p : Rat} (h : Gr a p) (k : Int) : Gr (k.natAbs * a) (p * k) := by
  obtain ⟨y, rfl, hy⟩ := h
  refine ⟨k * y, ?_, ?_⟩
  · have := D0_nz
    rw [rat_of, rat_of, Rat.intCast_mul]
    grind
  · rw [Int.natAbs_mul]
    exact Nat.mul_le_mul_left _ hy
theorem Gr.abs {a : Nat} {p : Rat} (h : Gr a p) : Gr a (rabs p) := by
  unfold rabs
  split
  · obtain ⟨y, rfl, hy⟩ := h
    refine ⟨-y, ?_, by omega⟩
    have := D0_nz
    rw [rat_of, rat_of, Rat.intCast_neg]
    grind
  · exact h
theorem Gr.sz {n : Nat} {q : Rat} (h : Gr (2 ^ n) q) (k : 204 ≤ n) : Sz (n + 1) q := by
  obtain ⟨z, rfl, hz⟩ := h
  have e : 2 ^ 204 ≤ 2 ^ n := Nat.pow_le_pow_right (by decide) k
  have e2 : 2 ^ (n + 1) = 2 * 2 ^ n := by rw [Nat.pow_succ, Nat.mul_comm]
  have e3 : 0 < 2 ^ n := Nat.two_pow_pos n
  refine sz_rat (by decide) ?_ ?_
  · omega
  · have : D0.natAbs < 2 ^ 204 := by decide
    omega
theorem Gr.rat {a b : Int} {m : Nat} (hb : b ≠ 0) (hd : b ∣ D0) (h : a.natAbs * D0.natAbs ≤ m) : Gr m (rat a b) := by
  obtain ⟨c, hc⟩ := hd
  refine ⟨a * c, ?_, ?_⟩
  · have hc0 : c ≠ 0 := fun z => by
      rw [z, Int.mul_zero] at hc
      exact absurd hc (by decide)
    rw [hc]
    unfold DL.rat
    rw [Rat.divInt_mul_right hc0]
  · refine Nat.le_trans ?_ h
    rw [Int.natAbs_mul]
    refine Nat.mul_le_mul_left _ ?_
    rw [hc, Int.natAbs_mul]
    exact Nat.le_mul_of_pos_left _ (by omega)
theorem Gr.zero : Gr 0 0 := ⟨0, by unfold DL.rat; rw [Rat.zero_divInt], by decide⟩
/-! ### points, steps, programs -/
structure StepR where
  goal : List Rat
  feed : Rat
  slow : Rat
  stop : Bool
structure ProgR where
  start : List Rat
  steps : List StepR
def ptD (xs : List Rat) : D := .tup (frs xs)
def stepD (s : StepR) : D := .tup [ptD s.goal, fr s.feed, fr s.slow, .bl s.stop]
def progD (p : ProgR) : D := .tup [ptD p.start, .tup (p.steps.map stepD)]
/-- points on the grid -/
def GrL (b : Nat) (xs : List Rat) : Prop := ∀ x ∈ xs, Gr b x
def stepOk (pt : List Rat) (s : StepR) : Prop := s.goal.length = pt.length ∧ s.goal ≠ pt ∧ GrL (2 ^ 340) s.goal ∧ 0 < s.feed ∧ Sz 300 s.feed ∧ 0 ≤ s.slow ∧ s.slow ≤ s.feed ∧ Sz 340 s.slow
def chainOk : List Rat → List StepR → Prop
  | _, [] => True
  | pt, s :: r => stepOk pt s ∧ chainOk s.goal r
structure OkP (p : ProgR) : Prop where
  axes : 1 ≤ p.start.length ∧ p.start.length ≤ 3
  grid : GrL (2 ^ 340) p.start
  many : 1 ≤ p.steps.length ∧ p.steps.length ≤ 30
  chain : chainOk p.start p.steps
theorem GrL.mono {a b : Nat} {xs : List Rat} (h : GrL a xs) (k : a ≤ b) : GrL b xs := fun x m => (h x m).mono k
theorem chain_snoc {s : StepR} : ∀ {pt : List Rat} {ss : List StepR}, chainOk pt ss → stepOk ((ss.getLast?.map StepR.goal).getD pt) s → chainOk pt (ss ++ [s])
  | _, [], _, h => ⟨h, trivial⟩
  | pt, t :: r, h, k => by
    refine ⟨h.1, chain_snoc h.2 ?_⟩
    cases r with
    | nil => exact k
    | cons u r =>
      rw [List.getLast?_cons_cons] at k
      cases hh : (u :: r).getLast? with
      | none => simp at hh
      | some z =>
        rw [hh] at k
        exact k
/-! ### subscripts whose answer is known -/
theorem mAt {xs : List D} {j : Int} {d : D} {Q : D → Prop} (h : atI xs j = some d) (q : Q d) : (match L2.atI xs j with
    | some d => Q d
    | none => False) := by
  rw [h]
  exact q
theorem mIx {n j : Nat} {i : Int} {R : Nat → Prop} (h : ixN n i = some j) (q : R j) : (match L2.ixN n i with
    | some n => R n
    | none => False) := by
  rw [h]
  exact q
theorem ixN_of {n j : Nat} (h : j < n) : ixN n (j : Int) = some j := by
  unfold ixN
  rw [if_pos (by omega), if_pos (by omega)]
  simp
theorem at_frs {xs : List Rat} {k : Nat} (h : k < xs.length) : atI (frs xs) (k : Int) = some (fr xs[k]) := atI_nat (by
  unfold frs
  rw [List.getElem?_map, List.getElem?_eq_getElem h]
  rfl)
theorem peq_pt (xs ys : List Rat) : peqL (frs xs) (frs ys) = decide (xs = ys) := by
  induction xs generalizing ys with
  | nil => cases ys <;> simp [frs, peqL]
  | cons x xs ih =>
    cases ys with
    | nil => simp [frs, peqL]
    | cons y ys =>
      have e : peqL (frs (x :: xs)) (frs (y :: ys)) = (peq (fr x) (fr y) && peqL (frs xs) (frs ys)) := by simp [frs, peqL]
      rw [e, ih, peq_fr]
      by_cases h1 : x = y <;> by_cases h2 : xs = ys <;> simp [h1, h2]
theorem peq_ptD (xs ys : List Rat) : peq (ptD xs) (ptD ys) = decide (xs = ys) := by
  unfold ptD
  simp only [peq]
  exact peq_pt xs ys
theorem plain_pt (n : Nat) (xs : List Rat) : plain (n + 3) (ptD xs) = true := by
  unfold ptD
  simp only [plain]
  exact plainL_frs n xs
theorem frs_set {xs : List Rat} {k : Nat} {q : Rat} : (frs xs).set k (fr q) = frs (xs.set k q) := by
  unfold frs
  rw [List.map_set]
theorem frs_app (xs ys : List Rat) : frs (xs ++ ys) = frs xs ++ frs ys := List.map_append
theorem GrL.set {b : Nat} {xs : List Rat} {k : Nat} {q : Rat} (h : GrL b xs) (hq : Gr b q) : GrL b (xs.set k q) := fun x m => by
  rcases List.mem_or_eq_of_mem_set m with h1 | h1
  · exact h x h1
  · rw [h1]
    exact hq
theorem GrL.at {b : Nat} {xs : List Rat} (h : GrL b xs) {k : Nat} (hk : k < xs.length) : Gr b xs[k] := h _ (List.getElem_mem hk)
theorem one_fr : D.tup [.int 1, .int 1] = fr 1 := rfl
theorem one_gr : Gr D0.natAbs 1 := ⟨D0, by decide +kernel, Nat.le_refl _⟩
theorem rat_pos {a b : Int} (ha : 0 < a) (hb : 0 < b) : 0 < rat a b := by
  refine num_pos ?_
  unfold rat
  rw [Rat.num_divInt, Int.sign_eq_one_of_pos hb, Int.one_mul]
  have hg : 0 < Int.gcd b a := by
    rw [Int.gcd_comm]
    exact gcd_pos (by omega)
  exact Int.ediv_pos_of_pos_of_dvd ha (by omega) (Int.gcd_dvd_right ..)
theorem frs_inj : ∀ {xs ys : List Rat}, frs xs = frs ys → xs = ys
  | [], [], _ => rfl
  | [], _ :: _, h => by cases h
  | _ :: _, [], h => by cases h
  | x :: xs, y :: ys, h => by
    have h : fr x :: frs xs = fr y :: frs ys := h
    injection h with h1 h2
    rw [fr_inj h1, frs_inj h2]
/-! ### what programs come to -/
def subL (a b : List Rat) : List Rat := List.zipWith (fun x y => x - y) a b
def gapsFrom : List Rat → List StepR → List (List Rat)
  | _, [] => []
  | pt, s :: r => subL s.goal pt :: gapsFrom s.goal r
def gapsM (p : ProgR) : List (List Rat) := gapsFrom p.start p.steps
def longM (gs : List Rat) : Rat := gs.foldl (fun a g => if a < rabs g then rabs g else a) 0
def marksFrom (a : Rat) : List (List Rat) → List Rat
  | [] => []
  | g :: r => (a + longM g) :: marksFrom (a + longM g) r
def marksM (p : ProgR) : List Rat := 0 :: marksFrom 0 (gapsM p)
def headM (g : List Rat) : List Rat := g.map fun x => x / longM g
def headsM (p : ProgR) : List (List Rat) := (gapsM p).map headM
/-- the points that are passed -/
def trailM (p : ProgR) : List (List Rat) := p.start :: p.steps.map StepR.goal
theorem gaps_len (pt : List Rat) (ss : List StepR) : (gapsFrom pt ss).length = ss.length := by
  induction ss generalizing pt with
  | nil => rfl
  | cons s r ih => rw [gapsFrom, List.length_cons, List.length_cons, ih]
theorem gaps_at : ∀ (pt : List Rat) (ss : List StepR) (k : Nat) (a b : List Rat), (pt :: ss.map StepR.goal)[k]? = some b → (pt :: ss.map StepR.goal)[k + 1]? = some a → (gapsFrom pt ss)[k]? = some (subL a b)
  | pt, [], k, a, b, _, h => by simp at h
  | pt, s :: r, 0, a, b, h1, h2 => by
    have e1 : pt = b := Option.some.inj h1
    have e2 : s.goal = a := Option.some.inj h2
    rw [← e1, ← e2]
    rfl
  | pt, s :: r, k + 1, a, b, h1, h2 => gaps_at s.goal r k a b h1 h2
theorem subL_gr {a b : Nat} {xs ys : List Rat} (h : GrL a xs) (k : GrL b ys) : GrL (a + b) (subL xs ys) := fun x m => by
  obtain ⟨i, hi⟩ := List.getElem?_of_mem m
  unfold subL at hi
  rw [List.getElem?_zipWith] at hi
  cases e1 : xs[i]? with
  | none => rw [e1] at hi; cases hi
  | some u =>
    cases e2 : ys[i]? with
    | none => rw [e1, e2] at hi; cases hi
    | some v =>
      rw [e1, e2] at hi
      have hi : u - v = x := Option.some.inj hi
      rw [← hi]
      exact (h u (List.mem_of_getElem? e1)).sub (k v (List.mem_of_getElem? e2))
theorem subL_len (xs ys : List Rat) : (subL xs ys).length = min xs.length ys.length := by simp [subL]
theorem gaps_gr : ∀ {pt : List Rat} {ss : List StepR}, GrL (2 ^ 340) pt → chainOk pt ss → ∀ g ∈ gapsFrom pt ss, GrL (2 ^ 341) g ∧ g.length = pt.length
  | _, [], _, _, _, m => nomatch m
  | pt, s :: r, hp, ⟨h1, h2⟩, g, m => by
    rcases List.mem_cons.mp m with e | m
    · rw [e]
      refine ⟨(subL_gr h1.2.2.1 hp).mono (by decide), ?_⟩
      rw [subL_len, h1.1]
      omega
    · have := gaps_gr h1.2.2.1 h2 g m
      rw [h1.1] at this
      exact this
/-- the greatest is none of them less -/
theorem long_step (gs : List Rat) : ∀ a : Rat, 0 ≤ a → a ≤ gs.foldl (fun a g => if a < rabs g then rabs g else a) a ∧ ∀ g ∈ gs, rabs g ≤ gs.foldl (fun a g => if a < rabs g then rabs g else a) a := by
  induction gs with
  | nil => exact fun a _ => ⟨by show a ≤ a; grind, fun g m => nomatch m⟩
  | cons g r ih =>
    intro a ha
    have hb : a ≤ (if a < rabs g then rabs g else a) ∧ rabs g ≤ (if a < rabs g then rabs g else a) := by
      split
      · rename_i h
        exact ⟨by grind, by grind⟩
      · rename_i h
        exact ⟨by grind, by grind⟩
    obtain ⟨i1, i2⟩ := ih _ (by grind : 0 ≤ (if a < rabs g then rabs g else a))
    refine ⟨by rw [List.foldl_cons]; grind, fun x m => ?_⟩
    rw [List.foldl_cons]
    rcases List.mem_cons.mp m with e | m
    · rw [e]
      grind
    · exact i2 x m
theorem rabs_nonneg (q : Rat) : 0 ≤ rabs q := by
  unfold rabs
  split <;> grind
theorem rabs_pos {q : Rat} (h : q ≠ 0) : 0 < rabs q := by
  unfold rabs
  split <;> grind
theorem long_ge {gs : List Rat} {g : Rat} (h : g ∈ gs) : rabs g ≤ longM gs := (long_step gs 0 (by grind)).2 g h
theorem long_nonneg (gs : List Rat) : 0 ≤ longM gs := (long_step gs 0 (by grind)).1
theorem long_prop {P : Rat → Prop} (gs : List Rat) (h0 : P 0) (h : ∀ g ∈ gs, P (rabs g)) : P (longM gs) := by
  unfold longM
  have key : ∀ (gs : List Rat) (a : Rat), P a → (∀ g ∈ gs, P (rabs g)) → P (gs.foldl (fun a g => if a < rabs g then rabs g else a) a) := fun gs => by
    induction gs with
    | nil => exact fun a h _ => h
    | cons g r ih =>
      intro a ha hr
      rw [List.foldl_cons]
      refine ih _ ?_ fun x m => hr x (List.mem_cons_of_mem _ m)
      split
      · exact hr g List.mem_cons_self
      · exact ha
  exact key gs 0 h0 h
theorem subL_ne {xs ys : List Rat} (hl : xs.length = ys.length) (h : xs ≠ ys) : ∃ g ∈ subL xs ys, g ≠ 0 := by
  induction xs generalizing ys with
  | nil =>
    cases ys with
    | nil => exact absurd rfl h
    | cons _ _ => cases hl
  | cons x xs ih =>
    cases ys with
    | nil => cases hl
    | cons y ys =>
      by_cases e : x = y
      · subst e
        obtain ⟨g, m, hg⟩ := ih (by simpa using hl) (fun z => h (by rw [z]))
        exact ⟨g, List.mem_cons_of_mem _ m, hg⟩
      · exact ⟨x - y, List.mem_cons_self, by grind⟩
theorem gaps_pos : ∀ {pt : List Rat} {ss : List StepR}, chainOk pt ss → ∀ g ∈ gapsFrom pt ss, 0 < longM g
  | _, [], _, _, m => nomatch m
  | pt, s :: r, ⟨h1, h2⟩, g, m => by
    rcases List.mem_cons.mp m with e | m
    · rw [e]
      obtain ⟨x, hx, h0⟩ := subL_ne h1.1 h1.2.1
      have := long_ge hx
      have := rabs_pos h0
      grind
    · exact gaps_pos h2 g m
/-- pair by pair -/
theorem all2_pair {f : Rat → Rat → Rat} : ∀ {a b : List Rat} {ys : List D}, All2 (fun x y => ∀ p g : Rat, x = .tup [fr p, fr g] → y = fr (f p g)) (pairD (frs a) (frs b)) ys → ys = frs (List.zipWith f a b)
  | [], b, ys, h => by
    change All2 _ [] ys at h
    cases h
    simp [frs]
  | x :: a, [], ys, h => by
    change All2 _ [] ys at h
    cases h
    simp [frs]
  | x :: a, y :: b, ys, h => by
    have h : All2 _ (.tup [fr x, fr y] :: pairD (frs a) (frs b)) ys := h
    cases h with
    | cons r1 r2 =>
      rw [r1 x y rfl, all2_pair r2]
      rfl
/-- one by one -/
theorem all2_one {f : Rat → D} : ∀ {a : List Rat} {ys : List D}, All2 (fun x y => ∀ p : Rat, x = fr p → y = f p) (frs a) ys → ys = a.map f
  | [], ys, h => by
    cases h
    rfl
  | x :: a, ys, h => by
    have h : All2 _ (fr x :: frs a) ys := h
    cases h with
    | cons r1 r2 =>
      rw [r1 x rfl, all2_one r2]
      rfl
theorem all2_any {α : Type} {g : α → D} {f : α → D} : ∀ {a : List α} {ys : List D}, All2 (fun x y => ∀ p : α, p ∈ a → x = g p → y = f p) (a.map g) ys → ys = a.map f := fun {a} => by
  have key : ∀ (b a : List α), (∀ x ∈ a, x ∈ b) → ∀ ys : List D, All2 (fun x y => ∀ p : α, p ∈ b → x = g p → y = f p) (a.map g) ys → ys = a.map f := fun b a => by
    induction a with
    | nil =>
      intro _ ys h
      cases h
      rfl
    | cons x a ih =>
      intro hb ys h
      have h : All2 _ (g x :: a.map g) ys := h
      cases h with
      | cons r1 r2 =>
        rw [r1 x (hb x List.mem_cons_self) rfl, ih (fun y m => hb y (List.mem_cons_of_mem _ m)) _ r2]
        rfl
  exact fun {ys} h => key a a (fun _ m => m) ys h
theorem all2_range {R : D → D → Prop} {n : Nat} {ys : List D} (h : All2 R (rangeD 0 n) ys) (f : Nat → D) (k : ∀ (i : Nat) (y : D), i < n → R (.int (0 + i)) y → y = f i) : ys = (List.range n).map f := by
  unfold rangeD at h
  have key : ∀ (xs : List Nat) (ys : List D), (∀ i ∈ xs, i < n) → All2 R (xs.map fun (k : Nat) => D.int (0 + (k : Int))) ys → ys = xs.map f := fun xs => by
    induction xs with
    | nil =>
      intro ys _ h
      cases h
      rfl
    | cons i xs ih =>
      intro ys hx h
      have h : All2 R (D.int (0 + (i : Int)) :: xs.map fun (k : Nat) => D.int (0 + (k : Int))) ys := h
      cases h with
      | cons r1 r2 =>
        rw [k i _ (hx i List.mem_cons_self) r1, ih _ (fun j m => hx j (List.mem_cons_of_mem _ m)) r2]
        rfl
  exact key _ _ (fun i m => List.mem_range.mp m) h
theorem trail_len (p : ProgR) : (trailM p).length = p.steps.length + 1 := by simp [trailM]
theorem trail_gr {p : ProgR} (h : OkP p) : ∀ g ∈ trailM p, GrL (2 ^ 340) g ∧ g.length = p.start.length := by
  intro g m
  rcases List.mem_cons.mp m with e | m
  · rw [e]
    exact ⟨h.grid, rfl⟩
  · have key : ∀ (pt : List Rat) (ss : List StepR), chainOk pt ss → ∀ g ∈ ss.map StepR.goal, GrL (2 ^ 340) g ∧ g.length = pt.length := fun pt ss => by
      induction ss generalizing pt with
      | nil => exact fun _ g m => nomatch m
      | cons s r ih =>
        intro hc g m
        rcases List.mem_cons.mp m with e | m
        · rw [e]
          exact ⟨hc.1.2.2.1, hc.1.1⟩
        · have := ih _ hc.2 g m
          rw [hc.1.1] at this
          exact this
    exact key _ _ h.chain g m
/-! ### programs judged -/
def stepFault (pt : List Rat) : D → D
  | .tup [goal, feed, slow, stop] =>
    if isPoint pt.length goal = false ∨ peq goal (ptD pt) = true then .tup [.int 0]
    else if isAbove feed = false then .tup [.int 1]
    else if isAmount slow = false ∨ unfr feed < unfr slow then .tup [.int 2]
    else if isBool stop = true then .non else .tup [.int 3]
  | _ => .tup []
def goalOf : D → List Rat
  | .tup (.tup xs :: _) => xs.map unfr
  | _ => []
def faultGo (pt : List Rat) : Nat → List D → D
  | _, [] => .non
  | k, s :: r => match stepFault pt s with
    | .tup xs => .tup ([.int 1, .int k] ++ xs)
    | _ => faultGo (goalOf s) (k + 1) r
def stepsFault (pt : List Rat) : D → D
  | .tup ss => if 1 ≤ ss.length ∧ ss.length ≤ 30 then faultGo pt 0 ss else .tup [.int 1]
  | _ => .tup [.int 1]
def progFault : D → D
  | .tup [.tup ps, steps] => if 1 ≤ ps.length ∧ ps.length ≤ 3 ∧ ps.all isFr = true then stepsFault (ps.map unfr) steps else .tup [.int 0]
  | .tup [_, _] => .tup [.int 0]
  | _ => .tup []
theorem all_fr (xs : List Rat) : (frs xs).all isFr = true := by
  rw [List.all_eq_true]
  intro x m
  obtain ⟨q, _, rfl⟩ := List.mem_map.mp m
  exact isFr_fr q
theorem isPoint_pt (xs : List Rat) : isPoint xs.length (ptD xs) = true := by
  unfold isPoint ptD
  simp only [Bool.and_eq_true, decide_eq_true_eq]
  exact ⟨by rw [frs_len], all_fr xs⟩
theorem stepFault_ok {pt : List Rat} {s : StepR} (h : stepOk pt s) : stepFault pt (stepD s) = .non := by
  obtain ⟨h1, h2, _, h4, _, h6, h7, _⟩ := h
  have e1 : isPoint pt.length (ptD s.goal) = true := by
    rw [← h1]
    exact isPoint_pt _
  have e2 : peq (ptD s.goal) (ptD pt) = false := by
    rw [peq_ptD]
    exact decide_eq_false h2
  have e3 : isAbove (fr s.feed) = true := by
    unfold isAbove
    rw [isFr_fr, unfr_fr, decide_eq_true h4]
    rfl
  have e4 : isAmount (fr s.slow) = true := by
    unfold isAmount
    rw [isFr_fr, unfr_fr, decide_eq_false (by grind)]
    rfl
  have e5 : ¬ unfr (fr s.feed) < unfr (fr s.slow) := by
    rw [unfr_fr, unfr_fr]
    grind
  unfold stepFault stepD
  simp [e1, e2, e3, e4, e5, isBool]
theorem goalOf_step (s : StepR) : goalOf (stepD s) = s.goal := by
  unfold goalOf stepD ptD
  exact unfr_frs s.goal
theorem faultGo_ok : ∀ {pt : List Rat} {ss : List StepR} (k : Nat), chainOk pt ss → faultGo pt k (ss.map stepD) = .non
  | _, [], _, _ => rfl
  | pt, s :: r, k, ⟨h1, h2⟩ => by
    rw [List.map_cons, faultGo, stepFault_ok h1, goalOf_step]
    exact faultGo_ok (k + 1) h2
theorem progFault_ok {p : ProgR} (h : OkP p) : progFault (progD p) = .non := by
  unfold progFault progD ptD stepsFault
  simp only [frs_len, List.length_map]
  rw [if_pos ⟨h.axes.1, h.axes.2, all_fr _⟩, if_pos h.many, unfr_frs]
  exact faultGo_ok 0 h.chain
def enumFrom (j : Int) : List D → List D
  | [] => []
  | x :: xs => .tup [.int j, x] :: enumFrom (j + 1) xs
theorem rangeD_succ (lo : Int) (n : Nat) : rangeD lo (n + 1) = .int lo :: rangeD (lo + 1) n := by
  unfold rangeD
  rw [List.range_succ_eq_map, List.map_cons, List.map_map]
  congr 1
  · show D.int (lo + 0) = _
    rw [Int.add_zero]
  · apply List.map_congr_left
    intro i _
    show D.int (lo + ((i + 1 : Nat) : Int)) = .int (lo + 1 + (i : Int))
    congr 1
    omega
theorem enum_from (xs : List D) : ∀ j : Int, pairD (rangeD j xs.length) xs = enumFrom j xs := by
  induction xs with
  | nil => intro j; simp [pairD, enumFrom]
  | cons x xs ih =>
    intro j
    rw [List.length_cons, rangeD_succ]
    show D.tup [.int j, x] :: pairD (rangeD (j + 1) xs.length) xs = _
    rw [ih]
    rfl
theorem enumD_from (xs : List D) : enumD xs = enumFrom 0 xs := enum_from xs 0
theorem stepFault_cases (pt : List Rat) (s : D) : stepFault pt s = .non ∨ ∃ xs, stepFault pt s = .tup xs ∧ xs.length ≤ 1 := by
  unfold stepFault
  split
  · split
    · exact .inr ⟨_, rfl, by decide⟩
    · split
      · exact .inr ⟨_, rfl, by decide⟩
      · split
        · exact .inr ⟨_, rfl, by decide⟩
        · split
          · exact .inl rfl
          · exact .inr ⟨_, rfl, by decide⟩
  · exact .inr ⟨_, rfl, by decide⟩
theorem isPoint_el {n : Int} {d : D} (h : isPoint n d = true) : ∃ xs : List Rat, d = ptD xs := by
  unfold isPoint at h
  split at h
  · rename_i xs
    simp only [Bool.and_eq_true, List.all_eq_true] at h
    obtain ⟨qs, e⟩ := frs_of fun x m => isFr_el (h.2 x m)
    exact ⟨qs, by rw [e]; rfl⟩
  · cases h
theorem stepFault_non {pt : List Rat} {s : D} (h : stepFault pt s = .non) : ∃ (g : List Rat) (r : List D), s = .tup (ptD g :: r) ∧ goalOf s = g := by
  unfold stepFault at h
  split at h
  · rename_i goal feed slow stop
    split at h
    · cases h
    · rename_i z
      rcases bcases (isPoint pt.length goal) with e | e
      · obtain ⟨g, rfl⟩ := isPoint_el e
        exact ⟨g, _, rfl, unfr_frs g⟩
      · exact absurd (Or.inl e) z
  · cases h
theorem progFault_len {ys : List D} (h : ys.length ≠ 2) : progFault (.tup ys) = .tup [] := by
  cases ys with
  | nil => rfl
  | cons a r =>
    cases r with
    | nil => cases a <;> rfl
    | cons b t =>
      cases t with
      | nil => exact absurd rfl h
      | cons c u => cases a <;> rfl
theorem smlL_of {xs : List D} (h : ∀ x ∈ xs, sml x) : smlL xs := by
  induction xs with
  | nil => simp [smlL]
  | cons x xs ih =>
    simp only [smlL]
    exact ⟨h x List.mem_cons_self, ih fun y m => h y (List.mem_cons_of_mem _ m)⟩
theorem okD_of {xs : List D} (hl : xs.length ≤ 1000) (h : ∀ x ∈ xs, short 39 x = true ∧ sml x) : okD (.tup xs) := by
  refine ⟨?_, ?_⟩
  · simp only [short, Bool.and_eq_true, decide_eq_true_eq]
    exact ⟨hl, shortL_of fun x m => (h x m).1⟩
  · simp only [sml]
    exact smlL_of fun x m => (h x m).2
theorem short_pt (n : Nat) {xs : List Rat} (hl : xs.length ≤ 1000) : short (n + 3) (ptD xs) = true := by
  unfold ptD
  simp only [short, Bool.and_eq_true, decide_eq_true_eq]
  refine ⟨by rw [frs_len]; exact hl, shortL_of fun x m => ?_⟩
  obtain ⟨q, _, rfl⟩ := List.mem_map.mp m
  exact short_fr n q
theorem sml_fr {n : Nat} {q : Rat} (h : Sz n q) (k : n ≤ 4000) : sml (fr q) := (okD_fr h k).2
theorem sml_pt {xs : List Rat} (h : GrL (2 ^ 340) xs) : sml (ptD xs) := by
  unfold ptD
  simp only [sml]
  refine smlL_of fun x m => ?_
  obtain ⟨q, mq, rfl⟩ := List.mem_map.mp m
  exact sml_fr ((h q mq).sz (by decide)) (by decide)
theorem ok_steps : ∀ {pt : List Rat} {ss : List StepR}, pt.length ≤ 3 → chainOk pt ss → ∀ s ∈ ss, s.goal.length ≤ 3 ∧ GrL (2 ^ 340) s.goal ∧ Sz 300 s.feed ∧ Sz 340 s.slow
  | _, [], _, _, _, m => nomatch m
  | pt, t :: r, hl, ⟨h1, h2⟩, s, m => by
    rcases List.mem_cons.mp m with e | m
    · rw [e]
      exact ⟨by rw [h1.1]; exact hl, h1.2.2.1, h1.2.2.2.2.1, h1.2.2.2.2.2.2.2⟩
    · exact ok_steps (by rw [h1.1]; exact hl) h2 s m
theorem okD_prog {p : ProgR} (h : OkP p) : okD (progD p) := by
  have hm := h.many
  have ha := h.axes
  refine okD_of (by show 2 ≤ 1000; decide) fun x m => ?_
  have e : x = ptD p.start ∨ x = .tup (p.steps.map stepD) := by simpa using m
  rcases e with rfl | rfl
  · exact ⟨short_pt 36 (by omega), sml_pt h.grid⟩
  · have key : ∀ s ∈ p.steps, short 38 (stepD s) = true ∧ sml (stepD s) := fun s ms => by
      obtain ⟨h1, h2, h3, h4⟩ := ok_steps ha.2 h.chain s ms
      unfold stepD
      simp only [short, shortL, sml, smlL, Bool.and_eq_true, decide_eq_true_eq, List.length_cons, List.length_nil]
      exact ⟨⟨by decide, short_pt 34 (by omega), short_fr 35 _, short_fr 35 _, trivial, trivial⟩, sml_pt h2, sml_fr h3 (by decide), sml_fr h4 (by decide), trivial, trivial⟩
    refine ⟨?_, ?_⟩
    · simp only [short, Bool.and_eq_true, decide_eq_true_eq, List.length_map]
      refine ⟨by omega, shortL_of fun x m => ?_⟩
      obtain ⟨s, ms, rfl⟩ := List.mem_map.mp m
      exact (key s ms).1
    · simp only [sml]
      refine smlL_of fun x m => ?_
      obtain ⟨s, ms, rfl⟩ := List.mem_map.mp m
      exact (key s ms).2
/-! ### repr of programs -/
mutual
/-- all ints below 2 ^ 400 -/
def tiny4 : D → Prop
  | .int i => i.natAbs < 2 ^ 400
  | .tup xs => tiny4L xs
  | .lst xs => tiny4L xs
  | _ => True
def tiny4L : List D → Prop
  | [] => True
  | x :: xs => tiny4 x ∧ tiny4L xs
end
mutual
theorem show4 : ∀ (n : Nat) (d : D), short n d = true → tiny4 d → (toPy d).showable = true
  | 0, _, h, _ => by simp [short] at h
  | n + 1, .ins _ _ _, h, _ => by simp [short] at h
  | n + 1, .non, _, _ => by simp [toPy, PyData.showable]
  | n + 1, .bl _, _, _ => by simp [toPy, PyData.showable]
  | n + 1, .str _, _, _ => by simp [toPy, PyData.showable]
  | n + 1, .int i, _, h => by
    simp only [tiny4] at h
    simp only [toPy, PyData.showable, decide_eq_true_eq]
    exact log_lt h (by decide)
  | n + 1, .tup xs, h, k => by
    simp only [short, Bool.and_eq_true] at h
    simp only [tiny4] at k
    simp only [toPy, PyData.showable]
    exact showL n xs h.2 k
  | n + 1, .lst xs, h, k => by
    simp only [short, Bool.and_eq_true] at h
    simp only [tiny4] at k
    simp only [toPy, PyData.showable]
    exact showL n xs h.2 k
theorem showL : ∀ (n : Nat) (ds : List D), shortL n ds = true → tiny4L ds → PyData.showableAll (toPyL ds) = true
  | _, [], _, _ => by simp [toPyL, PyData.showableAll]
  | n, x :: xs, h, k => by
    simp only [shortL, Bool.and_eq_true] at h
    simp only [tiny4L] at k
    simp only [toPyL, PyData.showableAll, Bool.and_eq_true]
    exact ⟨show4 n x h.1 k.1, showL n xs h.2 k.2⟩
end
theorem tiny4L_of {xs : List D} (h : ∀ x ∈ xs, tiny4 x) : tiny4L xs := by
  induction xs with
  | nil => simp [tiny4L]
  | cons x xs ih =>
    simp only [tiny4L]
    exact ⟨h x List.mem_cons_self, ih fun y m => h y (List.mem_cons_of_mem _ m)⟩
theorem tiny4_fr {n : Nat} {q : Rat} (h : Sz n q) (k : n ≤ 400) : tiny4 (fr q) := by
  have h := h.mono k
  simp only [fr, tiny4, tiny4L]
  exact ⟨h.1, by have := h.2; omega, trivial⟩
theorem tiny4_pt {xs : List Rat} (h : GrL (2 ^ 340) xs) : tiny4 (ptD xs) := by
  unfold ptD
  simp only [tiny4]
  refine tiny4L_of fun x m => ?_
  obtain ⟨q, mq, rfl⟩ := List.mem_map.mp m
  exact tiny4_fr ((h q mq).sz (by decide)) (by decide)
theorem costL_le {c : Nat} {xs : List D} (h : ∀ x ∈ xs, cost x ≤ c) : costL xs ≤ xs.length * (c + 2) := by
  induction xs with
  | nil => simp [costL]
  | cons x xs ih =>
    have h1 := h x List.mem_cons_self
    have h2 := ih fun y m => h y (List.mem_cons_of_mem _ m)
    simp only [costL, List.length_cons, Nat.succ_mul]
    omega
theorem cost_fr {n : Nat} {q : Rat} (h : Sz n q) (n1 : 1 ≤ n) (k : n ≤ 400) : cost (fr q) ≤ 820 := by
  have h := h.mono k
  have a := log_lt (m := 401) h.1 (by decide)
  have b := log_lt (m := 401) h.den (by decide)
  simp only [fr, cost, costL]
  omega
theorem cost_pt {xs : List Rat} (hl : xs.length ≤ 3) (h : GrL (2 ^ 340) xs) : cost (ptD xs) ≤ 2500 := by
  unfold ptD
  simp only [cost]
  have := costL_le (c := 820) (xs := frs xs) fun x m => by
    obtain ⟨q, mq, rfl⟩ := List.mem_map.mp m
    exact cost_fr ((h q mq).sz (by decide)) (by decide) (by decide)
  rw [frs_len] at this
  have : xs.length * 822 ≤ 3 * 822 := Nat.mul_le_mul_right _ hl
  omega
theorem tiny4_prog {p : ProgR} (h : OkP p) : tiny4 (progD p) ∧ cost (progD p) ≤ 10000000 := by
  have hm := h.many
  have ha := h.axes
  have hs := ok_steps ha.2 h.chain
  have c0 := cost_pt ha.2 h.grid
  have cs : ∀ x ∈ p.steps.map stepD, cost x ≤ 5000 := fun x m => by
    obtain ⟨s, ms, rfl⟩ := List.mem_map.mp m
    obtain ⟨h1, h2, h3, h4⟩ := hs s ms
    have a := cost_pt h1 h2
    have b := cost_fr h3 (by decide) (by decide)
    have c := cost_fr h4 (by decide) (by decide)
    simp only [stepD, cost, costL]
    omega
  have cl := costL_le cs
  rw [List.length_map] at cl
  have : p.steps.length * 5002 ≤ 30 * 5002 := Nat.mul_le_mul_right _ hm.2
  refine ⟨?_, ?_⟩
  · unfold progD
    simp only [tiny4, tiny4L]
    refine ⟨tiny4_pt h.grid, tiny4L_of fun x m => ?_, trivial⟩
    obtain ⟨s, ms, rfl⟩ := List.mem_map.mp m
    obtain ⟨h1, h2, h3, h4⟩ := hs s ms
    simp only [stepD, tiny4, tiny4L]
    exact ⟨tiny4_pt h2, tiny4_fr h3 (by decide), tiny4_fr h4 (by decide), trivial, trivial⟩
  · simp only [progD, cost, costL]
    omega
theorem repr_prog {p : ProgR} (h : OkP p) {Q : D → Prop} (q : Q (.str (reprD (progD p)))) : bRepr [progD p] Q := by
  have ok := okD_prog h
  obtain ⟨t, c⟩ := tiny4_prog h
  exact ⟨ok.plain, show4 40 _ ok.1 t, Nat.le_trans (shown_cost 40 _ ok.plain) c, q⟩
/-! ### parts of the greatest -/
theorem div_lt_div {a b c : Rat} (h : 0 < c) : a / c < b / c ↔ a < b := by
  rw [Rat.div_def, Rat.div_def]
  exact Rat.mul_lt_mul_right (Rat.inv_pos.mpr h)
theorem rabs_div {g c : Rat} (h : 0 < c) : rabs (g / c) = rabs g / c := by
  have z : (0 : Rat) / c = 0 := by grind
  have e : g / c < 0 ↔ g < 0 := by
    rw [← div_lt_div (a := g) (b := 0) h, z]
  unfold rabs
  by_cases k : g < 0
  · rw [if_pos k, if_pos (e.mpr k)]
    grind
  · rw [if_neg k, if_neg (fun q => k (e.mp q))]
theorem long_div {c : Rat} (h : 0 < c) (gs : List Rat) : longM (gs.map fun x => x / c) = longM gs / c := by
  have key : ∀ (gs : List Rat) (a : Rat), (gs.map fun x => x / c).foldl (fun a g => if a < rabs g then rabs g else a) (a / c) = gs.foldl (fun a g => if a < rabs g then rabs g else a) a / c := fun gs => by
    induction gs with
    | nil => exact fun _ => rfl
    | cons g r ih =>
      intro a
      rw [List.map_cons, List.foldl_cons, List.foldl_cons, rabs_div h, ← ih]
      congr 1
      by_cases k : a < rabs g
      · rw [if_pos k, if_pos ((div_lt_div h).mpr k)]
      · rw [if_neg k, if_neg (fun q => k ((div_lt_div h).mp q))]
  have z : (0 : Rat) / c = 0 := by grind
  have := key gs 0
  rw [z] at this
  exact this
theorem long_head {g : List Rat} (h : 0 < longM g) : longM (headM g) = 1 := by
  unfold headM
  rw [long_div h]
  grind
end DL
set_option linter.all false
set_option autoImplicit false
set_option maxHeartbeats 4000000
set_option maxRecDepth 100000
/-! Errors of the program that carry a field: __init__ says super().__init__('..'), then keeps the field. -/
namespace DL
open PySem PySem.Spec PySem.W PySem.Calls PyProof.Rows PySem.HandSPX
def xArgs (f : Str) (p1 p2 : Pos) : Arguments := { posonlyargs := [], args := [{ arg := "self", annotation := none, pos := p1 }, { arg := f, annotation := none, pos := p2 }], vararg := none, kwonlyargs := [], kw_defaults := [], kwarg := none, defaults := [] }
def xBody (f t : Str) (j : Nat) (p0 p1 p2 p3 p4 p5 q1 q2 q3 q4 : Pos) : List Stmt :=
  [.Expr (.Call (.Attribute (.Call (.Name "super" p0) [] [] p1) "__init__" p2) [.Constant (.str t) j p3] [] p4) p5, .Assign [.Attribute (.Name "self" q1) f q2] (.Name f q3) q4]
def xScope (f : Str) : Scope := { kind := .function, names := [(PySem.Str.ofString "self", .local), (f, .local), (PySem.Str.ofString "__class__", .free), (PySem.Str.ofString "super", .globalImplicit)], isGenerator := false, isCoroutine := false, more := [] }
/-- the names of such fields -/
def FName (f : Str) : Prop := f = "place" ∨ f = "index" ∨ f = "count"
/-- what the written part says of such a class, at C, and of its __init__, at fI -/
structure XcTxt (P : Program) (K : Frag) (mg : Str → Option Value) (nm f : Str) (C fI : Addr) : Prop where
  gC : mg nm = some (.ref C)
  fn : FName f
  cls : ∃ n q N bs bm sn sub ab col dd k0 k1 k2 k3 k5, K.lookup C = some (excClassObj n q C N bs bm true sn sub ab col dd k0 k1 k2 k3 k5 "ValueError.__new__") ∧ refsVE bm = true
  sa : findIn K (.ref C) "__setattr__" = some (some (.builtin "object.__setattr__"))
  ga : findIn K (.ref C) "__getattribute__" = some (some (.builtin "BaseException.__getattribute__"))
  gg : findIn K (.ref C) "__getattr__" = some none
  noN : findIn K (.ref C) f = some none
  iC : findIn K (.ref C) "__init__" = some (some (.ref fI))
  tC : typeIn K (.ref fI) = some (.type "function")
  kC : keepIn K (.ref C) = true
  exC : subIn K (.ref C) (.type "BaseException") = some true
  veC : subIn K (.ref C) (.type "ValueError") = some true
  tyC : typeIn K (.ref C) = some (.type "type")
  hdC : hasDictIn K C = true
  sub : mroIn K C (.ref C) = some true
  sup : nsIn K mainGlobals "super" = some none
  any : nsIn K cStatics "thirdparty.any" = some none
  up : ks_superIn K C C "__init__" = some (some (.builtin "ValueError.__init__"))
  init : excInitIn K C [.type "ValueError", .type "Exception", .type "BaseException", .type "object"] "ValueError.__new__" = true
  top : (P.main.scope.names.lookup ("super" : Str)).isSome = false
  txt : ∃ (q t : Str) (j : Nat) (p1 p2 q0 q1 q2 q3 q4 q5 r1 r2 r3 r4 : Pos) (oc doc pm ct ccl cl : Value) (od an cdd cld : Option Addr) (osl ccs csl : Array (Option Value)) (cda cc : Addr) (vs : Array Value) (file : Str) (tf : Tok),
    K.lookup fI = some ⟨oc, od, .func (ksFn "__init__" q (xArgs f p1 p2) (xBody f t j q0 q1 q2 q3 q4 q5 r1 r2 r3 r4) (xScope f) .none .none doc pm an (.ref cda) ct cc), osl⟩ ∧ codeIn K (.ref cda) q = true ∧
    K.lookup cda = some ⟨ccl, cdd, .fields vs, ccs⟩ ∧ vs[2]? = some (.str file tf) ∧ ((P.main.file : Str) == file) = true ∧ (q2.endLine == q4.line) = true ∧ K.lookup cc = some ⟨cl, cld, .cell (some (.ref C)), csl⟩
/-- what __init__ leaves of a fresh exception at x -/
structure XcEnd (h h' : Heap) (x C dx : Addr) (f : Str) (v : Value) : Prop where
  keep : ∀ b o, b ≠ x → h.get? b = some o → h'.get? b = some o
  obj : ∃ t1 : Addr, h'.get? x = some { cls := .ref C, dict := some dx, data := .fields #[.ref t1, .none, .none, .none, .bool false, .none] }
  big : h.objs.size ≤ dx
  ne : dx ≠ x
  ns : h'.Ns1 dx (fun y => if y = f then some v else none)
/-- a made one -/
structure XcMade (h h' : Heap) (e C d : Addr) (f : Str) (v : Value) : Prop where
  keep : ∀ b o, h.get? b = some o → h'.get? b = some o
  new : h.objs.size ≤ e
  obj : ∃ oe vs, h'.get? e = some oe ∧ oe.cls = .ref C ∧ oe.dict = some d ∧ oe.data = .fields vs ∧ vs[1]? = some .none
  big : h.objs.size ≤ d
  ne : d ≠ e
  ns : h'.Ns1 d (fun y => if y = f then some v else none)
section
variable {P : Program} {w : World} {A : Around} {E : Value → Shared → Prop} {R : Result → Shared → Prop} {s : Shared} {K : Frag} {mg : Str → Option Value} {base : Heap} {nm f : Str} {C fI : Addr}
theorem xc_super {A : Around} {E : Value → Shared → Prop} (T : XcTxt P K mg nm f C fI) {h : Heap} {g : Array GenState} {d : PySem.Drawn} {t : Nat} {os : OsState} {so x t0 : Addr} {pos : Pos} {env : PySem.Env} {pl : Sem Bool} {Q : Value → Shared → Prop} {tx : Str} {j : Nat} {p3 : Pos} (X : K.In h)
    (hso : h.get? so = some (ks_superObj C x C)) (hx : h.get? x = some (excO C t0))
    (hq : ∀ h' tk t1, (∀ b o, b ≠ x → h.get? b = some o → h'.get? b = some o) → h'.get? x = some (excO C t1) → h.objs.size ≤ h'.objs.size → Q .none ⟨h', g, d, tk, os⟩) :
    wpAny (model P w) A (getMethod (.ref so) "__init__" pl) (fun fx s₂ => wpAny (model P w) A (callWith pos fx.1 fx.2 (backTo pos (starEach [.Constant (.str tx) j p3] env)) []) Q E s₂) E ⟨h, g, d, t, os⟩ := by
  have I : InstAt h x (excO C t0) C none := ⟨hx, rfl, rfl, trivial⟩
  have hI : Looks (model P w) h (isInstance (.ref x) (.type "ValueError")) true := I.type.andThen (looks_subIn X T.veC)
  have up := T.up
  cases hc : clsIn K C with
  | none => unfold ks_superIn at up; rw [hc] at up; cases up
  | some cd =>
    unfold ks_superIn at up
    rw [hc] at up
    refine kxs_getMethod kxs_ValueError hso (looks_opaque X T.any) (l₀ := cd.mro) (fun A Q E s k q => wpAny_bind ((looks_clsIn X hc) A _ E s k (wpAny_pure q))) rfl X up hI (ks_ne X I hc) (by decide) ?_
    have hu : (h.push (kxs_mw "ValueError.__init__" x)).get? h.objs.size = some (kxs_mw "ValueError.__init__" x) := Heap.get?_push_at rfl rfl
    have k : ∀ b o, h.get? b = some o → (h.push (kxs_mw "ValueError.__init__" x)).get? b = some o := fun b o e => Heap.get?_push_of_some _ e
    refine kxs_callWith (i := "ValueError.__init__") (x := x) rfl (evalArgs_plain (spliced_cons (wpAny_Constant_str (k := j) (pos := p3) (spliced_nil ⟨hu, ?_⟩))))
    obtain ⟨n1, q1, N1, bs1, bm1, sn1, su1, ab1, co1, dd1, m0, m1, m2, m3, m5, lC, _⟩ := T.cls
    have hC := X _ _ lC
    have FB := PySem.F.excBase_ValueError
    show wpAny _ _ (call (.ref h.objs.size) [.str tx (t + 1)]) _ _ _
    refine wpAny_call (codeAny_of_tree ?_)
    show wpAny _ A.in1 (callAny (.ref h.objs.size) ⟨[.str tx (t + 1)], []⟩) _ _ _
    unfold callAny
    refine wpAny_bind (wpAny_load hu ?_)
    simp only [kxs_mw]
    refine KFB.if_so (by decide) ?_
    refine KFB.if_so (by decide) ?_
    refine wpAny_bind (check_bound_init FB.toExcCallFacts (k _ _ hC) (k _ _ hx) rfl (wpAny_bind (wpAny_pure (wpAny_pure ⟨plainId_quiet FB.init.plain _, codeAny_builtin FB.initEntry ?_⟩))))
    refine exc_init_tree (cls := .ref C) (t0 := t0) (dv := none) (c2 := .none) (c3 := .none) (b4 := .bool false) (k _ _ hx) (by show 1 ≤ sizeLine; rw [sizeLine_eq]; omega) fun h' kp e' et => ?_
    have hlt := Heap.lt_size et
    rw [Heap.size_push] at hlt
    exact hq h' _ _ (fun b o hb e => kp b o hb (k b o e)) e' (Nat.le_of_lt (Nat.lt_of_succ_lt hlt))
theorem xc_init_place (T : XcTxt P K mg nm "place" C fI) (md : L2.Mod K mg base) (bk : ∀ b o, base.get? b = some o → s.heap.get? b = some o) {x t0 : Addr} {v : Value} (hx : s.heap.get? x = some (excO C t0)) (hnx : K.lookup x = none) (hroom : A.depth < recursionLimit)
    (hq : ∀ h' tk dx, XcEnd s.heap h' x C dx "place" v → R (.ok (.ret .none)) { s with heap := h', toks := tk }) :
    codeAny (model P w) A (.call (.ref fI) ⟨[.ref x, v], []⟩) R s := by
  obtain ⟨q, t, j, p1, p2, q0, q1, q2, q3, q4, q5, r1, r2, r3, r4, oc, doc, pm, ct, ccl, cl, od, an, cdd, cld, osl, ccs, csl, cda, cc, vs, file, tf, ho, hcd, hcda, hvs, hfile, hln, hcc⟩ := T.txt
  obtain ⟨n, qn, N, bs, bm, sn, sub, ab, col, dd, k0, k1, k2, k3, k5, hC, hbm⟩ := T.cls
  have hcl : clsIn K C = some { name := n, bases := bs, mro := .ref C :: bm, ns := N, qualname := qn, hasDict := true, slotNames := sn, subclasses := sub, abstract := ab, collection := col, hasDel := false } := by
    unfold clsIn
    rw [hC] <;> rfl
  have X : K.In s.heap := md.kin.keeps bk
  have nC := T.noN
  have hsb := T.sub
  have hsp := T.sup
  have hto := T.top
  refine ks_codeAny_call_defAt (fd := ksFn "__init__" q (xArgs "place" p1 p2) (xBody "place" t j q0 q1 q2 q3 q4 q5 r1 r2 r3 r4) (xScope "place") .none .none doc pm an (.ref cda) ct cc) (body := xBody "place" t j q0 q1 q2 q3 q4 q5 r1 r2 r3 r4) (binds := [("self", .ref x), (("place" : Str), v)]) hroom (X _ _ ho) rfl (md.nolimit.keeps bk) (codeRec_of X hcd) rfl ?hb ?hc ?hl (fun h₁ hns hk₁ => ?_) rfl rfl rfl
  case hb => exact BindsTo.of_eq rfl
  case hc =>
    show ∀ y ∈ (xScope "place").names, y.2 ≠ .cell
    decide
  case hl =>
    intro y m
    rcases List.mem_cons.mp m with rfl | m
    · rfl
    · rcases List.mem_cons.mp m with rfl | m
      · rfl
      · cases m
  have X₁ : K.In h₁ := X.keeps hk₁
  have hx₁ := hk₁ _ _ hx
  obtain ⟨mb, b1, b2⟩ := md.blt
  have kb : ∀ b o, base.get? b = some o → h₁.get? b = some o := fun b o e => hk₁ b o (bk b o e)
  have z1 : (xScope "place").names.lookup ("super" : Str) = some .globalImplicit := by rfl
  have z2 : (xScope "place").names.lookup ("__class__" : Str) = some .free := by rfl
  have z3 : (xScope "place").names.lookup ("self" : Str) = some .local := by rfl
  have z4 : (xScope "place").names.lookup ("place" : Str) = some .local := by rfl
  have z5 : ([(("self" : Str), Value.ref x), (("place" : Str), v)] : List (Str × Value)).reverse.lookup ("self" : Str) = some (.ref x) := by rfl
  have z6 : ([(("self" : Str), Value.ref x), (("place" : Str), v)] : List (Str × Value)).reverse.lookup ("place" : Str) = some v := by rfl
  have z7 : (("place" : Str) == ("__debug__" : Str)) = false := by decide
  obtain ⟨oD, hD1, hD2⟩ : ∃ oD, h₁.get? C = some oD ∧ oD.data = .cls _ := ⟨_, X₁ _ _ hC, rfl⟩
  refine ks_wpAt_execs_cons (ks_wpAt_Expr_any (ks_wpAt_MethodCall (ks_wpAt_super_base (env := ksEnv q (xScope "place") s.heap.objs.size fI (.ref cda) cc) z1 z2 (by decide) rfl (X₁ _ _ ho) rfl rfl rfl (X₁ _ _ hcda) rfl hvs hfile hto ?main) (pl := (do return (← importBound (.Call (.Name "super" q0) [] [] q1) (ksEnv q (xScope "place") s.heap.objs.size fI (.ref cda) cc)).getD true)) ?he))
  case he =>
    rw [arm_eval_Call]
    unfold methodCall methodCallPos
    rw [hln]
    simp only [Bool.or_true, if_true]
    rfl
  refine ks_loadName_global rfl z1 (loadGlobal_builtin (env := ksEnv q (xScope "place") s.heap.objs.size fI (.ref cda) cc) (md.glob.keeps kb) (mg_none_of X₁ (md.glob.keeps kb) hsp) (b1.keeps kb) ((b2 _ (by decide)).trans PyProof.Rows.Boot.super) ⟨rfl, ?_⟩)
  refine wpAny_loadName_free rfl z2 rfl ⟨_, X₁ _ _ hcc, rfl⟩ ?_
  refine wpAny_loadName_local rfl z3 hns z5 ?_
  refine ks_wpAny_isType_cls hD1 hD2 ⟨rfl, ?_⟩
  refine ks_wpAny_call_super hD1 hD2 hx₁ rfl (fun c e => by cases e) (looks_mroIn X₁ hsb) (fun h₂ e₂ k₂ => ?_)
  have X₂ : K.In h₂ := X₁.keeps k₂
  refine wpAny_mono (xc_super T X₂ e₂ (k₂ _ _ hx₁) fun h₃ tk t1 k₃ o₃ l₃ => ?_) (fun _ _ z => z) fun _ _ z => z
  have xL : s.heap.objs.size ≠ x := Nat.ne_of_gt (Heap.lt_size hx)
  have hns₃ : h₃.Ns s.heap.objs.size (fun y => ([(("self" : Str), Value.ref x), (("place" : Str), v)] : List (Str × Value)).reverse.lookup y) := by
    obtain ⟨oL, es, ep, hL, r⟩ := hns
    exact ⟨oL, es, ep, k₃ _ _ xL (k₂ _ _ hL), r⟩
  have X₃ : K.In h₃ := fun a o e => k₃ a o (fun z => by rw [z, hnx] at e; cases e) (X₂ a o e)
  have n₁ := hns.lt
  have n₂ : h₁.objs.size ≤ h₂.objs.size := Nat.le_of_lt (Heap.lt_size e₂)
  refine wpAt_of_wpAny (wpAny_execs_cons (plainObj_wpAny_Assign_Attribute ?_))
  refine wpAny_Name (wpAny_loadName_local (env := ksEnv q (xScope "place") s.heap.objs.size fI (.ref cda) cc) rfl z4 hns₃ z6 ?_) z7
  refine wpAny_Name (wpAny_loadName_local (env := ksEnv q (xScope "place") s.heap.objs.size fI (.ref cda) cc) rfl z3 hns₃ z5 ?_) (by decide)
  refine set_plain X₃ (ox := excO C t1) (od := none) ⟨o₃, rfl, rfl, trivial⟩ T.sa ?_
  refine exc_osa X₃ o₃ hcl (show refsVE (.ref C :: bm) = true from hbm) rfl nC (fun h₄ tk₄ dx k₄ dn dne hx₄ hn₄ => ?_)
  show wpAny _ _ (execs _ _) _ _ _
  refine wpAny_execs_nil (hq h₄ tk₄ dx ⟨fun b o hb e => k₄ b o hb (k₃ b o hb (k₂ b o (hk₁ b o e))), ⟨_, hx₄⟩, ?_, dne, hn₄⟩)
  exact Nat.le_of_lt (Nat.lt_of_lt_of_le n₁ (Nat.le_trans n₂ (Nat.le_trans l₃ dn)))
theorem xc_init_index (T : XcTxt P K mg nm "index" C fI) (md : L2.Mod K mg base) (bk : ∀ b o, base.get? b = some o → s.heap.get? b = some o) {x t0 : Addr} {v : Value} (hx : s.heap.get? x = some (excO C t0)) (hnx : K.lookup x = none) (hroom : A.depth < recursionLimit)
    (hq : ∀ h' tk dx, XcEnd s.heap h' x C dx "index" v → R (.ok (.ret .none)) { s with heap := h', toks := tk }) :
    codeAny (model P w) A (.call (.ref fI) ⟨[.ref x, v], []⟩) R s := by
  obtain ⟨q, t, j, p1, p2, q0, q1, q2, q3, q4, q5, r1, r2, r3, r4, oc, doc, pm, ct, ccl, cl, od, an, cdd, cld, osl, ccs, csl, cda, cc, vs, file, tf, ho, hcd, hcda, hvs, hfile, hln, hcc⟩ := T.txt
  obtain ⟨n, qn, N, bs, bm, sn, sub, ab, col, dd, k0, k1, k2, k3, k5, hC, hbm⟩ := T.cls
  have hcl : clsIn K C = some { name := n, bases := bs, mro := .ref C :: bm, ns := N, qualname := qn, hasDict := true, slotNames := sn, subclasses := sub, abstract := ab, collection := col, hasDel := false } := by
    unfold clsIn
    rw [hC] <;> rfl
  have X : K.In s.heap := md.kin.keeps bk
  have nC := T.noN
  have hsb := T.sub
  have hsp := T.sup
  have hto := T.top
  refine ks_codeAny_call_defAt (fd := ksFn "__init__" q (xArgs "index" p1 p2) (xBody "index" t j q0 q1 q2 q3 q4 q5 r1 r2 r3 r4) (xScope "index") .none .none doc pm an (.ref cda) ct cc) (body := xBody "index" t j q0 q1 q2 q3 q4 q5 r1 r2 r3 r4) (binds := [("self", .ref x), (("index" : Str), v)]) hroom (X _ _ ho) rfl (md.nolimit.keeps bk) (codeRec_of X hcd) rfl ?hb ?hc ?hl (fun h₁ hns hk₁ => ?_) rfl rfl rfl
  case hb => exact BindsTo.of_eq rfl
  case hc =>
    show ∀ y ∈ (xScope "index").names, y.2 ≠ .cell
    decide
  case hl =>
    intro y m
    rcases List.mem_cons.mp m with rfl | m
    · rfl
    · rcases List.mem_cons.mp m with rfl | m
      · rfl
      · cases m
  have X₁ : K.In h₁ := X.keeps hk₁
  have hx₁ := hk₁ _ _ hx
  obtain ⟨mb, b1, b2⟩ := md.blt
  have kb : ∀ b o, base.get? b = some o → h₁.get? b = some o := fun b o e => hk₁ b o (bk b o e)
  have z1 : (xScope "index").names.lookup ("super" : Str) = some .globalImplicit := by rfl
  have z2 : (xScope "index").names.lookup ("__class__" : Str) = some .free := by rfl
  have z3 : (xScope "index").names.lookup ("self" : Str) = some .local := by rfl
  have z4 : (xScope "index").names.lookup ("index" : Str) = some .local := by rfl
  have z5 : ([(("self" : Str), Value.ref x), (("index" : Str), v)] : List (Str × Value)).reverse.lookup ("self" : Str) = some (.ref x) := by rfl
  have z6 : ([(("self" : Str), Value.ref x), (("index" : Str), v)] : List (Str × Value)).reverse.lookup ("index" : Str) = some v := by rfl
  have z7 : (("index" : Str) == ("__debug__" : Str)) = false := by decide
  obtain ⟨oD, hD1, hD2⟩ : ∃ oD, h₁.get? C = some oD ∧ oD.data = .cls _ := ⟨_, X₁ _ _ hC, rfl⟩
  refine ks_wpAt_execs_cons (ks_wpAt_Expr_any (ks_wpAt_MethodCall (ks_wpAt_super_base (env := ksEnv q (xScope "index") s.heap.objs.size fI (.ref cda) cc) z1 z2 (by decide) rfl (X₁ _ _ ho) rfl rfl rfl (X₁ _ _ hcda) rfl hvs hfile hto ?main) (pl := (do return (← importBound (.Call (.Name "super" q0) [] [] q1) (ksEnv q (xScope "index") s.heap.objs.size fI (.ref cda) cc)).getD true)) ?he))
  case he =>
    rw [arm_eval_Call]
    unfold methodCall methodCallPos
    rw [hln]
    simp only [Bool.or_true, if_true]
    rfl
  refine ks_loadName_global rfl z1 (loadGlobal_builtin (env := ksEnv q (xScope "index") s.heap.objs.size fI (.ref cda) cc) (md.glob.keeps kb) (mg_none_of X₁ (md.glob.keeps kb) hsp) (b1.keeps kb) ((b2 _ (by decide)).trans PyProof.Rows.Boot.super) ⟨rfl, ?_⟩)
  refine wpAny_loadName_free rfl z2 rfl ⟨_, X₁ _ _ hcc, rfl⟩ ?_
  refine wpAny_loadName_local rfl z3 hns z5 ?_
  refine ks_wpAny_isType_cls hD1 hD2 ⟨rfl, ?_⟩
  refine ks_wpAny_call_super hD1 hD2 hx₁ rfl (fun c e => by cases e) (looks_mroIn X₁ hsb) (fun h₂ e₂ k₂ => ?_)
  have X₂ : K.In h₂ := X₁.keeps k₂
  refine wpAny_mono (xc_super T X₂ e₂ (k₂ _ _ hx₁) fun h₃ tk t1 k₃ o₃ l₃ => ?_) (fun _ _ z => z) fun _ _ z => z
  have xL : s.heap.objs.size ≠ x := Nat.ne_of_gt (Heap.lt_size hx)
  have hns₃ : h₃.Ns s.heap.objs.size (fun y => ([(("self" : Str), Value.ref x), (("index" : Str), v)] : List (Str × Value)).reverse.lookup y) := by
    obtain ⟨oL, es, ep, hL, r⟩ := hns
    exact ⟨oL, es, ep, k₃ _ _ xL (k₂ _ _ hL), r⟩
  have X₃ : K.In h₃ := fun a o e => k₃ a o (fun z => by rw [z, hnx] at e; cases e) (X₂ a o e)
  have n₁ := hns.lt
  have n₂ : h₁.objs.size ≤ h₂.objs.size := Nat.le_of_lt (Heap.lt_size e₂)
  refine wpAt_of_wpAny (wpAny_execs_cons (plainObj_wpAny_Assign_Attribute ?_))
  refine wpAny_Name (wpAny_loadName_local (env := ksEnv q (xScope "index") s.heap.objs.size fI (.ref cda) cc) rfl z4 hns₃ z6 ?_) z7
  refine wpAny_Name (wpAny_loadName_local (env := ksEnv q (xScope "index") s.heap.objs.size fI (.ref cda) cc) rfl z3 hns₃ z5 ?_) (by decide)
  refine set_plain X₃ (ox := excO C t1) (od := none) ⟨o₃, rfl, rfl, trivial⟩ T.sa ?_
  refine exc_osa X₃ o₃ hcl (show refsVE (.ref C :: bm) = true from hbm) rfl nC (fun h₄ tk₄ dx k₄ dn dne hx₄ hn₄ => ?_)
  show wpAny _ _ (execs _ _) _ _ _
  refine wpAny_execs_nil (hq h₄ tk₄ dx ⟨fun b o hb e => k₄ b o hb (k₃ b o hb (k₂ b o (hk₁ b o e))), ⟨_, hx₄⟩, ?_, dne, hn₄⟩)
  exact Nat.le_of_lt (Nat.lt_of_lt_of_le n₁ (Nat.le_trans n₂ (Nat.le_trans l₃ dn)))
theorem xc_init_count (T : XcTxt P K mg nm "count" C fI) (md : L2.Mod K mg base) (bk : ∀ b o, base.get? b = some o → s.heap.get? b = some o) {x t0 : Addr} {v : Value} (hx : s.heap.get? x = some (excO C t0)) (hnx : K.lookup x = none) (hroom : A.depth < recursionLimit)
    (hq : ∀ h' tk dx, XcEnd s.heap h' x C dx "count" v → R (.ok (.ret .none)) { s with heap := h', toks := tk }) :
    codeAny (model P w) A (.call (.ref fI) ⟨[.ref x, v], []⟩) R s := by
  obtain ⟨q, t, j, p1, p2, q0, q1, q2, q3, q4, q5, r1, r2, r3, r4, oc, doc, pm, ct, ccl, cl, od, an, cdd, cld, osl, ccs, csl, cda, cc, vs, file, tf, ho, hcd, hcda, hvs, hfile, hln, hcc⟩ := T.txt
  obtain ⟨n, qn, N, bs, bm, sn, sub, ab, col, dd, k0, k1, k2, k3, k5, hC, hbm⟩ := T.cls
  have hcl : clsIn K C = some { name := n, bases := bs, mro := .ref C :: bm, ns := N, qualname := qn, hasDict := true, slotNames := sn, subclasses := sub, abstract := ab, collection := col, hasDel := false } := by
    unfold clsIn
    rw [hC] <;> rfl
  have X : K.In s.heap := md.kin.keeps bk
  have nC := T.noN
  have hsb := T.sub
  have hsp := T.sup
  have hto := T.top
  refine ks_codeAny_call_defAt (fd := ksFn "__init__" q (xArgs "count" p1 p2) (xBody "count" t j q0 q1 q2 q3 q4 q5 r1 r2 r3 r4) (xScope "count") .none .none doc pm an (.ref cda) ct cc) (body := xBody "count" t j q0 q1 q2 q3 q4 q5 r1 r2 r3 r4) (binds := [("self", .ref x), (("count" : Str), v)]) hroom (X _ _ ho) rfl (md.nolimit.keeps bk) (codeRec_of X hcd) rfl ?hb ?hc ?hl (fun h₁ hns hk₁ => ?_) rfl rfl rfl
  case hb => exact BindsTo.of_eq rfl
  case hc =>
    show ∀ y ∈ (xScope "count").names, y.2 ≠ .cell
    decide
  case hl =>
    intro y m
    rcases List.mem_cons.mp m with rfl | m
    · rfl
    · rcases List.mem_cons.mp m with rfl | m
      · rfl
      · cases m
  have X₁ : K.In h₁ := X.keeps hk₁
  have hx₁ := hk₁ _ _ hx
  obtain ⟨mb, b1, b2⟩ := md.blt
  have kb : ∀ b o, base.get? b = some o → h₁.get? b = some o := fun b o e => hk₁ b o (bk b o e)
  have z1 : (xScope "count").names.lookup ("super" : Str) = some .globalImplicit := by rfl
  have z2 : (xScope "count").names.lookup ("__class__" : Str) = some .free := by rfl
  have z3 : (xScope "count").names.lookup ("self" : Str) = some .local := by rfl
  have z4 : (xScope "count").names.lookup ("count" : Str) = some .local := by rfl
  have z5 : ([(("self" : Str), Value.ref x), (("count" : Str), v)] : List (Str × Value)).reverse.lookup ("self" : Str) = some (.ref x) := by rfl
  have z6 : ([(("self" : Str), Value.ref x), (("count" : Str), v)] : List (Str × Value)).reverse.lookup ("count" : Str) = some v := by rfl
  have z7 : (("count" : Str) == ("__debug__" : Str)) = false := by decide
  obtain ⟨oD, hD1, hD2⟩ : ∃ oD, h₁.get? C = some oD ∧ oD.data = .cls _ := ⟨_, X₁ _ _ hC, rfl⟩
  refine ks_wpAt_execs_cons (ks_wpAt_Expr_any (ks_wpAt_MethodCall (ks_wpAt_super_base (env := ksEnv q (xScope "count") s.heap.objs.size fI (.ref cda) cc) z1 z2 (by decide) rfl (X₁ _ _ ho) rfl rfl rfl (X₁ _ _ hcda) rfl hvs hfile hto ?main) (pl := (do return (← importBound (.Call (.Name "super" q0) [] [] q1) (ksEnv q (xScope "count") s.heap.objs.size fI (.ref cda) cc)).getD true)) ?he))
  case he =>
    rw [arm_eval_Call]
    unfold methodCall methodCallPos
    rw [hln]
    simp only [Bool.or_true, if_true]
    rfl
  refine ks_loadName_global rfl z1 (loadGlobal_builtin (env := ksEnv q (xScope "count") s.heap.objs.size fI (.ref cda) cc) (md.glob.keeps kb) (mg_none_of X₁ (md.glob.keeps kb) hsp) (b1.keeps kb) ((b2 _ (by decide)).trans PyProof.Rows.Boot.super) ⟨rfl, ?_⟩)
  refine wpAny_loadName_free rfl z2 rfl ⟨_, X₁ _ _ hcc, rfl⟩ ?_
  refine wpAny_loadName_local rfl z3 hns z5 ?_
  refine ks_wpAny_isType_cls hD1 hD2 ⟨rfl, ?_⟩
  refine ks_wpAny_call_super hD1 hD2 hx₁ rfl (fun c e => by cases e) (looks_mroIn X₁ hsb) (fun h₂ e₂ k₂ => ?_)
  have X₂ : K.In h₂ := X₁.keeps k₂
  refine wpAny_mono (xc_super T X₂ e₂ (k₂ _ _ hx₁) fun h₃ tk t1 k₃ o₃ l₃ => ?_) (fun _ _ z => z) fun _ _ z => z
  have xL : s.heap.objs.size ≠ x := Nat.ne_of_gt (Heap.lt_size hx)
  have hns₃ : h₃.Ns s.heap.objs.size (fun y => ([(("self" : Str), Value.ref x), (("count" : Str), v)] : List (Str × Value)).reverse.lookup y) := by
    obtain ⟨oL, es, ep, hL, r⟩ := hns
    exact ⟨oL, es, ep, k₃ _ _ xL (k₂ _ _ hL), r⟩
  have X₃ : K.In h₃ := fun a o e => k₃ a o (fun z => by rw [z, hnx] at e; cases e) (X₂ a o e)
  have n₁ := hns.lt
  have n₂ : h₁.objs.size ≤ h₂.objs.size := Nat.le_of_lt (Heap.lt_size e₂)
  refine wpAt_of_wpAny (wpAny_execs_cons (plainObj_wpAny_Assign_Attribute ?_))
  refine wpAny_Name (wpAny_loadName_local (env := ksEnv q (xScope "count") s.heap.objs.size fI (.ref cda) cc) rfl z4 hns₃ z6 ?_) z7
  refine wpAny_Name (wpAny_loadName_local (env := ksEnv q (xScope "count") s.heap.objs.size fI (.ref cda) cc) rfl z3 hns₃ z5 ?_) (by decide)
  refine set_plain X₃ (ox := excO C t1) (od := none) ⟨o₃, rfl, rfl, trivial⟩ T.sa ?_
  refine exc_osa X₃ o₃ hcl (show refsVE (.ref C :: bm) = true from hbm) rfl nC (fun h₄ tk₄ dx k₄ dn dne hx₄ hn₄ => ?_)
  show wpAny _ _ (execs _ _) _ _ _
  refine wpAny_execs_nil (hq h₄ tk₄ dx ⟨fun b o hb e => k₄ b o hb (k₃ b o hb (k₂ b o (hk₁ b o e))), ⟨_, hx₄⟩, ?_, dne, hn₄⟩)
  exact Nat.le_of_lt (Nat.lt_of_lt_of_le n₁ (Nat.le_trans n₂ (Nat.le_trans l₃ dn)))
theorem xc_any (T : XcTxt P K mg nm f C fI) (md : L2.Mod K mg base) (bk : ∀ b o, base.get? b = some o → s.heap.get? b = some o) {x t0 : Addr} {v : Value} (hx : s.heap.get? x = some (excO C t0)) (hnx : K.lookup x = none) (hroom : A.depth < recursionLimit)
    (hq : ∀ h' tk dx, XcEnd s.heap h' x C dx f v → R (.ok (.ret .none)) { s with heap := h', toks := tk }) :
    codeAny (model P w) A (.call (.ref fI) ⟨[.ref x, v], []⟩) R s := by
  rcases T.fn with rfl | rfl | rfl
  · exact xc_init_place T md bk hx hnx hroom hq
  · exact xc_init_index T md bk hx hnx hroom hq
  · exact xc_init_count T md bk hx hnx hroom hq
theorem xc_made (T : XcTxt P K mg nm f C fI) (md : L2.Mod K mg base) {v : Value} (bk : ∀ b o, base.get? b = some o → s.heap.get? b = some o) (hroom : A.depth + 1 < recursionLimit)
    (hq : ∀ h' tk e d, XcMade s.heap h' e C d f v → R (.ok (.ret (.ref e))) { s with heap := h', toks := tk }) :
    codeAny (model P w) A (.call (.ref C) ⟨[v], []⟩) R s := by
  obtain ⟨n, qn, N, bs, bm, sn, sub, ab, col, dd, k0, k1, k2, k3, k5, hC, hbm⟩ := T.cls
  obtain ⟨hp, g, dr, tk, os⟩ := s
  have X : K.In hp := md.kin.keeps bk
  have up : ∀ b o, hp.get? b = some o → ((hp.push (kdv_tup [v])).push (excO C hp.objs.size)).get? b = some o := fun b o e => Heap.get?_push_of_some _ (Heap.get?_push_of_some _ e)
  have at1 : ((hp.push (kdv_tup [v])).push (excO C hp.objs.size)).get? (hp.objs.size + 1) = some (excO C hp.objs.size) := by heap_get
  have free : K.lookup (hp.objs.size + 1) = none := by
    cases e : K.lookup (hp.objs.size + 1) with
    | none => rfl
    | some o =>
      have lt := Heap.lt_size (X _ _ e)
      exact absurd (Nat.lt_of_succ_lt lt) (Nat.lt_irrefl _)
  refine call_own PySem.F.excBase_ValueError (fun z => refsVE_contains z bm hbm) (X _ _ hC) (looks_findIn X T.iC) (fun self => bind_fn X self T.tC) (by show 1 ≤ sizeLine; rw [sizeLine_eq]; omega) ?_
  refine xc_any (s := ⟨(hp.push (kdv_tup [v])).push (excO C hp.objs.size), g, dr, tk, os⟩) T md (fun b o e => up b o (bk b o e)) at1 free hroom fun h' tk' dx ⟨kp, hx, dn, dne, hns⟩ => ?_
  have old : ∀ b o, hp.get? b = some o → h'.get? b = some o := fun b o e => kp b o (Nat.ne_of_lt (Nat.lt_succ_of_lt (Heap.lt_size e))) (up b o e)
  have dn : hp.objs.size + 1 + 1 ≤ dx := by
    have dn : ((hp.push (kdv_tup [v])).push (excO C hp.objs.size)).objs.size ≤ dx := dn
    rw [Heap.size_push, Heap.size_push] at dn
    exact dn
  obtain ⟨t1, hx⟩ := hx
  exact ⟨rfl, hq h' tk' (hp.objs.size + 1) dx ⟨old, Nat.le_succ _, ⟨_, _, hx, rfl, rfl, rfl, rfl⟩, Nat.le_trans (Nat.le_trans (Nat.le_succ _) (Nat.le_succ _)) dn, dne, hns⟩⟩
end
end DL
set_option linter.all false
set_option autoImplicit false
set_option maxHeartbeats 4000000
set_option maxRecDepth 100000
/-! try with several clauses, of which some name the error. -/
namespace DL
open PySem PySem.Spec PyProof.Rows L2
abbrev Su := Addr → Value → Option Addr → TS
/-- behind a suite the error's name is gone -/
def goneAt (i : Nat) (D : Ends) : Ends := { nx := fun τ G => D.nx (τ.set i none) G, rt := D.rt, bk := fun τ G => D.bk (τ.set i none) G, ct := fun τ G => D.ct (τ.set i none) G }
def suiteAt (ts : Su) (D : Ends) (a : Addr) (cls : Value) (d : Option Addr) : Option Nat → L2.St → Hp → Prop
  | none, σ, H => ts a cls d D σ H
  | some i, σ, H => ts a cls d (goneAt i D) (σ.set i (some (.ref a))) H
/-- what the clauses wish of an error, one behind the other -/
def wMix (K : PySem.W.Frag) (W0 : WX) (D : Ends) : List (Value × Option Nat × Su) → WX
  | [] => W0
  | (k, oi, ts) :: r => fun cls d σ H => ∃ b, PySem.W.exmOne K cls k = some b ∧ (b = true → ∀ a, H a = none → suiteAt ts D a cls d oi σ H) ∧ (b = false → wMix K W0 D r cls d σ H)
abbrev SuiteOk (X : Cx) (sts : List Stmt) (ts : Su) : Prop := ∀ (a : Addr) (oe : Obj) (cls : Value) (d : Option Addr) (pn : List (Addr × Obj)), Zc cls d oe → (∃ vs, oe.data = .fields vs) → PSs (X.suite a ((a, oe) :: pn)) sts (ts a cls d)
inductive Clauses (X : Cx) : List ExceptHandler → List (Value × Option Nat × Su) → Prop
  | nil : Clauses X [] []
  | plain {x : Str} {k : Value} {ts : Su} {b₀ : Stmt} {su : List Stmt} {np q : Pos} {hds : List ExceptHandler} {l : List (Value × Option Nat × Su)} (hc : Names X x k) (hs : SuiteOk X (b₀ :: su) ts) (r : Clauses X hds l) : Clauses X (.ExceptHandler (some (.Name x np)) none (b₀ :: su) q :: hds) ((k, none, ts) :: l)
  | named {x n : Str} {i : Nat} {k : Value} {ts : Su} {b₀ : Stmt} {su : List Stmt} {np q : Pos} {hds : List ExceptHandler} {l : List (Value × Option Nat × Su)} (hi : X.N[i]? = some n) (hl : X.env.kindOf n = some .local) (hc : Names X x k) (hs : SuiteOk X (b₀ :: su) ts) (r : Clauses X hds l) : Clauses X (.ExceptHandler (some (.Name x np)) (some n) (b₀ :: su) q :: hds) ((k, some i, ts) :: l)
section
variable {X : Cx} {pins : List (Addr × Obj)} {σ : L2.St} {H : Hp} {s sI : Shared} {a : Addr} {cls : Value} {d : Option Addr} {B : Heap}
/-- an error at a, caught in X's frame, on the ground -/
structure OnGround (X : Cx) (pins : List (Addr × Obj)) (σ : L2.St) (H : Hp) (sI : Shared) (B : Heap) (a : Addr) (cls : Value) (d : Option Addr) (s : Shared) : Prop where
  fl : HandSPX.FlyingZ B (X.env :: X.outer) a (Zc cls d) s.heap
  inv : Inv X pins σ H sI
  nb : ∀ b o, sI.heap.get? b = some o → b ∉ L2.frs X.stack → B.get? b = some o
  up : sI.heap.UpToSlots s.heap
  na : H a = none
  os : s.os = sI.os
  ag : AllBare s.gens
theorem OnGround.here (g : OnGround X pins σ H sI B a cls d s) : Inv X pins σ H s := Inv.landed g.inv g.nb g.fl.1 g.up g.os g.ag
theorem OnGround.inSuite (g : OnGround X pins σ H sI B a cls d s) (hf : X.env.frame = some X.env.locals) : ∃ oe vs, s.heap.get? a = some oe ∧ Zc cls d oe ∧ oe.data = .fields vs ∧ Inv (X.suite a ((a, oe) :: (X.pn ++ pins))) [] σ H s := by
  obtain ⟨oe, vs, h1, h2, h3⟩ := g.fl.there
  have far : a ∉ L2.frs (X.env :: X.outer) := fun m => by
    obtain ⟨_, o, h4, h5⟩ := g.fl.2.2.1.mem m
    rw [h1] at h4
    cases h4
    exact h5 _ h3
  have f1 : a ≠ X.env.locals := fun z => far (List.mem_filterMap.mpr ⟨X.env, List.mem_cons_self, by rw [hf, z]⟩)
  have f2 : a ∉ X.fs := fun m => by
    obtain ⟨e, h4, h5⟩ := List.mem_filterMap.mp m
    exact far (List.mem_filterMap.mpr ⟨e, List.mem_cons_of_mem _ h4, h5⟩)
  exact ⟨oe, vs, h1, h2, h3, g.here.suite h1 h3 g.na f1 f2⟩
theorem OnGround.move {h' : Heap} (g : OnGround X pins σ H sI B a cls d s) (fl : HandSPX.FlyingZ B (X.env :: X.outer) a (Zc cls d) h') (up : s.heap.UpToSlots h') : OnGround X pins σ H sI B a cls d { s with heap := h' } :=
  ⟨fl, g.inv, g.nb, g.up.trans up, g.na, g.os, g.ag⟩
/-- a suite done -/
theorem SP.back {X : Cx} {a : Addr} {oe : Obj} {D : Ends} {fl : Flow} {s : Shared} {pins : List (Addr × Obj)} (ok : X.Ok) (h : SP (X.suite a ((a, oe) :: (X.pn ++ pins))) [] D fl s) : SP X pins D fl s := by
  cases fl with
  | next => exact h.elim fun τ h => h.elim fun G h => ⟨τ, G, h.1.unsuite ok, h.2⟩
  | brk => exact h.elim fun τ h => h.elim fun G h => ⟨τ, G, h.1.unsuite ok, h.2⟩
  | cont => exact h.elim fun τ h => h.elim fun G h => ⟨τ, G, h.1.unsuite ok, h.2⟩
  | ret u =>
    obtain ⟨v, τ, G, J, r, q⟩ := h
    exact ⟨v, τ, G, J.unsuite ok, r, q⟩
/-- a clause's class is asked for -/
theorem clause_test {x : Str} {k : Value} {np : Pos} {b : Bool} {Q : Bool → Shared → Prop} {E1 E2 : Value → Shared → Prop} (g : OnGround X pins σ H sI B a cls d s) (hf : X.env.frame = some X.env.locals) (hc : Names X x k) (hb : PySem.W.exmOne X.K cls k = some b) (q : Q b s) :
    wpAny (model X.prog X.w) (X.A.mark (some (.ref a))) (eval (.Name x np) X.env) (fun c s₁ => wpAny (model X.prog X.w) (X.A.mark (some (.ref a))) (excMatches (.ref a) c) Q E1 s₁) E2 s := by
  obtain ⟨oe, vs, h1, h2, h3, S⟩ := g.inSuite hf
  have ty : PySem.W.Looks (model X.prog X.w) s.heap (typeOf (.ref a)) cls := fun _ _ _ _ kp r => wpAny_typeOf_ref (kp _ _ h1) (by rw [h2.1]; exact r)
  have am := PySem.W.exm_one (M := model X.prog X.w) g.here.kIn ty hb
  obtain ⟨hg, hdb, hm | ⟨hm, hv, hn⟩⟩ := hc
  · exact ld_glob (X := X.suite a ((a, oe) :: (X.pn ++ pins))) S hg hm (am.here q) hdb
  · exact ld_blt (X := X.suite a ((a, oe) :: (X.pn ++ pins))) S hg hm hv (am.here q) hn hdb
theorem clauses_go {hds : List ExceptHandler} {l : List (Value × Option Nat × Su)} {W0 : WX} {D : Ends} (hs : X.stack = X.env :: X.outer) (hf : X.env.frame = some X.env.locals) (hN : X.N.Nodup) (tk : Takes X W0) (hk : Clauses X hds l) :
    ∀ s, OnGround X pins σ H sI B a cls d s → wMix X.K W0 D l cls d σ H → wpAny (model X.prog X.w) X.A (handleBy (.ref a) X.env hds) (SP X pins D) X.xe s := by
  induction hk with
  | nil =>
    intro s g w
    refine wpAny_handleBy_nil ?_
    obtain ⟨c1, c2, c3, oe, vs, T, oT, ts', e1, e2, e3, e4, e5⟩ := id g.fl
    unfold PySem.passOn
    refine wpAny_bind (wpAny_field e1 e3 e4 ?_)
    have ne : ¬ ((Value.ref T == Value.none) = true) := by simp
    rw [if_neg ne]
    have out : wpAny (model X.prog X.w) X.A (setFlight (.ref a) X.env.frame) (fun _ s4 => wpAny (model X.prog X.w) X.A (throw (.ref a) : Sem Flow) (SP X pins D) X.xe s4) X.xe s := by
      rw [hf]
      refine HandSPX.setFlight_upZ g.fl fun h4 held up4 => wpAny_throw (tk _ _ ?_)
      exact ⟨a, B, sI, pins, σ, H, cls, d, rfl, g.inv, g.nb, g.up.trans up4, .inr (.inr (by rw [hs]; exact held)), g.na, g.os, g.ag, w⟩
    first
      | exact wpAny_bind (wpAny_pure (wpAny_bind out))
      | exact wpAny_bind out
  | @plain x k ts b₀ su np q hds2 l2 hc hsu r ih =>
    intro s g w
    obtain ⟨b, hb, yes, no⟩ := w
    refine wpAny_handleBy_cons (codeAny_handlers_test ?_) (by intro z; cases z)
    refine clause_test g hf hc hb ?_
    cases b with
    | false => exact ih s g (no rfl)
    | true =>
      refine codeAny_handlers_suite ?_
      refine HandSPX.lands_againZ g.fl fun h4 fl4 up4 => ?_
      obtain ⟨oe, vs, h1, h2, h3, S⟩ := (g.move fl4 up4).inSuite hf
      exact wpAny_mono ((hsu a oe cls d (X.pn ++ pins) h2 ⟨_, h3⟩).run [] _ _ H _ S (yes rfl a g.na)) (fun f s6 hsp => SP.back g.inv.ok hsp) fun _ _ z => z.elim
  | @named x n i k ts b₀ su np q hds2 l2 hi hl hc hsu r ih =>
    intro s g w
    obtain ⟨b, hb, yes, no⟩ := w
    refine wpAny_handleBy_cons (codeAny_handlers_test ?_) (by intro z; cases z)
    refine clause_test g hf hc hb ?_
    cases b with
    | false => exact ih s g (no rfl)
    | true =>
      refine codeAny_handlers_suite_as ?_
      refine HandSPX.lands_againZ g.fl fun h4 fl4 up4 => ?_
      obtain ⟨oe, vs, h1, h2, h3, S⟩ := (g.move fl4 up4).inSuite hf
      refine store_ok (X := X.suite a ((a, oe) :: (X.pn ++ pins))) (v := .ref a) S hN hi (.inl hl) rfl (fun s5 S5 => ?_) (.inr hl)
      refine wpAny_mono ((hsu a oe cls d (X.pn ++ pins) h2 ⟨_, h3⟩).run [] s5 _ H _ S5 (yes rfl a g.na)) (fun f s6 hsp => ?_) fun _ _ z => z.elim
      have fin : ∀ {τ : L2.St} {G : Hp} {Q : Shared → Prop}, Inv (X.suite a ((a, oe) :: (X.pn ++ pins))) [] τ G s6 → (∀ s7, Inv X pins (τ.set i none) G s7 → Q s7) →
          wpAny (model X.prog X.w) X.A (do bindName X.env n .none; unbindBehindTheSuite X.env n q) (fun _ s7 => Q s7) X.xe s6 := fun J hq => gone_ok (J.unsuite g.inv.ok) hN hi hl hq
      cases f with
      | next => exact hsp.elim fun τ h => h.elim fun G h => fin h.1 fun s7 J => ⟨_, _, J, h.2⟩
      | brk => exact hsp.elim fun τ h => h.elim fun G h => fin h.1 fun s7 J => ⟨_, _, J, h.2⟩
      | cont => exact hsp.elim fun τ h => h.elim fun G h => fin h.1 fun s7 J => ⟨_, _, J, h.2⟩
      | ret u =>
        obtain ⟨v, τ, G, J, r6, q6⟩ := hsp
        exact fin J fun s7 J7 => ⟨_, _, _, J7, r6, q6⟩
/-- THE RULE for try -/
theorem ps_try_mix {body : List Stmt} {h₀ : ExceptHandler} {hds : List ExceptHandler} {l : List (Value × Option Nat × Su)} {pos : Pos} {tb : WX → TS} {W0 : WX} (hs : X.stack = X.env :: X.outer) (hf : X.env.frame = some X.env.locals) (hN : X.N.Nodup) (tk : Takes X W0)
    (hb : ∀ (W : WX) (pn : List (Addr × Obj)) (xe : Value → Shared → Prop), Takes (X.tr pn xe) W → PassesOwn (model X.prog X.w) X.A X.env xe → PSs (X.tr pn xe) body (tb W))
    (hk : Clauses X (h₀ :: hds) l) : PS X (.Try body (h₀ :: hds) [] [] pos) (fun D σ H => tb (wMix X.K W0 D l) D σ H) := by
  refine ⟨fun pins s σ H D I h => wpAny_Try_except ?_⟩
  have fr : X.A.frames = some (X.env :: X.outer) := by rw [I.ok.frames, hs]
  let xe : Value → Shared → Prop := fun e t1 => wpAny (model X.prog X.w) X.A (noteFrame e X.env) (fun _ t2 => wpAny (model X.prog X.w) X.A (setFlight e none) (fun _ t3 => wpAny (model X.prog X.w) X.A (handleBy e X.env (h₀ :: hds)) (SP X pins D) X.xe t3) X.xe t2) X.xe t1
  have tk2 : Takes (X.tr (X.pn ++ pins) xe) (wMix X.K W0 D l) := fun u t1 xx => by
    obtain ⟨a, B, sI, pins', τ, G, cls, d, rfl, J, nb, up, sky, na, os, ag, w⟩ := xx
    have sky : Sky B (X.env :: X.outer) a (Zc cls d) X.env.locals t1.heap := by rw [← hs]; exact sky
    show wpAny _ _ (noteFrame (.ref a) X.env) _ _ _
    exact Sky.land Zc.steady fr hf sky fun h3 fl3 up3 => clauses_go hs hf hN tk hk _ ⟨fl3, J.ofTry I.ok, nb, up.trans up3, na, os, ag⟩ w
  refine wpAny_mono ((hb _ _ xe tk2 PassesOwn.looking).run [] s σ H D (I.toTry _) h) (fun f s1 hsp => ?_) fun _ _ z => z
  cases f with
  | next => exact hsp.elim fun τ h => h.elim fun G h => wpAny_execs_nil ⟨τ, G, h.1.ofTry I.ok, h.2⟩
  | brk => exact hsp.elim fun τ h => h.elim fun G h => ⟨τ, G, h.1.ofTry I.ok, h.2⟩
  | cont => exact hsp.elim fun τ h => h.elim fun G h => ⟨τ, G, h.1.ofTry I.ok, h.2⟩
  | ret u =>
    obtain ⟨v, τ, G, J, r, q⟩ := hsp
    exact ⟨v, τ, G, J.ofTry I.ok, r, q⟩
end
end DL
set_option linter.all false
set_option autoImplicit false
set_option maxHeartbeats 4000000
set_option maxRecDepth 100000
/-! raise and try, over data. -/
namespace DL
open PySem PySem.Spec PyProof.Rows L2
/-! ### what the written part says of the error classes -/
abbrev VE4 : List Value := [.type "ValueError", .type "Exception", .type "BaseException", .type "object"]
structure Er0 (K : PySem.W.Frag) (mg : Str → Option Value) (nm : Str) : Prop where
  ex : ∃ C : Addr, mg nm = some (.ref C) ∧ PySem.W.nsIn K mainGlobals nm = some (some (.ref C)) ∧ PySem.W.excIn K C VE4 "ValueError.__new__" = true ∧ PySem.W.keepIn K (.ref C) = true ∧
    PySem.W.subIn K (.ref C) (.type "BaseException") = some true ∧ PySem.W.typeIn K (.ref C) = some (.type "type")
structure Er1 (P : Program) (K : PySem.W.Frag) (mg : Str → Option Value) (nm f : Str) : Prop where
  ex : ∃ C fI : Addr, XcTxt P K mg nm f C fI ∧ PySem.W.nsIn K mainGlobals nm = some (some (.ref C))
/-- errors of the package: each under CourseError alone -/
def subX (a c : Str) : Bool := a == c || c == "CourseError"
/-- which class an except clause takes -/
structure ErS (K : PySem.W.Frag) (mg : Str → Option Value) (L : List Str) : Prop where
  sub : ∀ a ∈ L, ∀ c ∈ L, ∀ A C : Addr, PySem.W.nsIn K mainGlobals a = some (some (.ref A)) → PySem.W.nsIn K mainGlobals c = some (some (.ref C)) → PySem.W.exmOne K (.ref A) (.ref C) = some (subX a c)
  mg : ∀ c ∈ L, ∃ C : Addr, mg c = some (.ref C) ∧ PySem.W.nsIn K mainGlobals c = some (some (.ref C))
/-! ### readings -/
def sRaise0 (nm : Str) : SW := fun X _ ρ => X ρ ⟨nm, none⟩
def sRaise1 (nm f : Str) (w : EW) : SW := fun X _ ρ => w X ρ fun x => X ρ ⟨nm, some (f, x)⟩
abbrev SuW := Exc → SW
def wHs (L : List Str) : List (Str × SuW) → XD → DEnds → Env → Exc → Prop
  | [], X, _, ρ, ex => X ρ ex
  | (c, su) :: r, X, DD, ρ, ex => L.contains ex.cls = true ∧ if subX ex.cls c = true then su ex X DD ρ else wHs L r X DD ρ ex
def sTry (L : List Str) (b : SW) (hs : List (Str × SuW)) : SW := fun X DD ρ => b (fun ρ' ex => wHs L hs X DD ρ' ex) DD ρ
section
variable {Z : SrcK} {X : Cx} {E : L2.St → XK} {K : PySem.W.Frag} {e : Expr} {w : EW} {pos : Pos} {c : Cfg} {F H F' H' : Hp} {σ : L2.St} {ρ : Env}
/-! ### raise -/
theorem ds_raise0 {k : Nat} {nm m : Str} {j : Nat} {p p2 pos2 : Pos} (A : At X E k) (T : Er0 X.K X.mg nm) (hc : X.calm = true := by rfl) (hg : Gl X nm := by rfl) (hdb : (nm == ("__debug__" : Str)) = false := by decide) :
    DS Z X E (.Raise (some (.Call (.Name nm p) [.Constant (.str m) j p2] [] pos)) none pos2) (sRaise0 nm) := by
  obtain ⟨C, gC, nC, xC, kC, bC, tC⟩ := T.ex
  exact ⟨_, ps_raise hc A.tk (pmk_own PySem.F.excBase_ValueError xC gC kC (raises_own bC tC) hg hdb), fun c F H σ ρ Xd DD D e l h q => l σ ρ _ F H _ _ h e (Same.refl _) (Nx.refl _) ⟨⟨C, rfl, nC⟩, rfl⟩⟩
/-- X(e), X with a field -/
def tMkXc (C : Addr) (f : Str) (ta : TA) : L2.St → Hp → XK → Prop := fun σ H Q => ta σ H fun vs H1 => ∃ v, vs = [v] ∧ ∀ d, H1 d = none → Q (.ref C) (some d) (upd H1 d (.xd [(f, v)]))
theorem relO_xc {f : Str} {v : V} {u : Value} (r : RelV v u) (y : Str) : RelO (List.lookup y [(f, v)]) (if y = f then some u else none) := by
  by_cases h : y = f
  · subst h
    rw [if_pos rfl]
    simp only [List.lookup, beq_self_eq_true]
    exact r
  · rw [if_neg h]
    have : (y == f) = false := by simpa using h
    simp only [List.lookup, this]
    trivial
theorem pmk_xc {nm f : Str} {C fI : Addr} {a : Expr} {ta : TA} {p : Pos} {k : Nat} (T : XcTxt X.prog X.K X.mg nm f C fI) (hr : Room k X.A) (ha : PA X [a] ta) (hg : Gl X nm) (hdb : (nm == ("__debug__" : Str)) = false)
    (he : starEach (a :: []) X.env = (false, eval a X.env) :: starEach [] X.env) (hpl : (backTo pos (starEach [] X.env)).any (·.1) = false) : PMk X (.Call (.Name nm p) [a] [] pos) (tMkXc C f ta) := by
  intro pins s σ H Q I h
  refine wpAny_Call_Name_kw (ld_glob I hg T.gC ?_ hdb)
  refine PySem.W.callWith_K (h₀ := X.base) I.ok.mod.kin T.kC (thn (ha.run pos pins s σ H _ I h) fun us s1 hh => ?_) he hpl
  obtain ⟨vs, H1, I1, r1, v, rfl, q1⟩ := hh
  refine ⟨I1.kIn, ?_⟩
  cases r1 with
  | @cons _ v' _ us' rv rn =>
    cases rn
    show wpAny _ _ (call (.ref C) [v']) _ _ _
    obtain ⟨hp, g, dr, tk, os⟩ := s1
    refine wpAny_call (xc_made T I1.ok.mod I1.bk (by have := hr.dp; omega) fun h' tk' e d M => ?_)
    show MkP X pins σ Q (.ref e) ⟨h', g, dr, tk', os⟩
    obtain ⟨oe, fv, o1, o2, o3, o4, o5⟩ := M.obj
    obtain ⟨G, g1, g2⟩ := restrict h' fun b => decide (b ≠ e)
    have gk : ∀ b, b ≠ e → G.get? b = h'.get? b := fun b hb => g1 b (decide_eq_true hb)
    have ge : G.get? e = none := g2 e (by simp)
    have old : ∀ b o, hp.get? b = some o → G.get? b = some o := fun b o q => (gk b (Nat.ne_of_lt (Nat.lt_of_lt_of_le (Heap.lt_size q) M.new))).trans (M.keep b o q)
    have ob : ObjOk X.prog X.w (upd H1 d (.xd [(f, v)])) G d (.xd [(f, v)]) := ⟨_, M.ns.at (fun o q => (gk d M.ne).trans q), fun y => relO_xc rv y⟩
    have J : Inv X pins σ (upd H1 d (.xd [(f, v)])) ⟨G, g, dr, tk', os⟩ := I1.laid (t' := tk') old M.big ob
    refine ⟨e, oe, fv, ⟨G, g, dr, tk', os⟩, _, .ref C, some d, rfl, J, fun b o q => ?_, ge, o1, ⟨o2, o3⟩, o4, o5, ?_, rfl, I1.bare, raises_own T.exC T.tyC, q1 d (I1.hok.fresh M.big)⟩
    · by_cases hb : b = e
      · have q : G.get? b = some o := q
        rw [hb, ge] at q
        cases q
      · exact (gk b hb).symm.trans q
    · rw [upd_ne (Ne.symm M.ne)]
      exact I1.hok.fresh M.new
theorem ds_raise1 {k : Nat} {nm f : Str} {p pos2 : Pos} (A : At X E k) (T : Er1 X.prog X.K X.mg nm f) (he : DE Z X E e w) (hc : X.calm = true := by rfl) (hg : Gl X nm := by rfl) (hdb : (nm == ("__debug__" : Str)) = false := by decide)
    (hs : starEach (e :: []) X.env = (false, eval e X.env) :: starEach [] X.env := by rfl) (hpl : (backTo pos (starEach [] X.env)).any (·.1) = false := by rfl) :
    DS Z X E (.Raise (some (.Call (.Name nm p) [e] [] pos)) none pos2) (sRaise1 nm f w) := by
  obtain ⟨C, fI, T, nC⟩ := T.ex
  obtain ⟨t, pe, l⟩ := he
  refine ⟨_, ps_raise hc A.tk (pmk_xc T A.room (pa_cons pe pa_nil hs) hg hdb hs hpl), fun c F H σ ρ Xd DD D e k h q => ?_⟩
  refine l c F H σ ρ Xd _ _ e k h fun d v F1 H1 h1 e1 s1 n1 r1 => ⟨v, rfl, fun dx hd => ?_⟩
  have x : Ext F1 H1 (upd F1 dx (.xd [(f, v)])) (upd H1 dx (.xd [(f, v)])) := Ext.lay e1.fh hd
  exact k σ ρ _ _ _ _ _ h1 (e1.ext x) (s1.trans x.ff) (n1.nx.trans (Same.nx x.hh)) ⟨⟨C, rfl, nC⟩, dx, v, rfl, upd_same, Rep.mono x.ff _ _ r1⟩
/-! ### try -/
theorem EnvOk.setU {i : Nat} {o : Option V} (e : EnvOk Z K c F H σ ρ) : EnvOk Z K c F H (σ.set i o) (ρ.set i .un) := by
  refine ⟨by rw [List.length_set, List.length_set]; exact e.len, fun j t h1 => ?_, fun j k xs ys hjk h1 h2 => ?_, e.fh, e.f0, e.new, e.keep, e.all, e.src⟩
  · by_cases hj : j = i
    · subst hj
      by_cases hl : j < ρ.length
      · rw [List.getElem?_set_self hl] at h1
        cases h1
        exact ⟨o, List.getElem?_set_self (by rw [e.len]; exact hl), trivial⟩
      · rw [List.getElem?_eq_none_iff.mpr (by rw [List.length_set]; omega)] at h1
        cases h1
    · rw [List.getElem?_set_ne (Ne.symm hj)] at h1 ⊢
      exact e.slot j t h1
  · have no : ∀ {j : Nat} {zs : List D}, (ρ.set i SV.un)[j]? = some (SV.own zs) → j ≠ i ∧ ρ[j]? = some (SV.own zs) := fun {j zs} h => by
      by_cases hj : j = i
      · subst hj
        by_cases hl : j < ρ.length
        · rw [List.getElem?_set_self hl] at h
          cases h
        · rw [List.getElem?_eq_none_iff.mpr (by rw [List.length_set]; omega)] at h
          cases h
      · rw [List.getElem?_set_ne (Ne.symm hj)] at h
        exact ⟨hj, h⟩
    obtain ⟨n1, h1⟩ := no h1
    obtain ⟨n2, h2⟩ := no h2
    rw [List.getElem?_set_ne (Ne.symm n1), List.getElem?_set_ne (Ne.symm n2)]
    exact e.sep j k xs ys hjk h1 h2
/-- a suite over data: i is the slot of the error's name -/
def LSu (Z : SrcK) (K : PySem.W.Frag) (ts : Su) (oi : Option Nat) (su : SuW) : Prop :=
  ∀ (c : Cfg) (F H : Hp) (σ : L2.St) (ρ : Env) (Xd : XD) (DD : DEnds) (D : Ends) (a : Addr) (cls : Value) (d : Option Addr) (ex : Exc), EnvOk Z K c F H σ ρ → ExRep K F ex cls d → su ex Xd DD ρ → EndsOk Z K c F H DD D → suiteAt ts D a cls d oi σ H
def DSu (Z : SrcK) (X : Cx) (sts : List Stmt) (oi : Option Nat) (su : SuW) : Prop := ∃ ts, SuiteOk X sts ts ∧ LSu Z X.K ts oi su
inductive DHs (Z : SrcK) (X : Cx) : List ExceptHandler → List (Str × SuW) → Prop
  | nil : DHs Z X [] []
  | plain {x : Str} {su : SuW} {b₀ : Stmt} {sts : List Stmt} {np q : Pos} {hds : List ExceptHandler} {l : List (Str × SuW)} (hg : Gl X x) (hdb : (x == ("__debug__" : Str)) = false) (h : DSu Z X (b₀ :: sts) none su) (r : DHs Z X hds l) : DHs Z X (.ExceptHandler (some (.Name x np)) none (b₀ :: sts) q :: hds) ((x, su) :: l)
  | named {x n : Str} {i : Nat} {su : SuW} {b₀ : Stmt} {sts : List Stmt} {np q : Pos} {hds : List ExceptHandler} {l : List (Str × SuW)} (hg : Gl X x) (hdb : (x == ("__debug__" : Str)) = false) (hi : X.N[i]? = some n) (hl : X.env.kindOf n = some .local) (h : DSu Z X (b₀ :: sts) (some i) su) (r : DHs Z X hds l) :
      DHs Z X (.ExceptHandler (some (.Name x np)) (some n) (b₀ :: sts) q :: hds) ((x, su) :: l)
/-- within a try's body -/
theorem At.try {k : Nat} (A : At X E k) {W : WX} {pn : List (Addr × Obj)} {xe : Value → Shared → Prop} (tk : Takes (X.tr pn xe) W) : At (X.tr pn xe) (fun σ cls d H => W cls d σ H) k := ⟨A.room, tk⟩
theorem dhs_clauses {L : List Str} (S : ErS X.K X.mg L) {hds : List ExceptHandler} {l : List (Str × SuW)} (hL : ∀ p ∈ l, p.1 ∈ L) (h : DHs Z X hds l) : ∃ m : List (Value × Option Nat × Su), Clauses X hds m ∧
    ∀ (c : Cfg) (F H : Hp) (σ : L2.St) (ρ : Env) (Xd : XD) (DD : DEnds) (D : Ends) (W0 : WX) (cls : Value) (d : Option Addr) (ex : Exc), EnvOk Z X.K c F H σ ρ → ExRep X.K F ex cls d → wHs L l Xd DD ρ ex → EndsOk Z X.K c F H DD D → (Xd ρ ex → W0 cls d σ H) → wMix X.K W0 D m cls d σ H := by
  induction h with
  | nil => exact ⟨[], .nil, fun c F H σ ρ Xd DD D W0 cls d ex e r w q z => z w⟩
  | @plain x su b₀ sts np q hds l hg hdb h _ ih =>
    obtain ⟨m, cm, lm⟩ := ih fun p hp => hL p (List.mem_cons_of_mem _ hp)
    obtain ⟨ts, h1, h2⟩ := h
    have hx : x ∈ L := hL (x, su) List.mem_cons_self
    obtain ⟨C, gC, nC⟩ := S.mg x hx
    refine ⟨_, .plain ⟨hg, hdb, .inl gC⟩ h1 cm, fun c F H σ ρ Xd DD D W0 cls d ex e r w q z => ?_⟩
    obtain ⟨w1, w2⟩ := w
    obtain ⟨CA, rfl, nA⟩ := r.1
    refine ⟨_, S.sub ex.cls (by simpa using w1) x hx CA C nA nC, fun b a _ => ?_, fun b => ?_⟩
    · simp only [b, if_true] at w2
      exact h2 c F H σ ρ Xd DD D a _ d ex e r w2 q
    · simp only [b, Bool.false_eq_true, if_false] at w2
      exact lm c F H σ ρ Xd DD D W0 _ d ex e r w2 q z
  | @named x n i su b₀ sts np q hds l hg hdb hi hl h _ ih =>
    obtain ⟨m, cm, lm⟩ := ih fun p hp => hL p (List.mem_cons_of_mem _ hp)
    obtain ⟨ts, h1, h2⟩ := h
    have hx : x ∈ L := hL (x, su) List.mem_cons_self
    obtain ⟨C, gC, nC⟩ := S.mg x hx
    refine ⟨_, .named hi hl ⟨hg, hdb, .inl gC⟩ h1 cm, fun c F H σ ρ Xd DD D W0 cls d ex e r w q z => ?_⟩
    obtain ⟨w1, w2⟩ := w
    obtain ⟨CA, rfl, nA⟩ := r.1
    refine ⟨_, S.sub ex.cls (by simpa using w1) x hx CA C nA nC, fun b a _ => ?_, fun b => ?_⟩
    · simp only [b, if_true] at w2
      exact h2 c F H σ ρ Xd DD D a _ d ex e r w2 q
    · simp only [b, Bool.false_eq_true, if_false] at w2
      exact lm c F H σ ρ Xd DD D W0 _ d ex e r w2 q z
/-- the body's reading does not depend on what takes its errors -/
theorem ds_try {k : Nat} {L : List Str} {body : List Stmt} {hd : ExceptHandler} {hds : List ExceptHandler} {wb : SW} {l : List (Str × SuW)} (A : At X E k) (S : ErS X.K X.mg L) (hL : ∀ p ∈ l, p.1 ∈ L) (hN : X.N.Nodup) {tb : WX → TS}
    (hb : ∀ (W : WX) (pn : List (Addr × Obj)) (xe : Value → Shared → Prop), Takes (X.tr pn xe) W → PassesOwn (model X.prog X.w) X.A X.env xe → PSs (X.tr pn xe) body (tb W)) (lb : ∀ W : WX, LS Z X.K (fun σ cls d H => W cls d σ H) (tb W) wb)
    (h : DHs Z X (hd :: hds) l) (hs : X.stack = X.env :: X.outer := by rfl) (hf : X.env.frame = some X.env.locals := by rfl) : DS Z X E (.Try body (hd :: hds) [] [] pos) (sTry L wb l) := by
  obtain ⟨m, cm, lm⟩ := dhs_clauses S hL h
  refine ⟨_, ps_try_mix hs hf hN A.tk hb cm, fun c F H σ ρ Xd DD D e l0 h q => ?_⟩
  refine lb _ c F H σ ρ _ DD D e (fun σ' ρ' ex F' H' cls dd x e' s' n' r' => ?_) h q
  exact lm c F' H' σ' ρ' Xd DD D _ cls dd ex e' r' x (q.mono s' n') fun z => l0 σ' ρ' ex F' H' cls dd z e' s' n' r'
/-- the weakest reading of statements over data -/
def canS (Z : SrcK) (K : PySem.W.Frag) (E : L2.St → XK) (w : SW) : TS := fun D σ H => ∃ (c : Cfg) (F : Hp) (ρ : Env) (Xd : XD) (DD : DEnds), EnvOk Z K c F H σ ρ ∧ ELk Z K c F H E Xd ∧ w Xd DD ρ ∧ EndsOk Z K c F H DD D
theorem ls_can {w : SW} : LS Z K E (canS Z K E w) w := fun c F H σ ρ Xd DD D e l h q => ⟨c, F, ρ, Xd, DD, e, l, h, q⟩
theorem pss_can {sts : List Stmt} {w : SW} (h : DSs Z X E sts w) : PSs X sts (canS Z X.K E w) := by
  obtain ⟨t, p, l⟩ := h
  exact ⟨fun pins s σ H D I ⟨c, F, ρ, Xd, DD, e, k, h, q⟩ => p.run pins s σ H D I (l c F H σ ρ Xd DD D e k h q)⟩
abbrev EW' (W : WX) : L2.St → XK := fun σ cls d H => W cls d σ H
theorem ds_tryD {k : Nat} {L : List Str} {body : List Stmt} {hd : ExceptHandler} {hds : List ExceptHandler} {wb : SW} {l : List (Str × SuW)} (A : At X E k) (S : ErS X.K X.mg L) (hN : X.N.Nodup)
    (hb : ∀ (W : WX) (pn : List (Addr × Obj)) (xe : Value → Shared → Prop), PassesOwn (model X.prog X.w) X.A X.env xe → At (X.tr pn xe) (EW' W) k → DSs Z (X.tr pn xe) (EW' W) body wb)
    (h : DHs Z X (hd :: hds) l) (hL : ∀ p ∈ l, p.1 ∈ L := by decide) (hs : X.stack = X.env :: X.outer := by rfl) (hf : X.env.frame = some X.env.locals := by rfl) : DS Z X E (.Try body (hd :: hds) [] [] pos) (sTry L wb l) :=
  ds_try A S hL hN (tb := fun W => canS Z X.K (EW' W) wb) (fun W pn xe tk hp => pss_can (hb W pn xe hp ⟨A.room, tk⟩)) (fun W => ls_can) h hs hf
/-! ### suites: one name is stored -/
abbrev EX := Exc → (D → Prop) → Prop
abbrev AX := Exc → (List D → Prop) → Prop
def LX (Z : SrcK) (K : PySem.W.Frag) (i : Nat) (t : Addr → Value → Option Addr → TE) (w : EX) : Prop :=
  ∀ (c : Cfg) (F H : Hp) (σ : L2.St) (ρ : Env) (a : Addr) (cls : Value) (d : Option Addr) (ex : Exc) (Qd : D → Prop) (Qv : VK), EnvOk Z K c F H σ ρ → (i < σ.length → σ[i]? = some (some (.ref a))) → i < σ.length → ExRep K F ex cls d → w ex Qd →
    (∀ x v F' H', Qd x → EnvOk Z K c F' H' σ ρ → Same F F' → Kx c.fp F H F' H' → Rep K F' x v → Qv v H') → t a cls d σ H Qv
def LAX (Z : SrcK) (K : PySem.W.Frag) (i : Nat) (t : Addr → Value → Option Addr → TA) (w : AX) : Prop :=
  ∀ (c : Cfg) (F H : Hp) (σ : L2.St) (ρ : Env) (a : Addr) (cls : Value) (d : Option Addr) (ex : Exc) (Qd : List D → Prop) (Qv : List V → Hp → Prop), EnvOk Z K c F H σ ρ → (i < σ.length → σ[i]? = some (some (.ref a))) → i < σ.length → ExRep K F ex cls d → w ex Qd →
    (∀ xs vs F' H', Qd xs → EnvOk Z K c F' H' σ ρ → Same F F' → Kx c.fp F H F' H' → RepL K F' xs vs → Qv vs H') → t a cls d σ H Qv
abbrev InSu (X : Cx) (P : Cx → Addr → Value → Option Addr → Prop) : Prop := ∀ (a : Addr) (oe : Obj) (cls : Value) (d : Option Addr) (pn : List (Addr × Obj)), Zc cls d oe → (∃ vs, oe.data = .fields vs) → P (X.suite a ((a, oe) :: pn)) a cls d
def DX (Z : SrcK) (X : Cx) (i : Nat) (e : Expr) (w : EX) : Prop := ∃ t : Addr → Value → Option Addr → TE, InSu X (fun Y a cls d => PE Y e (t a cls d)) ∧ LX Z X.K i t w
def DAX (Z : SrcK) (X : Cx) (i : Nat) (es : List Expr) (w : AX) : Prop := ∃ t : Addr → Value → Option Addr → TA, InSu X (fun Y a cls d => PA Y es (t a cls d)) ∧ LAX Z X.K i t w
def xC (x : D) : EX := fun _ Q => Q x
/-- e.f -/
def xFld (nm f : Str) : EX := fun ex Q => ex.cls = nm ∧ ∃ x, ex.fld = some (f, x) ∧ Q x
def xNil : AX := fun _ Q => Q []
def xCons (a : EX) (r : AX) : AX := fun ex Q => a ex fun x => r ex fun xs => Q (x :: xs)
def xLst (a : AX) : EX := fun ex Q => a ex fun xs => xs.length ≤ 100000 ∧ Q (.lst xs)
def xTup (a : AX) : EX := fun ex Q => a ex fun xs => xs.length ≤ 100000 ∧ Q (.tup xs)
variable {i : Nat} {es : List Expr} {wx : EX} {ax : AX}
theorem dx_str {s : Str} {j : Nat} : DX Z X i (.Constant (.str s) j pos) (xC (.str s)) := ⟨fun _ _ _ => tC (.str s), fun _ _ _ _ _ _ _ => pe_str, fun c F H σ ρ a cls d ex Qd Qv e _ _ _ h q => q _ _ F H h e (Same.refl _) (Kx.refl _ _ _) rfl⟩
def tByXc (C : Addr) (f : Str) (a : Addr) (cls : Value) (d : Option Addr) (te : TE) : TE := fun σ H Q => te σ H fun x H1 => x = .ref a ∧ cls = .ref C ∧ ∃ (dd : Addr) (v : V), d = some dd ∧ H1 dd = some (.xd [(f, v)]) ∧ Q v H1
theorem pe_byXc {a : Addr} {oe : Obj} {cls : Value} {d : Option Addr} {pn : List (Addr × Obj)} {te : TE} {nm f : Str} {C fI : Addr} (T : XcTxt X.prog X.K X.mg nm f C fI) (hz : Zc cls d oe) (hf : ∃ vs, oe.data = .fields vs) (he : PE (X.suite a ((a, oe) :: pn)) e te)
    (hb : attributeBase e f X.env (eval e X.env) = eval e X.env) : PE (X.suite a ((a, oe) :: pn)) (.Attribute e f pos) (tByXc C f a cls d te) := by
  refine ⟨fun pins s σ H Q I h => attr_of hb (thn (he.run pins s σ H _ I h) fun u s1 hh => ?_)⟩
  obtain ⟨x, H1, I1, rx, rfl, rfl, dd, v, rfl, ea, q⟩ := hh
  obtain rfl : u = Value.ref a := rx
  obtain ⟨ha, _⟩ := I1.pin (a, oe) (List.mem_append_left _ List.mem_cons_self)
  obtain ⟨vs, hd⟩ := hf
  obtain ⟨mA, hns, hr⟩ : ObjOk X.prog X.w H1 s1.heap dd (.xd [(f, v)]) := I1.hok dd _ ea
  obtain ⟨od, ho, hl⟩ := lookIn_ns hns
  have l : List.lookup f [(f, v)] = some v := by simp [List.lookup]
  obtain ⟨u, hu, ru⟩ := RelO.some_of (v := v) (o := mA f) (by rw [← l]; exact hr f)
  have J : PySem.W.InstAt s1.heap a oe C (some od) := ⟨ha, hz.1, by unfold PySem.W.notCls; rw [hd] <;> rfl, by rw [hz.2]; exact ho⟩
  exact HandSPX.exc_get I1.kIn J T.ga T.gg T.exC (PySem.W.findObj_own T.hdC T.noN rfl (by rw [hl, hu])) (handed_of ru) ⟨v, H1, I1.tok _, ru, q⟩
theorem dx_fld {n nm f : Str} {p : Pos} (T : Er1 X.prog X.K X.mg nm f) (hN : X.N[i]? = some n := by rfl) (hv : Vis X.env.scope n := by first | exact Or.inl rfl | exact Or.inr (Or.inl rfl) | exact Or.inr (Or.inr rfl)) (hd : (n == ("__debug__" : Str)) = false := by decide)
    (hcd : (n == ("__classdict__" : Str)) = false := by decide) (hb : attributeBase (.Name n p) f X.env (eval (.Name n p) X.env) = eval (.Name n p) X.env := by rfl) : DX Z X i (.Attribute (.Name n p) f pos) (xFld nm f) := by
  obtain ⟨C, fI, T, nC⟩ := T.ex
  refine ⟨fun a cls d => tByXc C f a cls d (tVar i), fun a oe cls d pn hz hf => pe_byXc T hz hf (pe_var (X := X.suite a ((a, oe) :: pn)) hN hv hd hcd) hb, fun c F H σ ρ a cls d ex Qd Qv e hi hl r h q => ?_⟩
  obtain ⟨h1, x, h2, h3⟩ := h
  obtain ⟨⟨CA, rfl, nA⟩, r2⟩ := r
  rw [h2] at r2
  obtain ⟨dx, v, rfl, r3, r4⟩ := r2
  rw [h1, nC] at nA
  cases nA
  exact ⟨_, hi hl, rfl, rfl, dx, v, rfl, e.fh _ _ r3, q x v F H h3 e (Same.refl _) (Kx.refl _ _ _) r4⟩
theorem dax_nil : DAX Z X i [] xNil := ⟨fun _ _ _ => tNil, fun _ _ _ _ _ _ _ => pa_nil, fun c F H σ ρ a cls d ex Qd Qv e _ _ _ h q => q [] [] F H h e (Same.refl _) (Kx.refl _ _ _) rfl⟩
theorem ExRep.mono {F1 : Hp} {ex : Exc} {cls : Value} {d : Option Addr} (s : Same F F1) (h : ExRep K F ex cls d) : ExRep K F1 ex cls d := by
  obtain ⟨h1, h2⟩ := h
  refine ⟨h1, ?_⟩
  cases q : ex.fld with
  | none => rw [q] at h2; exact h2
  | some p =>
    rw [q] at h2
    obtain ⟨dx, v, z1, z2, z3⟩ := h2
    exact ⟨dx, v, z1, s _ _ z2, Rep.mono s _ _ z3⟩
theorem dax_cons (ha : DX Z X i e wx) (hr : DAX Z X i es ax) (hs : starEach (e :: es) X.env = (false, eval e X.env) :: starEach es X.env := by rfl) : DAX Z X i (e :: es) (xCons wx ax) := by
  obtain ⟨t, p, l⟩ := ha
  obtain ⟨t1, p1, l1⟩ := hr
  refine ⟨fun a cls d => tCons (t a cls d) (t1 a cls d), fun a oe cls d pn hz hf => pa_cons (p a oe cls d pn hz hf) (p1 a oe cls d pn hz hf) hs, fun c F H σ ρ a cls d ex Qd Qv e hi hl r h q => ?_⟩
  refine l c F H σ ρ a cls d ex _ _ e hi hl r h fun x v F1 H1 h1 e1 s1 n1 r1 => ?_
  refine l1 c F1 H1 σ ρ a cls d ex _ _ e1 hi hl (r.mono s1) h1 fun xs vs F2 H2 h2 e2 s2 n2 r2 => ?_
  exact q _ _ F2 H2 h2 e2 (s1.trans s2) (n1.trans n2) ⟨v, vs, rfl, Rep.mono s2 _ _ r1, r2⟩
theorem dx_lst (h : DAX Z X i es ax) : DX Z X i (.List es pos) (xLst ax) := by
  obtain ⟨t, p, l⟩ := h
  refine ⟨fun a cls d => tLst (t a cls d), fun a oe cls d pn hz hf => pe_lst (p a oe cls d pn hz hf), fun c F H σ ρ a cls d ex Qd Qv e hi hl r h q => ?_⟩
  refine l c F H σ ρ a cls d ex _ _ e hi hl r h fun xs vs F1 H1 h1 e1 s1 n1 r1 => ?_
  refine ⟨by rw [r1.len]; exact sz h1.1, fun p hp => ?_⟩
  obtain ⟨x, r⟩ := lay_lst e1.fh r1 hp
  exact q _ _ _ _ h1.2 (e1.ext x) (s1.trans x.ff) (n1.trans x.kx) r
theorem dx_tup {j : Nat} (h : DAX Z X i es ax) : DX Z X i (.Tuple es j pos) (xTup ax) := by
  obtain ⟨t, p, l⟩ := h
  refine ⟨fun a cls d => tTup (t a cls d), fun a oe cls d pn hz hf => pe_tup (p a oe cls d pn hz hf), fun c F H σ ρ a cls d ex Qd Qv e hi hl r h q => ?_⟩
  refine l c F H σ ρ a cls d ex _ _ e hi hl r h fun xs vs F1 H1 h1 e1 s1 n1 r1 => ?_
  refine ⟨by rw [r1.len]; exact sz h1.1, fun p hp => ?_⟩
  obtain ⟨x, r⟩ := lay_tup e1.fh r1 hp
  exact q _ _ _ _ h1.2 (e1.ext x) (s1.trans x.ff) (n1.trans x.kx) r
/-- except C: x = '..' -/
def suStr (j : Nat) (s : Str) : SuW := fun _ _ DD ρ => DD.nx (ρ.set j (.d (.str s)))
theorem dsu_str {x s : Str} {pos' p : Pos} {m : Nat} (j : Nat) (hN : X.N.Nodup) (hi : X.N[j]? = some x := by rfl) (hx : Loc X.env.scope x := by first | exact Or.inl rfl | exact Or.inr rfl) (hs : swapsWith (.Constant (.str s) m p) (some (.Name x pos')) pos.line X.env = pure false := by rfl)
    (hf : X.fn x = true ∨ X.env.scope.names.lookup x = some .local := by first | exact .inl rfl | exact .inr rfl) : DSu Z X [.Assign [.Name x pos'] (.Constant (.str s) m p) pos] none (suStr j s) := by
  refine ⟨fun a cls d => tAsg (tC (.str s)) (gName j), fun a oe cls d pn hz hff => pss_one (ps_set (X := X.suite a ((a, oe) :: pn)) hN hi hx pe_str hs hf), fun c F H σ ρ Xd DD D a cls d ex e r h q => ?_⟩
  exact q.nx _ _ F H h (e.setD (x := .str s) rfl) (Same.refl _) (Nx.refl _)
/-- except C as e: x = .. -/
def suAsg (i j : Nat) (w : EX) : SuW := fun ex _ DD ρ => i < ρ.length ∧ w ex fun x => DD.nx (((ρ.set i .un).set j (.d x)).set i .un)
theorem dsu_asg {x : Str} {pos' : Pos} (i j : Nat) (hN : X.N.Nodup) (he : DX Z X i e wx) (hi : X.N[j]? = some x := by rfl) (hx : Loc X.env.scope x := by first | exact Or.inl rfl | exact Or.inr rfl) (hs : swapsWith e (some (.Name x pos')) pos.line X.env = pure false := by rfl)
    (hf : X.fn x = true ∨ X.env.scope.names.lookup x = some .local := by first | exact .inl rfl | exact .inr rfl) : DSu Z X [.Assign [.Name x pos'] e pos] (some i) (suAsg i j wx) := by
  obtain ⟨t, p, l⟩ := he
  refine ⟨fun a cls d => tAsg (t a cls d) (gName j), fun a oe cls d pn hz hff => pss_one (ps_set (X := X.suite a ((a, oe) :: pn)) hN hi hx (p a oe cls d pn hz hff) hs hf), fun c F H σ ρ Xd DD D a cls d ex e r h q => ?_⟩
  obtain ⟨hl, h⟩ := h
  have e1 : EnvOk Z X.K c F H (σ.set i (some (.ref a))) (ρ.set i .un) := e.setU
  refine l c F H _ _ a cls d ex _ _ e1 (fun _ => List.getElem?_set_self (by rw [e.len]; exact hl)) (by rw [List.length_set, e.len]; exact hl) r h fun x v F2 H2 h2 e2 s2 n2 r2 => ?_
  exact q.nx _ _ F2 H2 h2 (e2.setD r2).setU s2 n2.nx
end
theorem err_pair {K : PySem.W.Frag} {a c : Str} {A0 C0 A C : Addr} {b : Bool} (h1 : PySem.W.nsIn K mainGlobals a = some (some (.ref A0))) (h2 : PySem.W.nsIn K mainGlobals c = some (some (.ref C0))) (h3 : PySem.W.exmOne K (.ref A0) (.ref C0) = some b)
    (k1 : PySem.W.nsIn K mainGlobals a = some (some (.ref A))) (k2 : PySem.W.nsIn K mainGlobals c = some (some (.ref C))) (hb : subX a c = b := by rfl) : PySem.W.exmOne K (.ref A) (.ref C) = some (subX a c) := by
  rw [h1] at k1
  cases k1
  rw [h2] at k2
  cases k2
  rw [hb]
  exact h3
end DL
set_option linter.all false
set_option autoImplicit false
set_option maxHeartbeats 4000000
set_option maxRecDepth 100000
/-! Instances: made, their fields stored and read. -/
namespace DL
open PySem PySem.Spec PyProof.Rows L2
/-- what the written part says of a class C of the program: fields fns -/
structure ClsD (K : PySem.W.Frag) (mg : Str → Option Value) (C : Str) (fns : List Str) : Prop where
  ex : ∃ CA : Addr, mg C = some (.ref CA) ∧ PySem.W.nsIn K mainGlobals C = some (some (.ref CA)) ∧ Cls K CA ∧ ∀ f ∈ fns, NoAttr K CA f
def putD (f : Str) (v : D) : List (Str × D) → List (Str × D)
  | [] => [(f, v)]
  | (g, x) :: r => if g = f then (g, v) :: r else (g, x) :: putD f v r
def notObj : SV → Bool
  | .obj _ _ _ => false
  | _ => true
/-- no other slot holds an instance of the frame's own -/
def onlyAt (ρ : Env) (i : Nat) : Bool := (ρ.set i .un).all notObj
theorem nob_d {x : D} : notObj (.d x) = true := rfl
theorem nob_un : notObj .un = true := rfl
theorem nob_own {xs : List D} : notObj (.own xs) = true := rfl
theorem nob_src : notObj .src = true := rfl
/-! ### readings -/
def wFld (C f : Str) (a : EW) : EW := fun X ρ Q => a X ρ fun x => match x with
  | .ins D ns xs => D = C ∧ match (ns.zip xs).lookup f with
    | some y => Q y
    | none => False
  | _ => False
def wOfld (C : Str) (i : Nat) (f : Str) : EW := fun _ ρ Q => match ρ[i]? with
  | some (.obj _ D fs) => D = C ∧ match fs.lookup f with
    | some y => Q y
    | none => False
  | _ => False
def gOfld (C : Str) (i : Nat) (f : Str) : GW := fun x ρ Q => match ρ[i]? with
  | some (.obj px D fs) => D = C ∧ onlyAt ρ i = true ∧ Nat.blt fs.length 1000 = true ∧ Q (ρ.set i (.obj px D (putD f x fs)))
  | _ => False
abbrev ISpec := List D → (List (Str × D) → Prop) → Prop
def wMake (C : Str) (sp : ISpec) (t : AW) : EW := fun X ρ Q => t X ρ fun ss => match datas ss with
  | some xs => sp xs fun fs => Q (.ins C (fs.map (·.1)) (fs.map (·.2)))
  | none => False
section
variable {Z : SrcK} {X : Cx} {E : L2.St → XK} {K : PySem.W.Frag} {e : Expr} {w : EW} {pos : Pos} {c : Cfg} {F H F' H' : Hp} {σ : L2.St} {ρ : Env}
theorem repF_lookup {f : Str} {y : D} : ∀ {fs : List (Str × V)} {ns : List Str} {xs : List D}, fs.map (·.1) = ns → RepL K F xs (fs.map (·.2)) → (ns.zip xs).lookup f = some y → ∃ v, fs.lookup f = some v ∧ Rep K F y v
  | [], ns, xs, h1, h2, h3 => by
    have h1 : ([] : List Str) = ns := h1
    subst h1
    cases h3
  | (g, v) :: fs, ns, xs, h1, h2, h3 => by
    have h1 : g :: fs.map (·.1) = ns := h1
    subst h1
    cases xs with
    | nil => cases h3
    | cons x xs =>
      obtain ⟨v', r, e, r1, r2⟩ := h2
      have e : v :: fs.map (·.2) = v' :: r := e
      injection e with e1 e2
      subst e1 e2
      have h3 : List.lookup f ((g, x) :: (fs.map (·.1)).zip xs) = some y := h3
      simp only [List.lookup] at h3 ⊢
      cases q : f == g with
      | true =>
        rw [q] at h3
        have h3 : x = y := Option.some.inj h3
        subst h3
        exact ⟨v, rfl, r1⟩
      | false =>
        rw [q] at h3
        exact repF_lookup rfl r2 h3
theorem de_fld {C f : Str} {fns : List Str} (T : ClsD X.K X.mg C fns) (h : DE Z X E e w) (hf : f ∈ fns := by decide) (hb : attributeBase e f X.env (eval e X.env) = eval e X.env := by rfl) : DE Z X E (.Attribute e f pos) (wFld C f w) := by
  obtain ⟨CA, _, nC, cl, na⟩ := T.ex
  obtain ⟨t, p, l⟩ := h
  refine ⟨_, pe_fld p hb, fun c F H σ ρ Xd Qd Qv e k h q => ?_⟩
  refine l c F H σ ρ Xd _ _ e k h fun d v F1 H1 h1 e1 s1 n1 r1 => ?_
  cases d with
  | ins D ns xs =>
    obtain ⟨h1, h2⟩ := h1
    subst h1
    obtain ⟨a, dx, fs, rfl, ⟨CB, r2, r3⟩, r4, r5⟩ := r1
    rw [nC] at r3
    cases r3
    cases q1 : (ns.zip xs).lookup f with
    | none => rw [q1] at h2; exact h2.elim
    | some y =>
      rw [q1] at h2
      obtain ⟨v, l1, l2⟩ := repF_lookup r4 r5 q1
      exact ⟨a, _, dx, fs, v, rfl, e1.fh _ _ r2, cl, na f hf, l1, q y v F1 H1 h2 e1 s1 n1 l2⟩
  | non => exact h1.elim
  | bl _ => exact h1.elim
  | int _ => exact h1.elim
  | str _ => exact h1.elim
  | tup _ => exact h1.elim
  | lst _ => exact h1.elim
theorem obj_cases {i : Nat} {P : Addr → Str → List (Str × D) → Prop} (h : match ρ[i]? with
  | some (SV.obj px C fs) => P px C fs
  | _ => False) : ∃ px C fs, ρ[i]? = some (SV.obj px C fs) ∧ P px C fs := by
  cases q1 : ρ[i]? with
  | none => rw [q1] at h; exact h.elim
  | some s =>
    rw [q1] at h
    cases s with
    | obj px C fs => exact ⟨px, C, fs, rfl, h⟩
    | un => exact h.elim
    | src => exact h.elim
    | own _ => exact h.elim
    | d _ => exact h.elim
theorem zip_map {α β : Type} : ∀ fs : List (α × β), (fs.map (·.1)).zip (fs.map (·.2)) = fs
  | [] => rfl
  | p :: fs => by rw [List.map_cons, List.map_cons, List.zip_cons_cons, zip_map fs]
theorem de_ofld {C f x : Str} {p : Pos} {fns : List Str} (i : Nat) (T : ClsD X.K X.mg C fns) (hf : f ∈ fns := by decide) (hN : X.N[i]? = some x := by rfl) (hv : Vis X.env.scope x := by first | exact Or.inl rfl | exact Or.inr (Or.inl rfl) | exact Or.inr (Or.inr rfl)) (hd : (x == ("__debug__" : Str)) = false := by decide)
    (hcd : (x == ("__classdict__" : Str)) = false := by decide) (hb : attributeBase (.Name x p) f X.env (eval (.Name x p) X.env) = eval (.Name x p) X.env := by rfl) (hC : C ≠ ("{}" : Str) := by decide) : DE Z X E (.Attribute (.Name x p) f pos) (wOfld C i f) := by
  obtain ⟨CA, _, nC, cl, na⟩ := T.ex
  refine ⟨_, pe_fld (pe_var hN hv hd hcd) hb, fun c F H σ ρ Xd Qd Qv e k h q => ?_⟩
  obtain ⟨a, D, fs, h1, h2, h3⟩ := obj_cases h
  subst h2
  obtain ⟨o, o1, ob, gs, rfl, r2, r3, r4, r5, r6, r7⟩ := e.slot i _ h1
  obtain ⟨CB, dx, rfl, r8⟩ := r5.ins hC
  rw [nC] at r8
  cases r8
  cases q1 : fs.lookup f with
  | none => rw [q1] at h3; exact h3.elim
  | some y =>
    rw [q1] at h3
    obtain ⟨v, l1, l2⟩ := repF_lookup (f := f) (y := y) r6 r7 (by rw [zip_map]; exact q1)
    exact ⟨.ref a, o1, a, _, dx, gs, v, rfl, r4, cl, na f hf, l1, q y v F H h3 e (Same.refl _) (Kx.refl _ _ _) l2⟩
theorem put_map {f : Str} {d : D} {v : V} : ∀ {fs : List (Str × D)} {gs : List (Str × V)}, gs.map (·.1) = fs.map (·.1) → RepL K F (fs.map (·.2)) (gs.map (·.2)) → Rep K F d v → (putF f v gs).map (·.1) = (putD f d fs).map (·.1) ∧ RepL K F ((putD f d fs).map (·.2)) ((putF f v gs).map (·.2))
  | [], [], _, _, r => ⟨rfl, v, [], rfl, r, rfl⟩
  | [], _ :: _, h, _, _ => by cases h
  | _ :: _, [], h, _, _ => by cases h
  | (g, x) :: fs, (g', y) :: gs, h1, h2, r => by
    have h1 : g' :: gs.map (·.1) = g :: fs.map (·.1) := h1
    injection h1 with e1 h0
    subst e1
    obtain ⟨v', t, e, r1, r2⟩ := h2
    have e : y :: gs.map (·.2) = v' :: t := e
    injection e with e1 e2
    subst e1 e2
    unfold putF putD
    by_cases hf : g' = f
    · rw [if_pos hf, if_pos hf]
      exact ⟨by simpa using h0, v, _, rfl, r, r2⟩
    · rw [if_neg hf, if_neg hf]
      obtain ⟨i1, i2⟩ := put_map (f := f) h0 r2 r
      exact ⟨by simpa using i1, y, _, rfl, r1, i2⟩
theorem EnvOk.mutateO {i : Nat} {C : Str} {fs fs' : List (Str × D)} {a : Addr} {ob ob' : HO} {gs' : List (Str × V)} (e : EnvOk Z K c F H σ ρ) (h : ρ[i]? = some (SV.obj a C fs)) (hs : σ[i]? = some (some (V.ref a))) (hp : H a = some ob) (nl : ∀ vs, ob ≠ .lst vs) (hf : F a = none) (h0 : c.H0 a = none) (nC : ObAt K C gs' ob')
    (ho : onlyAt ρ i = true) (m : gs'.map (·.1) = fs'.map (·.1)) (r : RepL K F (fs'.map (·.2)) (gs'.map (·.2))) : EnvOk Z K c F (upd H a ob') σ (ρ.set i (.obj a C fs')) := by
  have hl : i < ρ.length := by
    rcases Nat.lt_or_ge i ρ.length with z | z
    · exact z
    · rw [List.getElem?_eq_none_iff.mpr z] at h
      cases h
  have nF : ∀ b o, F b = some o → b ≠ a := fun b o q z => by
    rw [z, hf] at q
    cases q
  have no : ∀ (j : Nat) px D gs, j ≠ i → ρ[j]? ≠ some (SV.obj px D gs) := fun j px D gs hj z => by
    unfold onlyAt at ho
    rw [List.all_eq_true] at ho
    have m : SV.obj px D gs ∈ ρ.set i .un := by
      have : (ρ.set i .un)[j]? = some (SV.obj px D gs) := by rw [List.getElem?_set_ne (Ne.symm hj)]; exact z
      exact List.mem_of_getElem? this
    exact Bool.noConfusion (ho _ m)
  refine ⟨by rw [List.length_set]; exact e.len, fun j t h1 => ?_, fun j k us zs hjk h1 h2 => ?_, fun b o q => ?_, e.f0, e.new, fun b o q hb => ?_, fun b q => ?_, fun x fp q => ?_⟩
  · by_cases hj : j = i
    · subst hj
      rw [List.getElem?_set_self hl] at h1
      cases h1
      exact ⟨_, hs, ob', gs', rfl, hf, h0, upd_same, nC, m, r⟩
    · rw [List.getElem?_set_ne (Ne.symm hj)] at h1
      obtain ⟨o, o1, o2⟩ := e.slot j t h1
      refine ⟨o, o1, ?_⟩
      cases t with
      | own us =>
        obtain ⟨b, us', r1, r2, r3, r4, r5⟩ := o2
        refine ⟨b, us', r1, r2, r3, ?_, r5⟩
        have hb : b ≠ a := fun z => by rw [z, hp] at r4; exact absurd (Option.some.inj r4) (nl _)
        rw [upd_ne hb]
        exact r4
      | un => trivial
      | d y => exact o2
      | src => exact o2
      | obj px D gs => exact absurd h1 (no j px D gs hj)
  · have f : ∀ (j : Nat) us, (ρ.set i (SV.obj a C fs'))[j]? = some (SV.own us) → ρ[j]? = some (SV.own us) := fun j us h1 => by
      by_cases hj : j = i
      · subst hj
        rw [List.getElem?_set_self hl] at h1
        cases h1
      · rw [List.getElem?_set_ne (Ne.symm hj)] at h1
        exact h1
    exact e.sep j k us zs hjk (f j us h1) (f k zs h2)
  · rw [upd_ne (nF b o q)]
    exact e.fh b o q
  · have hb2 : b ≠ a := fun z => by rw [z, h0] at q; cases q
    rw [upd_ne hb2]
    exact e.keep b o q hb
  · have hb2 : b ≠ a := fun z => by rw [z, h0] at q; exact q rfl
    rw [upd_ne hb2]
    exact e.all b q
  · obtain ⟨q1, q2⟩ := e.src x fp q
    refine ⟨Z.loc q1 fun b hb => ?_, q2⟩
    have hb2 : b ≠ a := fun z => (q2 b hb).2 (by rw [z]; exact h0)
    rw [upd_ne hb2]
/-- o.f as a target -/
def gAttr (K : PySem.W.Frag) (to : TE) (f : Str) : TG := fun v σ H Q => to σ H fun x H1 => ∃ a C dx fs, x = .ref a ∧ H1 a = some (.ins C dx fs) ∧ Cls K C ∧ NoAttr K C f ∧ fs.length < 1000 ∧ Q σ (upd H1 a (.ins C dx (putF f v fs)))
theorem pg_attr {o : Expr} {to : TE} {f : Str} (ho : PE X o to) : PG X (.Attribute o f pos) (gAttr X.K to f) := by
  refine ⟨fun pins s σ H v u Q I r h => ?_⟩
  rw [assign_Attribute]
  refine wpAny_bind (wpAny_holding (thn (ho.run pins s σ H _ I h) fun ov s1 ⟨x, H1, I1, r1, a, C, dx, fs, e1, e2, cl, na, hl, q⟩ => ?_))
  subst e1
  obtain rfl : ov = Value.ref a := r1
  exact wpAny_bind (wpAny_standAt (wpAny_bind (wpAny_holding (setattr_ok I1 e2 cl na hl r fun s3 I3 => wpAny_release ⟨σ, _, I3, q⟩))))
theorem dg_attr {C f x : Str} {p : Pos} {fns : List Str} (i : Nat) (T : ClsD X.K X.mg C fns) (hf : f ∈ fns := by decide) (hN : X.N[i]? = some x := by rfl) (hv : Vis X.env.scope x := by first | exact Or.inl rfl | exact Or.inr (Or.inl rfl) | exact Or.inr (Or.inr rfl)) (hd : (x == ("__debug__" : Str)) = false := by decide)
    (hcd : (x == ("__classdict__" : Str)) = false := by decide) (hC : C ≠ ("{}" : Str) := by decide) : DG Z X (.Attribute (.Name x p) f pos) (gOfld C i f) := by
  obtain ⟨CA, _, nC, cl, na⟩ := T.ex
  refine ⟨_, pg_attr (pe_var hN hv hd hcd), fun c F H σ ρ d v Qd Qv e r h q => ?_⟩
  obtain ⟨a, D, fs, h1, h2, h3, h4, h5⟩ := obj_cases h
  subst h2
  obtain ⟨o, o1, ob, gs, rfl, r2, r3, r4, r5, r6, r7⟩ := e.slot i _ h1
  obtain ⟨CB, dx, rfl, r8⟩ := r5.ins hC
  rw [nC] at r8
  cases r8
  obtain ⟨m1, m2⟩ := put_map (f := f) r6 r7 r
  refine ⟨.ref a, o1, a, _, dx, gs, rfl, r4, cl, na f hf, by have := congrArg List.length r6; rw [List.length_map, List.length_map] at this; have h4 := Nat.le_of_ble_eq_true h4; omega, ?_⟩
  refine q _ _ F _ h5 (e.mutateO h1 o1 r4 (fun vs z => nomatch z) r2 r3 ⟨rfl, hC, nC⟩ h3 m1 m2) (Same.refl _) nx_mut
/-! ### __init__ -/
/-- H without x -/
def less (H : Hp) (x : Addr) : Hp := fun b => if b = x then none else H b
theorem less_at {H : Hp} {x : Addr} : less H x x = none := if_pos rfl
theorem less_ne {H : Hp} {x b : Addr} (h : b ≠ x) : less H x b = H b := if_neg h
/-- what __init__ of C promises, over data -/
def spI (Z : SrcK) (K : PySem.W.Frag) (C : Str) (sp : ISpec) : Sp := fun vs H Q _ => ∃ (x dx CA : Addr) (ws : List V) (F : Hp) (ds : List D) (Qd : List (Str × D) → Prop),
  vs = .ref x :: ws ∧ H x = some (.ins CA dx []) ∧ F x = none ∧ PySem.W.nsIn K mainGlobals C = some (some (.ref CA)) ∧ Same F H ∧ RepL K F ds ws ∧ sp ds Qd ∧
  ∀ fs gs dx' F' H', Qd fs → After Z none [] F (less H x) F' (less H' x) → F' x = none → H' x = some (.ins CA dx' gs) → gs.map (·.1) = fs.map (·.1) → RepL K F' (fs.map (·.2)) (gs.map (·.2)) → Same F' H' → Q .non H'
variable {es : List Expr} {ws : AW}
theorem de_make {k j : Nat} {C : Str} {fns : List Str} {sp : ISpec} {f : Addr} {fd : FuncData} {ps : List Str} {p : Pos} (A : At X E k) (hk : j + 1 ≤ k) (T : ClsD X.K X.mg C fns) (M : ∀ CA, X.mg C = some (.ref CA) → Mk X.K CA f) (G : FnOk X.prog X.w X.K X.mg X.base (L2.CX X.prog X.w) j f fd ps (spI Z X.K C sp)) (hb : Binds X.K fd ps []) (ha : DA Z X E (e :: es) ws) (hg : Gl X C := by rfl) (hdb : (C == ("__debug__" : Str)) = false := by decide)
    (he : starEach (e :: es) X.env = (false, eval e X.env) :: starEach es X.env := by rfl) (hpl : (backTo pos (starEach es X.env)).any (·.1) = false := by rfl) : DE Z X E (.Call (.Name C p) (e :: es) [] pos) (wMake C sp ws) := by
  obtain ⟨CA, mC, nC, cl, na⟩ := T.ex
  obtain ⟨t, pa, la⟩ := ha
  refine ⟨_, pe_make (CX := L2.CX X.prog X.w) (E := E0) (M CA mC) G (A.room.mono hk) hg mC hb .nil (fun _ _ _ _ _ _ _ ⟨_, _, _, _, _, _, _, _, _, _, _, _, z⟩ => z.elim) pa hdb he hpl, fun c F H σ ρ Xd Qd Qv e k h q => ?_⟩
  refine la c F H σ ρ Xd _ _ e k h fun ss vs F1 H1 h1 e1 s1 n1 r1 => ?_
  cases q1 : datas ss with
  | none => rw [q1] at h1; exact h1.elim
  | some xs =>
    rw [q1] at h1
    have rr := r1.datas q1
    intro x dx hx hdx hne
    have f1 : F1 x = none := e1.fh.free hx
    have hH : ∀ b o, H1 b = some o → (upd (upd H1 dx (.own x)) x (.ins CA dx [])) b = some o := fun b o hb => by
      rw [upd_ne (ne_of_none hb hx), upd_ne (ne_of_none hb hdx)]
      exact hb
    refine ⟨x, dx, CA, vs, F1, xs, _, by rw [List.append_nil], upd_same, f1, nC, fun b o hb => hH b o (e1.fh b o hb), rr, h1, fun fs gs dx' F' H' qf af fx hx' m r sF => ⟨rfl, ?_⟩⟩
    have keep : ∀ b o, H1 b = some o → H' b = some o := fun b o hb => by
      have hbx := ne_of_none hb hx
      have := af.keep b o (by rw [less_ne hbx]; exact hH b o hb) (fun z => nomatch z)
      rw [less_ne hbx] at this
      exact this
    have new : ∀ b, F' b ≠ none → F1 b ≠ none ∨ H1 b = none := fun b hb => by
      rcases af.new b hb with z | z
      · exact .inl z
      · cases q2 : H1 b with
        | none => exact .inr rfl
        | some o =>
          rw [less_ne (ne_of_none q2 hx), hH b o q2] at z
          cases z
    have a2 : After Z c.src c.fp F1 H1 F' H' := ⟨af.ff, sF, new, fun b o hb _ => keep b o hb, fun b hb => by
      obtain ⟨o, ho⟩ := ne_some hb
      rw [keep b o ho]
      simp, fun a fp hs => by
      obtain ⟨p1, p2⟩ := e1.src a fp hs
      refine ⟨Z.loc p1 fun b hb => ?_, fun b hb => ?_⟩
      · obtain ⟨o, ho⟩ := ne_some ((Z.tr p1).2 b hb)
        rw [ho, keep b o ho]
      · cases z : F' b with
        | none => rfl
        | some u =>
          rcases new b (by rw [z]; simp) with z2 | z2
          · exact absurd (p2 b hb).1 z2
          · exact absurd z2 ((Z.tr p1).2 b hb)⟩
    have e2 := e1.after a2
    have sF2 : Same F' (upd F' x (.ins CA dx' gs)) := fun b u hb => by
      rw [upd_ne (ne_of_none hb fx)]
      exact hb
    have x2 : EnvOk Z X.K c (upd F' x (.ins CA dx' gs)) H' σ ρ := by
      have old : ∀ b o, H1 b = some o → b ≠ x := fun b o hb => ne_of_none hb hx
      refine ⟨e2.len, fun i s h => ?_, e2.sep, fun b u hb => ?_, e2.f0.trans sF2, fun b hb => ?_, e2.keep, e2.all, fun a fp hs => ?_⟩
      · obtain ⟨o, h1, h2⟩ := e1.slot i s h
        obtain ⟨o', h1', h2'⟩ := e2.slot i s h
        rw [h1] at h1'
        cases h1'
        refine ⟨o, h1, ?_⟩
        cases s with
        | own ys =>
          obtain ⟨b, w1, r1, r2, r3, r4, r5⟩ := h2
          obtain ⟨b', w2, q1, q2, q3, q4, q5⟩ := h2'
          rw [r1] at q1
          cases q1
          exact ⟨b, w2, r1, by rw [upd_ne (old b _ r4)]; exact q2, q3, q4, RepL.mono sF2 _ _ q5⟩
        | un => trivial
        | d y =>
          obtain ⟨v, z1, z2⟩ := h2'
          exact ⟨v, z1, Rep.mono sF2 _ _ z2⟩
        | src => exact h2'
        | obj b D gs' =>
          obtain ⟨_, _, r1, _, _, r4, _⟩ := h2
          obtain ⟨o', w2, q1, q2, q3, q4, q5, q6, q7⟩ := h2'
          exact ⟨o', w2, r1, by rw [upd_ne (old b _ r4)]; exact q2, q3, q4, q5, q6, RepL.mono sF2 _ _ q7⟩
      · by_cases hb2 : b = x
        · subst hb2
          rw [upd_same] at hb
          cases hb
          exact hx'
        · rw [upd_ne hb2] at hb
          exact sF b u hb
      · by_cases hb2 : b = x
        · subst hb2
          exact .inr (e1.h0 hx)
        · rw [upd_ne hb2] at hb
          exact e2.new b hb
      · obtain ⟨p1, p2⟩ := e2.src a fp hs
        refine ⟨p1, fun b hb => ⟨?_, (p2 b hb).2⟩⟩
        obtain ⟨o, ho⟩ := ne_some ((Z.tr (e1.src a fp hs).1).2 b hb)
        rw [upd_ne (old b o ho)]
        exact (p2 b hb).1
    refine q _ _ _ H' qf x2 ((s1.trans a2.ff).trans sF2) (n1.trans ⟨a2.all, fun b o hb _ => keep b o hb, fun b hb => ?_⟩) ⟨x, dx', gs, rfl, ⟨CA, upd_same, nC⟩, m, RepL.mono sF2 _ _ r⟩
    by_cases hb2 : b = x
    · subst hb2
      exact .inr hx
    · rw [upd_ne hb2] at hb
      exact new b hb
end
section
variable {P : Program} {w : World} {K : PySem.W.Frag} {mg : Str → Option Value} {base : Heap} {Z : SrcK}
/-- THE RULE for __init__ -/
theorem init_of {C qual : Str} {st : Stmt} {f : Addr} {fd : FuncData} {N ps : List Str} {k : Nat} {sp : ISpec} {wb : SW} (F : Fun K "__init__" qual st f fd) (S : FnScope N ps (defScope st)) (hl : ∀ ds Q, sp ds Q → ds.length + 1 = ps.length)
    (hbody : ∀ (cdv : Value) (A : Around) (outer : List PySem.Env) (s : Shared) (H : Hp) (E : XK), Room k (A.deeper (envOfC qual (defScope st) s.heap.objs.size f cdv)) →
      DSs Z (cxOf (L2.CX P w) P w K mg base N qual (defScope st) f cdv A outer s H E) (fun _ => E) (defBody st) wb)
    (hw : ∀ x ds Q, sp ds Q → wb (fun _ _ => False) { nx := fun ρ => ∃ fs, ρ[0]? = some (.obj x C fs) ∧ Q fs, rt := fun _ => False } ((.obj x C [] :: ds.map SV.d) ++ List.replicate (N.length - (ds.length + 1)) .un)) (hC : C ≠ ("{}" : Str) := by decide) : FnOk P w K mg base (L2.CX P w) (k + 1) f fd ps (spI Z K C sp) := by
  refine F.okX S (fun vs H Q E h => ?_) (fun cdv A outer s H vs Q E hr h => ?_)
  · obtain ⟨x, dx, CA, ws, F0, ds, Qd, rfl, _, _, _, _, r, h1, _⟩ := h
    rw [List.length_cons, r.len, hl _ _ h1]
  · obtain ⟨x, dx, CA, ws, F0, ds, Qd, rfl, hx, fx, nC, sF, r, h1, q⟩ := h
    obtain ⟨t, p, l⟩ := hbody cdv A outer s H E hr
    refine ⟨t, p, ?_⟩
    have hN : ds.length + 1 ≤ N.length := by
      rw [hl _ _ h1]
      have e := congrArg List.length S.pre
      rw [List.length_take] at e
      omega
    have hlen := r.len
    have e0 : EnvOk Z K ⟨none, F0, less H x⟩ F0 H (L2.start N (.ref x :: ws)) ((.obj x C [] :: ds.map SV.d) ++ List.replicate (N.length - (ds.length + 1)) .un) := by
      have noOwn : ∀ (j : Nat) xs, ((SV.obj x C [] :: ds.map SV.d) ++ List.replicate (N.length - (ds.length + 1)) SV.un)[j]? ≠ some (SV.own xs) := fun j xs z => by
        have m := List.mem_of_getElem? z
        rcases List.mem_append.mp m with m | m
        · rcases List.mem_cons.mp m with m | m
          · cases m
          · obtain ⟨y, _, e⟩ := List.mem_map.mp m
            cases e
        · cases (List.mem_replicate.mp m).2
      refine ⟨?_, fun j s hj => ?_, fun i j xs ys _ z _ => absurd z (noOwn i xs), sF, Same.refl _, fun b hb => .inl hb, fun b o hb _ => ?_, fun b hb => ?_, fun a fp z => nomatch z⟩
      · unfold L2.start
        simp only [List.length_append, List.length_map, List.length_cons, List.length_replicate]
        omega
      · have hL : (L2.start N (.ref x :: ws)) = (some (V.ref x) :: ws.map some) ++ List.replicate (N.length - (ws.length + 1)) none := by
          unfold L2.start
          simp
        rw [hL]
        by_cases hj1 : j < ds.length + 1
        · rw [List.getElem?_append_left (by simpa using hj1)] at hj
          rw [List.getElem?_append_left (by simp; omega)]
          cases j with
          | zero =>
            cases hj
            exact ⟨_, rfl, _, [], rfl, fx, less_at, hx, ⟨rfl, hC, nC⟩, rfl, rfl⟩
          | succ j =>
            have hj : (ds.map SV.d)[j]? = some s := hj
            rw [List.getElem?_map] at hj
            cases q2 : ds[j]? with
            | none => rw [q2] at hj; cases hj
            | some y =>
              rw [q2] at hj
              cases hj
              obtain ⟨v, v1, v2⟩ := r.get q2
              exact ⟨some v, by show (ws.map some)[j]? = _; rw [List.getElem?_map, v1]; rfl, v, rfl, v2⟩
        · rw [List.getElem?_append_right (by simp; omega), List.getElem?_replicate] at hj
          split at hj
          · rename_i hc
            cases hj
            refine ⟨none, ?_, trivial⟩
            rw [List.getElem?_append_right (by simp; omega), List.getElem?_replicate, if_pos]
            simp at hc ⊢
            omega
          · cases hj
      · have hbx : b ≠ x := fun z => by rw [z] at hb; have : less H x x = some o := hb; rw [less_at] at this; cases this
        have : less H x b = some o := hb
        rw [less_ne hbx] at this
        exact this
      · intro z
        apply hb
        show less H x b = none
        unfold less
        rw [z]
        split <;> rfl
    refine l ⟨none, F0, less H x⟩ F0 H _ _ _ _ _ e0 elk0 (hw x ds Qd h1) ⟨fun σ ρ F' H' z e' s' n' => ?_, fun _ _ _ _ _ _ z => z.elim, fun _ _ _ _ z => z.elim, fun _ _ _ _ z => z.elim⟩
    obtain ⟨fs, z1, z2⟩ := z
    obtain ⟨o, o1, ob, gs, rfl, r2, r3, r4, r5, r6, r7⟩ := e'.slot 0 _ z1
    obtain ⟨CB, dx', rfl, r8⟩ := r5.ins hC
    have r8 := nC.symm.trans r8
    cases r8
    refine q fs gs dx' F' H' z2 ⟨e'.f0, fun b u hb => ?_, fun b hb => e'.new b hb, fun b u hb _ => ?_, fun b hb => ?_, fun _ _ z => nomatch z⟩ r2 r4 r6 r7 e'.fh
    · rw [less_ne (ne_of_none hb r2)]
      exact e'.fh b u hb
    · have hbx : b ≠ x := fun z => by rw [z, less_at] at hb; cases hb
      rw [less_ne hbx]
      exact e'.keep b u hb fun z => nomatch z
    · have hbx : b ≠ x := fun z => hb (by rw [z, less_at])
      rw [less_ne hbx]
      exact e'.all b hb
end
def clsDef : Stmt → Nat → Stmt
  | .ClassDef (body := b) .., i => b.getD i (.Pass ⟨0, 0, 0, 0⟩)
  | st, _ => st
theorem gOfld_ex {C f : Str} {i : Nat} : ∀ d ρ Q, gOfld C i f d ρ Q → ∃ ρ', Q ρ' := fun d ρ Q h => by
  obtain ⟨_, _, _, _, _, _, _, z⟩ := obj_cases h
  exact ⟨_, z⟩
/-- a class that is made by a call, as its callers know it -/
structure FdI (P : Program) (w : World) (K : PySem.W.Frag) (mg : Str → Option Value) (base : Heap) (Z : SrcK) (k : Nat) (C : Str) (ps : List Str) (sp : ISpec) : Prop where
  ex : ∃ (f : Addr) (fd : FuncData), FnOk P w K mg base (L2.CX P w) k f fd ps (spI Z K C sp) ∧ (∀ CA, mg C = some (.ref CA) → Mk K CA f) ∧ Binds K fd ps []
theorem de_makeF {Z : SrcK} {X : Cx} {E : L2.St → XK} {e : Expr} {pos : Pos} {es : List Expr} {ws : AW} {k j : Nat} {C : Str} {fns : List Str} {sp : ISpec} {ps : List Str} {p : Pos} (A : At X E k) (hk : j + 1 ≤ k) (T : ClsD X.K X.mg C fns) (G : FdI X.prog X.w X.K X.mg X.base Z j C ps sp) (ha : DA Z X E (e :: es) ws) (hg : Gl X C := by rfl) (hdb : (C == ("__debug__" : Str)) = false := by decide)
    (he : starEach (e :: es) X.env = (false, eval e X.env) :: starEach es X.env := by rfl) (hpl : (backTo pos (starEach es X.env)).any (·.1) = false := by rfl) : DE Z X E (.Call (.Name C p) (e :: es) [] pos) (wMake C sp ws) := by
  obtain ⟨f, fd, F, M, hb⟩ := G.ex
  exact de_make A hk T M F hb ha hg hdb he hpl
abbrev VCI (C : Str) (wb : SW) (n : Nat) (sp : ISpec) : Prop := ∀ (x : Addr) ds Q, sp ds Q → wb (fun _ _ => False) { nx := fun ρ => ∃ fs, ρ[0]? = some (.obj x C fs) ∧ Q fs, rt := fun _ => False } ((.obj x C [] :: ds.map SV.d) ++ List.replicate (n - (ds.length + 1)) .un)
theorem fdI_of {P : Program} {w : World} {K : PySem.W.Frag} {mg : Str → Option Value} {base : Heap} {Z : SrcK} {C qual : Str} {st : Stmt} {f : Addr} {fd : FuncData} {N ps : List Str} {k : Nat} {sp : ISpec} {wb : SW} (F : Fun K "__init__" qual st f fd) (hm : ∀ CA, mg C = some (.ref CA) → Mk K CA f) (hb : Binds K fd ps []) (S : FnScope N ps (defScope st)) (hl : ∀ ds Q, sp ds Q → ds.length + 1 = ps.length)
    (hbody : ∀ (cdv : Value) (A : Around) (outer : List PySem.Env) (s : Shared) (H : Hp) (E : XK), Room k (A.deeper (envOfC qual (defScope st) s.heap.objs.size f cdv)) →
      DSs Z (cxOf (L2.CX P w) P w K mg base N qual (defScope st) f cdv A outer s H E) (fun _ => E) (defBody st) wb)
    (hw : VCI C wb N.length sp) (hC : C ≠ ("{}" : Str) := by decide) : FdI P w K mg base Z (k + 1) C ps sp := ⟨⟨f, fd, init_of F S hl hbody hw hC, hm, hb⟩⟩
theorem mk_eq {K : PySem.W.Frag} {mg : Str → Option Value} {C : Str} {o f : Addr} (mC : mg C = some (.ref o)) (M : Mk K o f) : ∀ CA, mg C = some (.ref CA) → Mk K CA f := fun CA h => by
  rw [mC] at h
  cases h
  exact M
end DL
set_option linter.all false
set_option autoImplicit false
set_option maxHeartbeats 4000000
set_option maxRecDepth 100000
/-! More words: long assignments, max and min of a list, in, ranges with a step. -/
namespace DL
open PySem PySem.Spec PyProof.Rows L2
/-! ### readings -/
def bMaxL : OpN
  | [.lst xs], Q => match intsD xs with
    | some ns => ns ≠ [] ∧ ∀ m ∈ ns, (∀ y ∈ ns, y ≤ m) → Q (.int m)
    | none => False
  | _, _ => False
def bIn : Op2
  | x, .lst ys, Q => plain 40 x = true ∧ plain 40 (.lst ys) = true ∧ Q (.bl (ys.any fun z => peq z x))
  | _, _, _ => False
def bNotIn : Op2
  | x, .lst ys, Q => plain 40 x = true ∧ plain 40 (.lst ys) = true ∧ Q (.bl (!ys.any fun z => peq z x))
  | _, _, _ => False
/-- range(a, b, -1) -/
def downD (lo : Int) (n : Nat) : List D := (List.range n).map fun (k : Nat) => D.int (lo - (k : Int))
section
variable {Z : SrcK} {X : Cx} {E : L2.St → XK} {K : PySem.W.Frag} {a b e : Expr} {w : EW} {pos : Pos} {c : Cfg} {F H F' H' : Hp} {σ : L2.St} {ρ : Env}
theorem lcb_maxL : LCB K (rMax K) bMaxL := fun F H ds vs Qd Qv s r z q => by
  unfold bMaxL at z
  split at z
  · obtain ⟨v, rfl, a, ws, rfl, h2, h3⟩ := repL_1 r
    split at z
    · rename_i bs hb
      have e := intsD_rep h3 hb
      subst e
      obtain ⟨z1, z2⟩ := z
      exact ⟨a, bs, rfl, same_l s h2, List.length_pos_iff.mpr z1, fun m hm hy => q _ _ F H (z2 m hm hy) (Ext.refl s) rfl⟩
    · exact z.elim
  · exact z.elim
mutual
theorem plain_up : ∀ (n : Nat) (d : D), plain n d = true → plain (n + 1) d = true
  | 0, _, h => by simp [plain] at h
  | _ + 1, .non, _ => by simp [plain]
  | _ + 1, .bl _, _ => by simp [plain]
  | _ + 1, .int _, _ => by simp [plain]
  | _ + 1, .str s, h => by
    simp only [plain] at h ⊢
    exact h
  | n + 1, .tup xs, h => by
    simp only [plain] at h ⊢
    exact plainL_up n xs h
  | n + 1, .lst xs, h => by
    simp only [plain] at h ⊢
    exact plainL_up n xs h
  | _ + 1, .ins _ _ _, h => by simp [plain] at h
theorem plainL_up : ∀ (n : Nat) (ds : List D), plainL n ds = true → plainL (n + 1) ds = true
  | _, [], _ => by simp [plainL]
  | n, x :: xs, h => by
    simp only [plainL, Bool.and_eq_true] at h ⊢
    exact ⟨plain_up n x h.1, plainL_up n xs h.2⟩
end
theorem toPyL_any (x : D) (hx : plain 40 x = true) : ∀ {ys : List D}, plainL 39 ys = true → ((toPyL ys).any fun z => PyData.eqv z (toPy x)) = ys.any fun z => peq z x
  | [], _ => rfl
  | y :: ys, h => by
    simp only [plainL, Bool.and_eq_true] at h
    rw [toPyL, List.any_cons, List.any_cons, toPyL_any x hx h.2]
    congr 1
    exact eqv_peq 40 _ _ (plain_up _ _ h.1) hx
theorem lop_in : LOp K (rInD K) bIn := fun F H dx dy vx vy Qd Qv s rx ry z q => by
  unfold bIn at z
  split at z
  · rename_i x ys
    obtain ⟨h1, h2, h3⟩ := z
    refine ⟨toPy _, toPyL ys, rep_dp s _ _ _ h1 rx, rep_dp s _ _ _ h2 ry, plain_shaped h1, plain_shaped h2, ?_⟩
    rw [toPyL_any _ h1 (by simpa only [plain] using h2)]
    exact q _ _ F H h3 (Ext.refl s) rfl
  · exact z.elim
theorem lop_notIn : LOp K (rNotInD K) bNotIn := fun F H dx dy vx vy Qd Qv s rx ry z q => by
  unfold bNotIn at z
  split at z
  · rename_i x ys
    obtain ⟨h1, h2, h3⟩ := z
    refine ⟨toPy _, toPyL ys, rep_dp s _ _ _ h1 rx, rep_dp s _ _ _ h2 ry, plain_shaped h1, plain_shaped h2, ?_⟩
    rw [toPyL_any _ h1 (by simpa only [plain] using h2)]
    exact q _ _ F H h3 (Ext.refl s) rfl
  · exact z.elim
/-! ### a, b, .. = x, y, .. by a tuple that is made and taken apart -/
theorem EnvOk.layO {o : HO} {p : Addr} (e : EnvOk Z K c F H σ ρ) (hp : H p = none) : EnvOk Z K c F (upd H p o) σ ρ where
  len := e.len
  slot := fun i s h => by
    obtain ⟨v, h1, h2⟩ := e.slot i s h
    refine ⟨v, h1, ?_⟩
    cases s with
    | own ys =>
      obtain ⟨a, ws, r1, r2, r3, r4, r5⟩ := h2
      exact ⟨a, ws, r1, r2, r3, by rw [upd_ne (ne_of_none r4 hp)]; exact r4, r5⟩
    | un => trivial
    | d y => exact h2
    | src => exact h2
    | obj px C fs => exact obj_kx h2 (Same.refl _) (fun a u z _ _ => by rw [upd_ne (ne_of_none z hp)]; exact z) fun b z => .inl z
  sep := e.sep
  fh := fun b u h => by
    rw [upd_ne (ne_of_none (e.fh b u h) hp)]
    exact e.fh b u h
  f0 := e.f0
  new := e.new
  keep := fun b u h hb => by
    rw [upd_ne (ne_of_none (e.keep b u h hb) hp)]
    exact e.keep b u h hb
  all := fun b h => by
    obtain ⟨u, h2⟩ := ne_some (e.all b h)
    rw [upd_ne (ne_of_none h2 hp), h2]
    simp
  src := fun a fp h => by
    obtain ⟨p1, q⟩ := e.src a fp h
    refine ⟨Z.loc p1 fun b hb => ?_, q⟩
    obtain ⟨u, h2⟩ := ne_some ((Z.tr p1).2 b hb)
    rw [upd_ne (ne_of_none h2 hp)]
theorem ArgsOo.layO {o : HO} {p : Addr} {F Ha H : Hp} (hp : H p = none) : ∀ {ss : List SV} {vs : List V}, ArgsOo K c F H Ha ss vs → ArgsOo K c F (upd H p o) Ha ss vs
  | [], _, h => h
  | s :: r, vs, h => by
    obtain ⟨v, t, e1, e2, e3, e4⟩ := h
    refine ⟨v, t, e1, ?_, e3, ArgsOo.layO hp e4⟩
    cases s with
    | own ys =>
      obtain ⟨a, ws, r1, r2, r3, r4, r5⟩ := e2
      exact ⟨a, ws, r1, r2, r3, by rw [upd_ne (ne_of_none r4 hp)]; exact r4, r5⟩
    | un => trivial
    | d y => exact e2
    | src => exact e2
    | obj px C fs => exact obj_kx e2 (Same.refl _) (fun a u z _ _ => by rw [upd_ne (ne_of_none z hp)]; exact z) fun b z => .inl z
/-- names as targets, one after another -/
def gNames : List Nat → TGs
  | [] => gNil
  | i :: is => gCons (gName i) (gNames is)
theorem gNames_fold : ∀ {is : List Nat} {vs : List V} {σ : L2.St} {H : Hp} {Q : L2.St → Hp → Prop}, vs.length = is.length → Q ((is.zip vs).foldl (fun s p => s.set p.1 (some p.2)) σ) H → gNames is vs σ H Q
  | [], vs, σ, H, Q, hl, q => by
    have : vs = [] := List.eq_nil_of_length_eq_zero hl
    subst this
    exact ⟨rfl, q⟩
  | i :: is, [], _, _, _, hl, _ => by cases hl
  | i :: is, v :: vs, σ, H, Q, hl, q => ⟨v, vs, rfl, gNames_fold (is := is) (by simpa using hl) q⟩
theorem ds_parT {ts es : List Expr} {kt k2 : Nat} {pt pt2 : Pos} {ws : AW} (is : List Nat) (ha : DAo Z X E es ws) (hg : PGs X ts (gNames is)) (hn : (assignEach ts X.env).length = is.length := by rfl) (hsm : is.length ≤ 100 := by decide) (hc : X.calm = true := by rfl) (hst : (assignEach ts X.env).findIdx? (·.1) = none := by rfl)
    (hs : swapsWithSole [.Tuple ts kt pt] (.Tuple es k2 pt2) pos.line X.env = pure false := by rfl) (hw : swappedStores [.Tuple ts kt pt] (.Tuple es k2 pt2) X.env = pure none := by rfl) (h1 : (assignEach [.Tuple ts kt pt] X.env).map (·.2) = [assign (.Tuple ts kt pt) X.env] := by rfl) :
    DS Z X E (.Assign [.Tuple ts kt pt] (.Tuple es k2 pt2) pos) (sPar is ws) := by
  obtain ⟨t, p, l⟩ := ha
  refine ⟨_, ps_asg (pe_tup p) (pg_tup (n := is.length) hc hg hn hst) hs hw h1, fun c F H σ ρ Xd DD D e k h q => ?_⟩
  refine l c F H σ ρ Xd _ _ e k h fun ss vs F1 H1 h1 e1 s1 n1 r1 => ?_
  cases z : setAll is ss ρ with
  | none => rw [z] at h1; exact h1.elim
  | some ρ' =>
    rw [z] at h1
    have hl := r1.len.trans (setAll_len z)
    refine ⟨by rw [hl]; exact Nat.le_trans hsm (by decide), fun pa hpa => ⟨pa, vs, rfl, .inl (.inl upd_same), hl, gNames_fold hl ?_⟩⟩
    refine q.nx _ _ F1 _ h1 (setAll_env z (r1.layO hpa) (e1.layO hpa) fun j ys b hj hb i zs hi => ?_) s1 (n1.nx.trans fun b hb => ?_)
    · exact e.notOwn (xs := []) (r1.fresh j ys b hj hb) hi
    · by_cases hbp : b = pa
      · rw [hbp, upd_same]
        simp
      · rw [upd_ne hbp]
        exact hb
end
end DL
set_option linter.all false
set_option autoImplicit false
set_option maxHeartbeats 4000000
set_option maxRecDepth 100000
set_option exponentiation.threshold 20000
/-! Loops and comprehensions over what is mapped to data. -/
namespace DL
open PySem PySem.Spec PyProof.Rows L2
section
variable {α : Type} {g : GW} {a : EW} {t : TW} {b : SW} {ρ : Env} {Q : List D → Prop} {X : XD} {DD : DEnds} {f : α → D}
theorem compGo_one (h : α → D) : ∀ (xs : List α) (acc : List D), (∀ x ∈ xs, ∀ Q' : D → Prop, Q' (h x) → g (f x) ρ fun ρ' => a X0 ρ' Q') → acc.length + xs.length ≤ 100000 → Q (acc ++ xs.map h) → compGo g tYesW a ρ Q (xs.map f) acc
  | [], acc, _, _, q => by
    rw [List.map_nil, List.append_nil] at q
    exact q
  | x :: r, acc, s, hl, q => by
    rw [List.length_cons] at hl
    show g (f x) ρ fun ρ' => a X0 ρ' fun y => acc.length < 100000 ∧ compGo g tYesW a ρ Q (r.map f) (acc ++ [y])
    refine s x List.mem_cons_self _ ⟨by omega, ?_⟩
    refine compGo_one h r (acc ++ [h x]) (fun y m => s y (List.mem_cons_of_mem _ m)) (by rw [List.length_append, List.length_singleton]; omega) ?_
    rw [List.append_assoc]
    exact q
theorem compGo_fil (p : α → Bool) (h : α → D) : ∀ (xs : List α) (acc : List D), (∀ x ∈ xs, ∀ (Q' : D → Prop) (N : Prop), (p x = true → Q' (h x)) → (p x = false → N) → g (f x) ρ fun ρ' => t X0 ρ' fun k => if k = true then a X0 ρ' Q' else N) → acc.length + xs.length ≤ 100000 →
    Q (acc ++ (xs.filter p).map h) → compGo g t a ρ Q (xs.map f) acc
  | [], acc, _, _, q => by
    rw [List.filter_nil, List.map_nil, List.append_nil] at q
    exact q
  | x :: r, acc, s, hl, q => by
    rw [List.length_cons] at hl
    show g (f x) ρ fun ρ' => t X0 ρ' fun k => if k = true then a X0 ρ' fun y => acc.length < 100000 ∧ compGo g t a ρ Q (r.map f) (acc ++ [y]) else compGo g t a ρ Q (r.map f) acc
    refine s x List.mem_cons_self _ _ (fun e => ⟨by omega, ?_⟩) fun e => ?_
    · refine compGo_fil p h r (acc ++ [h x]) (fun y m => s y (List.mem_cons_of_mem _ m)) (by rw [List.length_append, List.length_singleton]; omega) ?_
      rw [List.filter_cons_of_pos e] at q
      rw [List.append_assoc]
      exact q
    · refine compGo_fil p h r acc (fun y m => s y (List.mem_cons_of_mem _ m)) (by omega) ?_
      rw [List.filter_cons_of_neg (by rw [e]; exact Bool.false_ne_true)] at q
      exact q
theorem forGo_map (I : List α → Env → Prop) (step : ∀ x r ρ, I (x :: r) ρ → ∀ N : Env → Prop, (∀ ρ', I r ρ' → N ρ') → g (f x) ρ fun ρ' => b X { DD with nx := N, ct := N, bk := DD.nx } ρ') (last : ∀ ρ, I [] ρ → DD.nx ρ) : ∀ xs ρ, I xs ρ → forGo g b X DD (xs.map f) ρ
  | [], ρ, h => last ρ h
  | x :: r, ρ, h => step x r ρ h _ fun ρ' h' => forGo_map I step last r ρ' h'
end
theorem pairD_map {α β : Type} {f : α → D} {g : β → D} : ∀ (xs : List α) (ys : List β), pairD (xs.map f) (ys.map g) = (xs.zip ys).map fun p => .tup [f p.1, g p.2]
  | [], ys => by simp [pairD]
  | x :: xs, [] => by simp [pairD]
  | x :: xs, y :: ys => by
    have := pairD_map (f := f) (g := g) xs ys
    unfold pairD at this ⊢
    rw [List.map_cons, List.map_cons, List.zipWith_cons_cons, this]
    rfl
theorem zip3_map {α β γ : Type} {f : α → D} {g : β → D} {h : γ → D} : ∀ (xs : List α) (ys : List β) (zs : List γ), List.zipWith (fun (x : D) (p : D × D) => match p with
    | (y, z) => D.tup [x, y, z]) (xs.map f) ((ys.map g).zip (zs.map h)) = (xs.zip (ys.zip zs)).map fun p => .tup [f p.1, g p.2.1, h p.2.2]
  | [], ys, zs => by simp
  | x :: xs, [], zs => by simp
  | x :: xs, y :: ys, [] => by simp
  | x :: xs, y :: ys, z :: zs => by
    have := zip3_map (f := f) (g := g) (h := h) xs ys zs
    rw [List.map_cons, List.map_cons, List.map_cons, List.zip_cons_cons, List.zipWith_cons_cons, this]
    rfl
theorem frs_map (qs : List Rat) : frs qs = qs.map fr := rfl
/-- the enumerated -/
def numFrom {α : Type} : Int → List α → List (Int × α)
  | _, [] => []
  | k, x :: xs => (k, x) :: numFrom (k + 1) xs
theorem enumD_map {α : Type} {f : α → D} (xs : List α) : enumD (xs.map f) = (numFrom 0 xs).map fun p => .tup [.int p.1, f p.2] := by
  rw [enumD_from]
  have key : ∀ (xs : List α) (k : Int), enumFrom k (xs.map f) = (numFrom k xs).map fun p => .tup [.int p.1, f p.2] := fun xs => by
    induction xs with
    | nil => exact fun _ => rfl
    | cons x xs ih =>
      intro k
      show D.tup [.int k, f x] :: enumFrom (k + 1) (xs.map f) = _
      rw [ih]
      rfl
  exact key xs 0
theorem numFrom_len {α : Type} : ∀ (xs : List α) (k : Int), (numFrom k xs).length = xs.length
  | [], _ => rfl
  | x :: xs, k => by rw [numFrom, List.length_cons, List.length_cons, numFrom_len xs]
/-- for k in range(lo, lo + n) -/
theorem forGo_range {g : GW} {b : SW} {X : XD} {DD : DEnds} {lo : Int} {n : Nat} (I : Nat → Env → Prop) (step : ∀ k ρ, k < n → I k ρ → ∀ N : Env → Prop, (∀ ρ', I (k + 1) ρ' → N ρ') → g (.int (lo + k)) ρ fun ρ' => b X { DD with nx := N, ct := N, bk := DD.nx } ρ')
    (last : ∀ ρ, I n ρ → DD.nx ρ) {ρ : Env} (h : I 0 ρ) : forGo g b X DD (rangeD lo n) ρ := by
  have e : rangeD lo n = (List.range' 0 n).map fun (k : Nat) => D.int (lo + (k : Int)) := by
    unfold rangeD
    rw [List.range_eq_range']
  rw [e]
  refine forGo_map (fun r ρ => ∃ k m, r = List.range' k m ∧ k + m = n ∧ I k ρ) ?_ ?_ _ _ ⟨0, n, rfl, by omega, h⟩
  · rintro x r ρ ⟨k, m, hr, hm, hi⟩ N hN
    cases m with
    | zero => cases hr
    | succ m =>
      rw [List.range'_succ] at hr
      injection hr with h1 h2
      subst h1 h2
      exact step x ρ (by omega) hi N fun ρ' h' => hN ρ' ⟨x + 1, m, rfl, by omega, h'⟩
  · rintro ρ ⟨k, m, hr, hm, hi⟩
    cases m with
    | zero =>
      have hk : k = n := by omega
      rw [hk] at hi
      exact last ρ hi
    | succ m =>
      rw [List.range'_succ] at hr
      cases hr
theorem plain_ints {α : Type} (f : α → Int) (xs : List α) : plain 40 (.lst (xs.map fun x => .int (f x))) = true := by
  simp only [plain]
  induction xs with
  | nil => simp [plainL]
  | cons x xs ih =>
    simp only [List.map_cons, plainL, plain, Bool.and_eq_true]
    exact ⟨trivial, ih⟩
theorem peq_nil_map {α : Type} (f : α → D) (xs : List α) : peq (.lst (xs.map f)) (.lst []) = xs.isEmpty := by
  cases xs with
  | nil => simp [peq, peqL]
  | cons x xs => simp [peq, peqL]
theorem num_z {q : Rat} : peq (.int q.num) (.int 0) = decide (q = 0) := by
  rw [peq_int]
  by_cases h : q = 0
  · subst h
    rfl
  · rw [decide_eq_false h]
    exact decide_eq_false (num_nz h)
theorem at_map {α : Type} {f : α → D} {xs : List α} {k : Nat} (h : k < xs.length) : atI (xs.map f) (k : Int) = some (f xs[k]) := atI_nat (by
  rw [List.getElem?_map, List.getElem?_eq_getElem h]
  rfl)
end DL
set_option linter.all false
set_option autoImplicit false
set_option maxHeartbeats 4000000
set_option maxRecDepth 100000
set_option exponentiation.threshold 20000
/-! Limits and moves: what they are. -/
namespace DL
open PySem PySem.Spec PyProof.Rows L2
structure LimR where
  speed : Rat
  rate : Rat
  jump : Rat
def limD (l : LimR) : D := .tup [fr l.speed, fr l.rate, fr l.jump]
def limsD (ls : List LimR) : D := .tup (ls.map limD)
structure limOk (l : LimR) : Prop where
  s0 : 0 < l.speed
  s1 : Sz 300 l.speed
  r0 : 0 < l.rate
  r1 : Sz 300 l.rate
  j0 : 0 ≤ l.jump
  j1 : Sz 300 l.jump
structure OkL (n : Nat) (ls : List LimR) : Prop where
  len : ls.length = n
  ok : ∀ l ∈ ls, limOk l
/-! ### limits judged -/
def isLimit : D → Bool
  | .tup [a, b, c] => isAbove a && (isAbove b && isAmount c)
  | _ => false
def firstBad : Int → List D → D
  | _, [] => .non
  | k, x :: xs => if isLimit x = true then firstBad (k + 1) xs else .int k
def limPlace (n : Int) : D → D
  | .tup xs => if (xs.length : Int) = n then firstBad 0 xs else .int 0
  | _ => .int 0
theorem isLimit_ok {l : LimR} (h : limOk l) : isLimit (limD l) = true := by
  have a : ∀ q : Rat, 0 < q → isAbove (fr q) = true := fun q hq => by
    unfold isAbove
    rw [isFr_fr, unfr_fr, decide_eq_true hq]
    rfl
  have b : ∀ q : Rat, 0 ≤ q → isAmount (fr q) = true := fun q hq => by
    unfold isAmount
    rw [isFr_fr, unfr_fr, decide_eq_false (by grind)]
    rfl
  unfold isLimit limD
  simp only [a _ h.s0, a _ h.r0, b _ h.j0]
  rfl
theorem firstBad_ok : ∀ {ls : List LimR} (k : Int), (∀ l ∈ ls, limOk l) → firstBad k (ls.map limD) = .non
  | [], _, _ => rfl
  | l :: ls, k, h => by
    rw [List.map_cons, firstBad, if_pos (isLimit_ok (h l List.mem_cons_self))]
    exact firstBad_ok (k + 1) fun x m => h x (List.mem_cons_of_mem _ m)
theorem limPlace_ok {n : Nat} {ls : List LimR} (h : OkL n ls) : limPlace n (limsD ls) = .non := by
  show (if ((ls.map limD).length : Int) = n then firstBad 0 (ls.map limD) else .int 0) = .non
  rw [if_pos (by rw [List.length_map, h.len])]
  exact firstBad_ok 0 h.ok
theorem okD_lims {n : Nat} {ls : List LimR} (h : OkL n ls) (hn : n ≤ 1000) : okD (limsD ls) := by
  refine okD_of (by rw [List.length_map, h.len]; exact hn) fun x m => ?_
  obtain ⟨l, ml, rfl⟩ := List.mem_map.mp m
  have k := h.ok l ml
  unfold limD
  simp only [short, shortL, sml, smlL, Bool.and_eq_true, decide_eq_true_eq, List.length_cons, List.length_nil]
  exact ⟨⟨by decide, short_fr 36 _, short_fr 36 _, short_fr 36 _, trivial⟩, sml_fr k.s1 (by decide), sml_fr k.r1 (by decide), sml_fr k.j1 (by decide), trivial⟩
/-- of one fraction of a bounded size -/
@[irreducible] def sp_unS (n0 : Nat) (f : Rat → D) : Spec := S1 fun x Q => ∃ (q : Rat) (n : Nat), x = fr q ∧ Sz n q ∧ n ≤ n0 ∧ Q (.d (f q))
theorem unS_el {n0 : Nat} {f : Rat → D} {ss : List SV} {Q : RV → Prop} {Xe : Exc → Prop} (h : sp_unS n0 f ss Q Xe) : ∃ x, ss = [.d x] ∧ ∃ (q : Rat) (n : Nat), x = fr q ∧ Sz n q ∧ n ≤ n0 ∧ Q (.d (f q)) := by
  unfold sp_unS at h
  exact h
theorem unS_ok {n0 n : Nat} {f : Rat → D} {q : Rat} {Q : RV → Prop} {Xe : Exc → Prop} (hq : Sz n q) (hn : n ≤ n0) (k : Q (.d (f q))) : sp_unS n0 f [.d (fr q)] Q Xe := by
  unfold sp_unS
  exact ⟨_, rfl, q, n, rfl, hq, hn, k⟩
theorem len_unS {n0 : Nat} {f : Rat → D} : ∀ ss Q Xe, sp_unS n0 f ss Q Xe → ss.length = 1 := fun ss Q Xe h => by
  obtain ⟨x, e, _⟩ := unS_el h
  rw [e] <;> rfl
/-! ### a fraction or None -/
def optD : Option Rat → D
  | none => .non
  | some q => fr q
def SzO (n : Nat) (o : Option Rat) : Prop := ∀ q, o = some q → Sz n q
def minO : Option Rat → Option Rat → Option Rat
  | none, b => b
  | some a, none => some a
  | some a, some b => some (if b < a then b else a)
theorem SzO.min {n : Nat} {a b : Option Rat} (h : SzO n a) (k : SzO n b) : SzO n (minO a b) := by
  cases a with
  | none => exact k
  | some a =>
    cases b with
    | none => exact h
    | some b =>
      intro q e
      have e : (if b < a then b else a) = q := Option.some.inj e
      rw [← e]
      split
      · exact k _ rfl
      · exact h _ rfl
theorem SzO.mono {n m : Nat} {a : Option Rat} (h : SzO n a) (k : n ≤ m) : SzO m a := fun q e => (h q e).mono k
@[irreducible] def sp_lesser : Spec := S2 fun x y Q => ∃ (a b : Option Rat) (n : Nat), x = optD a ∧ y = optD b ∧ SzO n a ∧ SzO n b ∧ n ≤ 4400 ∧ Q (.d (optD (minO a b)))
theorem lesser_el {ss : List SV} {Q : RV → Prop} {Xe : Exc → Prop} (h : sp_lesser ss Q Xe) : ∃ x y, ss = [.d x, .d y] ∧ ∃ (a b : Option Rat) (n : Nat), x = optD a ∧ y = optD b ∧ SzO n a ∧ SzO n b ∧ n ≤ 4400 ∧ Q (.d (optD (minO a b))) := by
  unfold sp_lesser at h
  exact h
theorem lesser_ok {a b : Option Rat} {n : Nat} {x y : D} {Q : RV → Prop} {Xe : Exc → Prop} (ha : SzO n a) (hb : SzO n b) (hn : n ≤ 4400) (k : Q (.d (optD (minO a b)))) (e1 : x = optD a := by rfl) (e2 : y = optD b := by rfl) : sp_lesser [.d x, .d y] Q Xe := by
  unfold sp_lesser
  exact ⟨_, _, rfl, a, b, n, e1, e2, ha, hb, hn, k⟩
theorem len_lesser' : ∀ ss Q Xe, sp_lesser ss Q Xe → ss.length = 2 := fun ss Q Xe h => by
  obtain ⟨x, y, e, _⟩ := lesser_el h
  rw [e] <;> rfl
/-! ### moves -/
structure MoveR where
  number : Int
  length : Rat
  dir : List Rat
  bgn : Rat
  fin : Rat
  feed : Rat
  slow : Rat
  stops : Bool
  cap : Rat
  pull : Rat
  slope : Rat
abbrev mvNames : List Str := ["length", "direction", "number", "begin", "end", "feed", "slowest", "stops", "cap", "pull", "slope"]
def moveD (m : MoveR) : D := .ins "Move" mvNames [fr m.length, ptD m.dir, .int m.number, fr m.bgn, fr m.fin, fr m.feed, fr m.slow, .bl m.stops, fr m.cap, fr m.pull, fr m.slope]
/-- cap and pull, led through the axes -/
def capFrom : Rat → List (Rat × LimR) → Rat
  | a, [] => a
  | a, (e, l) :: r => capFrom (if e = 0 then a else if l.speed / rabs e * (l.speed / rabs e) < a then l.speed / rabs e * (l.speed / rabs e) else a) r
def pullFrom : Option Rat → List (Rat × LimR) → Option Rat
  | a, [] => a
  | a, (e, l) :: r => pullFrom (if e = 0 then a else minO a (some (l.rate / rabs e))) r
def capM (feed : Rat) (dir : List Rat) (ls : List LimR) : Rat := capFrom (feed * feed) (dir.zip ls)
def pullM (dir : List Rat) (ls : List LimR) : Rat := (pullFrom none (dir.zip ls)).getD 0
def moveM (k : Int) (pt : List Rat) (s : StepR) (ls : List LimR) (way : Rat) : MoveR :=
  let g := subL s.goal pt
  { number := k, length := longM g, dir := headM g, bgn := way, fin := way + longM g, feed := s.feed, slow := s.slow, stops := s.stop, cap := capM s.feed (headM g) ls, pull := pullM (headM g) ls, slope := 2 * pullM (headM g) ls }
def movesFrom (ls : List LimR) : Int → List Rat → Rat → List StepR → List MoveR
  | _, _, _, [] => []
  | k, pt, way, s :: r => moveM k pt s ls way :: movesFrom ls (k + 1) s.goal (way + longM (subL s.goal pt)) r
def movesM (p : ProgR) (ls : List LimR) : List MoveR := movesFrom ls 0 p.start 0 p.steps
/-- the turn cap of two directions -/
def turnFrom : Option Rat → List (Rat × Rat × LimR) → Option Rat
  | a, [] => a
  | a, (e, d, l) :: r => turnFrom (if e = d then a else minO a (some (l.jump / rabs (e - d) * (l.jump / rabs (e - d))))) r
def turnM (m n : MoveR) (ls : List LimR) : Option Rat := if m.stops = true then some 0 else turnFrom none (m.dir.zip (n.dir.zip ls))
theorem pull_some : ∀ {xs : List (Rat × LimR)} {a : Option Rat}, (a ≠ none ∨ ∃ p ∈ xs, p.1 ≠ 0) → ∃ q, pullFrom a xs = some q
  | [], a, h => by
    rcases h with h | ⟨p, m, _⟩
    · cases a with
      | none => exact absurd rfl h
      | some q => exact ⟨q, rfl⟩
    · cases m
  | (e, l) :: r, a, h => by
    rw [pullFrom]
    by_cases he : e = 0
    · rw [if_pos he]
      refine pull_some ?_
      rcases h with h | ⟨p, m, hp⟩
      · exact .inl h
      · rcases List.mem_cons.mp m with rfl | m
        · exact absurd he hp
        · exact .inr ⟨p, m, hp⟩
    · rw [if_neg he]
      refine pull_some (.inl ?_)
      cases a <;> simp [minO]
/-- the fields of a move, as __init__ leaves them -/
def mvF (m : MoveR) : List (Str × D) := [("length", fr m.length), ("direction", ptD m.dir), ("number", .int m.number), ("begin", fr m.bgn), ("end", fr m.fin), ("feed", fr m.feed), ("slowest", fr m.slow), ("stops", .bl m.stops), ("cap", fr m.cap), ("pull", fr m.pull), ("slope", fr m.slope)]
theorem sub_sz {a b : List Rat} (ha : GrL (2 ^ 340) a) (hb : GrL (2 ^ 340) b) : ∀ x ∈ subL a b, Sz 342 x := fun x m => ((subL_gr ha hb x m).mono (b := 2 ^ 341) (by decide)).sz (by decide)
theorem longs_sz {n : Nat} {gs : List Rat} (n1 : 1 ≤ n) (h : ∀ g ∈ gs, Sz n g) : Sz n (longM gs) := long_prop gs (sz_0.mono n1) fun g m => (h g m).abs
theorem head_sz {g : List Rat} (hs : ∀ x ∈ g, Sz 342 x) (h : 0 < longM g) : ∀ x ∈ headM g, Sz 684 x := fun x m => by
  obtain ⟨t, ht, rfl⟩ := List.mem_map.mp m
  exact (hs t ht).div (longs_sz (by decide) hs) (by grind)
theorem head_ne {g : List Rat} (h : 0 < longM g) : ∃ x ∈ headM g, x ≠ 0 := by
  have h1 := long_head h
  by_cases k : ∃ x ∈ headM g, x ≠ 0
  · exact k
  · exfalso
    have z : ∀ x ∈ headM g, x = 0 := fun x m => by
      by_cases e : x = 0
      · exact e
      · exact absurd ⟨x, m, e⟩ k
    have : longM (headM g) = 0 := long_prop (P := fun q => q = 0) (headM g) rfl fun x m => by rw [z x m]; unfold rabs; rw [if_neg (by grind)]
    grind
theorem subL_length {s : StepR} {pt : List Rat} (h : stepOk pt s) : (subL s.goal pt).length = pt.length := by rw [subL_len, h.1]; omega
theorem sub_pos {pt : List Rat} {s : StepR} (h : stepOk pt s) : 0 < longM (subL s.goal pt) := by
  obtain ⟨x, hx, h0⟩ := subL_ne h.1 h.2.1
  have := long_ge hx
  have := rabs_pos h0
  grind
theorem long_gr {b : Nat} {g : List Rat} (h : GrL b g) : Gr b (longM g) := long_prop g (Gr.zero.mono (Nat.zero_le _)) fun x m => (h x m).abs
/-- what is asked of moves: parts of directions of such sizes -/
def DirOk (n : Nat) (m : MoveR) : Prop := m.dir.length = n ∧ ∀ e ∈ m.dir, Sz 684 e
theorem moves_ok {ls : List LimR} : ∀ {ss : List StepR} {k : Int} {pt : List Rat} {way : Rat}, GrL (2 ^ 340) pt → chainOk pt ss → ∀ m ∈ movesFrom ls k pt way ss, DirOk pt.length m
  | [], _, _, _, _, _, m, h => nomatch h
  | s :: r, k, pt, way, hg, ⟨h1, h2⟩, m, h => by
    rcases List.mem_cons.mp h with rfl | h
    · exact ⟨by show (headM _).length = _; rw [headM, List.length_map, subL_length h1], head_sz (sub_sz h1.2.2.1 hg) (sub_pos h1)⟩
    · have := moves_ok h1.2.2.1 h2 m h
      rw [h1.1] at this
      exact this
theorem movesFrom_len {ls : List LimR} : ∀ (ss : List StepR) (k : Int) (pt : List Rat) (way : Rat), (movesFrom ls k pt way ss).length = ss.length
  | [], _, _, _ => rfl
  | s :: r, k, pt, way => by rw [movesFrom, List.length_cons, List.length_cons, movesFrom_len r]
theorem turn_sz {n : Nat} (hn : 3400 ≤ n) : ∀ {xs : List (Rat × Rat × LimR)} {a : Option Rat}, (∀ p ∈ xs, Sz 684 p.1 ∧ Sz 684 p.2.1 ∧ limOk p.2.2) → SzO n a → SzO n (turnFrom a xs)
  | [], a, _, h => h
  | (e, d, l) :: r, a, hx, h => by
    obtain ⟨h1, h2, h3⟩ := hx _ List.mem_cons_self
    rw [turnFrom]
    refine turn_sz hn (fun p m => hx p (List.mem_cons_of_mem _ m)) ?_
    split
    · exact h
    · rename_i ne
      have hab : rabs (e - d) ≠ 0 := by have := rabs_pos (q := e - d) (by grind); grind
      have hq : Sz 1700 (l.jump / rabs (e - d)) := (h3.j1.div (h1.sub h2).abs hab).mono (by decide)
      exact h.min fun q e => by
        rw [← Option.some.inj e]
        exact (hq.mul hq).mono (by omega)
theorem zip3_ok {n : Nat} {m k : MoveR} {ls : List LimR} (hm : DirOk n m) (hk : DirOk n k) (hL : OkL n ls) : ∀ p ∈ m.dir.zip (k.dir.zip ls), Sz 684 p.1 ∧ Sz 684 p.2.1 ∧ limOk p.2.2 := fun p h => by
  obtain ⟨h1, h2⟩ := List.of_mem_zip (a := p.1) (b := p.2) h
  obtain ⟨h3, h4⟩ := List.of_mem_zip (a := p.2.1) (b := p.2.2) h2
  exact ⟨hm.2 _ h1, hk.2 _ h3, hL.ok _ h4⟩
theorem turnM_sz {n : Nat} {m k : MoveR} {ls : List LimR} (hm : DirOk n m) (hk : DirOk n k) (hL : OkL n ls) : SzO 3400 (turnM m k ls) := by
  unfold turnM
  split
  · intro q e
    rw [← Option.some.inj e]
    exact sz_0.mono (by decide)
  · exact turn_sz (by decide) (zip3_ok hm hk hL) fun _ z => nomatch z
def turnsM (p : ProgR) (ls : List LimR) : List (Option Rat) := some 0 :: (List.zipWith (fun m k => turnM m k ls) (movesM p ls) (movesM p ls).tail ++ [some 0])
/-! ### turn caps told -/
abbrev sqJ (z : Rat × Rat × LimR) : Rat := z.2.2.jump / rabs (z.1 - z.2.1) * (z.2.2.jump / rabs (z.1 - z.2.1))
theorem turn_none : ∀ {zs : List (Rat × Rat × LimR)} {a : Option Rat}, turnFrom a zs = none → a = none ∧ ∀ z ∈ zs, z.1 = z.2.1
  | [], a, h => ⟨h, fun z m => (nomatch m)⟩
  | (e, d, l) :: r, a, h => by
    rw [turnFrom] at h
    obtain ⟨h1, h2⟩ := turn_none h
    by_cases k : e = d
    · rw [if_pos k] at h1
      refine ⟨h1, fun z m => ?_⟩
      rcases List.mem_cons.mp m with rfl | m
      · exact k
      · exact h2 z m
    · rw [if_neg k] at h1
      cases a <;> cases h1
theorem turn_some {t : Rat} : ∀ {zs : List (Rat × Rat × LimR)} {a : Option Rat}, turnFrom a zs = some t → (∀ z ∈ zs, z.1 ≠ z.2.1 → t ≤ sqJ z) ∧ (∀ b, a = some b → t ≤ b) ∧ ((∃ z ∈ zs, z.1 ≠ z.2.1 ∧ t = sqJ z) ∨ a = some t)
  | [], a, h => by
    have h : a = some t := h
    exact ⟨fun z m => (nomatch m), fun b e => (by rw [h] at e; cases e; grind), .inr h⟩
  | (e, d, l) :: r, a, h => by
    rw [turnFrom] at h
    obtain ⟨h1, h2, h3⟩ := turn_some h
    by_cases k : e = d
    · rw [if_pos k] at h2 h3
      refine ⟨fun z m ne => ?_, h2, ?_⟩
      · rcases List.mem_cons.mp m with rfl | m
        · exact absurd k ne
        · exact h1 z m ne
      · rcases h3 with ⟨z, m, q⟩ | q
        · exact .inl ⟨z, List.mem_cons_of_mem _ m, q⟩
        · exact .inr q
    · rw [if_neg k] at h2 h3
      have both : t ≤ sqJ (e, d, l) ∧ ∀ b, a = some b → t ≤ b := by
        cases a with
        | none => exact ⟨h2 _ rfl, fun b z => nomatch z⟩
        | some b =>
          have := h2 (if sqJ (e, d, l) < b then sqJ (e, d, l) else b) rfl
          refine ⟨?_, fun b' z => ?_⟩
          · split at this <;> grind
          · cases z
            split at this <;> grind
      refine ⟨fun z m ne => ?_, both.2, ?_⟩
      · rcases List.mem_cons.mp m with rfl | m
        · exact both.1
        · exact h1 z m ne
      · rcases h3 with ⟨z, m, q⟩ | q
        · exact .inl ⟨z, List.mem_cons_of_mem _ m, q⟩
        · cases a with
          | none => exact .inl ⟨_, List.mem_cons_self, k, (Option.some.inj q).symm⟩
          | some b =>
            have q : (if sqJ (e, d, l) < b then sqJ (e, d, l) else b) = t := Option.some.inj q
            by_cases c : sqJ (e, d, l) < b
            · rw [if_pos c] at q
              exact .inl ⟨_, List.mem_cons_self, k, q.symm⟩
            · rw [if_neg c] at q
              exact .inr (by rw [q])
theorem rabs_sq (q : Rat) : rabs q * rabs q = q * q := by
  unfold rabs
  split <;> grind
theorem sqJ_mul {z : Rat × Rat × LimR} (ne : z.1 ≠ z.2.1) : sqJ z * ((z.1 - z.2.1) * (z.1 - z.2.1)) = z.2.2.jump * z.2.2.jump := by
  have h := rabs_pos (q := z.1 - z.2.1) (by grind)
  rw [← rabs_sq]
  unfold sqJ
  generalize rabs (z.1 - z.2.1) = r at *
  generalize z.2.2.jump = j at *
  grind
theorem sq_pos {q : Rat} (h : q ≠ 0) : 0 < q * q := by
  rw [← rabs_sq]
  exact Rat.mul_pos (rabs_pos h) (rabs_pos h)
/-- moves by their place -/
theorem moves_at {ls : List LimR} : ∀ {ss : List StepR} {k : Int} {pt : List Rat} {way : Rat} (i : Nat) (h1 : i < (movesFrom ls k pt way ss).length) (h2 : i < ss.length) (h3 : i < (gapsFrom pt ss).length), (movesFrom ls k pt way ss)[i].dir = headM (gapsFrom pt ss)[i] ∧ (movesFrom ls k pt way ss)[i].stops = ss[i].stop
  | [], _, _, _, i, h1, h2, h3 => by simp at h2
  | s :: r, k, pt, way, 0, h1, h2, h3 => ⟨rfl, rfl⟩
  | s :: r, k, pt, way, i + 1, h1, h2, h3 => moves_at i (by simpa [movesFrom] using h1) (by simpa using h2) (by simpa [gapsFrom] using h3)
end DL
set_option linter.all false
set_option autoImplicit false
set_option maxHeartbeats 2000000
set_option maxRecDepth 100000
set_option exponentiation.threshold 20000
/-! Ways along a program: which move, which point. -/
namespace DL
open PySem PySem.Spec PyProof.Rows L2
def cntLe (w : Rat) (L : List Rat) : Nat := (L.filter fun m => !decide (w < m)).length
theorem cnt_le (w : Rat) (L : List Rat) : cntLe w L ≤ L.length := List.length_filter_le _ _
theorem cnt_cons (w x : Rat) (L : List Rat) : cntLe w (x :: L) = (if w < x then 0 else 1) + cntLe w L := by
  unfold cntLe
  rw [List.filter_cons]
  by_cases h : w < x
  · simp [h]
  · simp [h]
    omega
theorem cnt_none {w : Rat} : ∀ {L : List Rat}, (∀ x ∈ L, w < x) → cntLe w L = 0
  | [], _ => rfl
  | x :: L, h => by
    rw [cnt_cons, if_pos (h x List.mem_cons_self), cnt_none fun y m => h y (List.mem_cons_of_mem _ m)]
theorem cnt_iff {w : Rat} : ∀ {L : List Rat}, L.Pairwise (· < ·) → ∀ (k : Nat) (x : Rat), L[k]? = some x → (¬ w < x ↔ k < cntLe w L)
  | [], _, _, _, h => by simp at h
  | y :: L, s, k, x, h => by
    have s1 := (List.pairwise_cons.mp s).1
    have s2 := (List.pairwise_cons.mp s).2
    rw [cnt_cons]
    by_cases hy : w < y
    · rw [if_pos hy, cnt_none fun z m => by
        have := s1 z m
        grind]
      cases k with
      | zero =>
        have e : y = x := Option.some.inj h
        subst e
        exact ⟨fun z => absurd hy z, fun z => by omega⟩
      | succ k =>
        have m : x ∈ L := List.mem_of_getElem? h
        have := s1 x m
        exact ⟨fun z => absurd (by grind : w < x) z, fun z => by omega⟩
    · rw [if_neg hy]
      cases k with
      | zero =>
        have e : y = x := Option.some.inj h
        subst e
        exact ⟨fun _ => by omega, fun _ => hy⟩
      | succ k =>
        have := cnt_iff (w := w) s2 k x h
        rw [this]
        omega
theorem range_lt {c : Nat} : ∀ {n : Nat}, c ≤ n → (List.range n).filter (fun k => decide (k < c)) = List.range c
  | 0, h => by
    have : c = 0 := by omega
    subst this
    rfl
  | n + 1, h => by
    rw [List.range_succ, List.filter_append]
    by_cases e : c = n + 1
    · subst e
      rw [List.range_succ]
      congr 1
      · refine List.filter_eq_self.mpr fun k m => ?_
        have := List.mem_range.mp m
        simp
        omega
      · simp
    · rw [range_lt (by omega)]
      simp
      omega
theorem cnt_range {w : Rat} {L : List Rat} (s : L.Pairwise (· < ·)) : (List.range L.length).filter (fun k => !decide (w < L.getD k 0)) = List.range (cntLe w L) := by
  rw [← range_lt (cnt_le w L)]
  refine List.filter_congr fun k m => ?_
  have hk := List.mem_range.mp m
  have h : L[k]? = some L[k] := List.getElem?_eq_getElem hk
  have := cnt_iff (w := w) s k _ h
  rw [List.getD_eq_getElem?_getD, h, Option.getD_some]
  by_cases z : w < L[k]
  · have := mt this.mpr (fun u => u z)
    simp [z]
    omega
  · have := this.mp z
    simp [z, this]
/-! ### the marks -/
theorem marksFrom_len : ∀ (a : Rat) (gs : List (List Rat)), (marksFrom a gs).length = gs.length
  | _, [] => rfl
  | a, g :: r => by rw [marksFrom, List.length_cons, List.length_cons, marksFrom_len]
theorem marks_len (p : ProgR) : (marksM p).length = p.steps.length + 1 := by
  rw [marksM, List.length_cons, marksFrom_len, gapsM, gaps_len]
theorem heads_len (p : ProgR) : (headsM p).length = p.steps.length := by
  rw [headsM, List.length_map, gapsM, gaps_len]
theorem marksFrom_lt : ∀ {a : Rat} {gs : List (List Rat)}, (∀ g ∈ gs, 0 < longM g) → (∀ x ∈ marksFrom a gs, a < x) ∧ (marksFrom a gs).Pairwise (· < ·)
  | a, [], _ => ⟨(fun _ m => nomatch m), List.Pairwise.nil⟩
  | a, g :: r, h => by
    have i := marksFrom_lt (a := a + longM g) (gs := r) fun y m => h y (List.mem_cons_of_mem _ m)
    have hg := h g List.mem_cons_self
    refine ⟨fun x m => ?_, List.pairwise_cons.mpr ⟨i.1, i.2⟩⟩
    rcases List.mem_cons.mp m with e | m
    · rw [e]
      grind
    · have := i.1 x m
      grind
theorem marks_sorted {p : ProgR} (h : OkP p) : (marksM p).Pairwise (· < ·) := by
  have i := marksFrom_lt (a := 0) (gs := gapsM p) (gaps_pos h.chain)
  exact List.pairwise_cons.mpr ⟨i.1, i.2⟩
theorem marks_init {p : ProgR} (h : OkP p) : (marksM p).dropLast = 0 :: ((marksM p).drop 1).dropLast := by
  have hl := marks_len p
  have := h.many.1
  have e : marksM p = 0 :: marksFrom 0 (gapsM p) := rfl
  cases hm : marksFrom 0 (gapsM p) with
  | nil =>
    rw [e, hm, List.length_cons, List.length_nil] at hl
    omega
  | cons x r =>
    rw [e, hm]
    rfl
theorem init_sorted {p : ProgR} (h : OkP p) : (marksM p).dropLast.Pairwise (· < ·) := (marks_sorted h).sublist (List.dropLast_sublist _)
theorem init_at (p : ProgR) {k : Nat} (hk : k < p.steps.length) : (marksM p).dropLast[k]? = (marksM p)[k]? := by
  rw [List.getElem?_dropLast]
  have := marks_len p
  rw [if_pos (by omega)]
theorem marks_nonneg {p : ProgR} (h : OkP p) : ∀ x ∈ marksM p, 0 ≤ x := fun x m => by
  rcases List.mem_cons.mp m with e | m
  · rw [e]
    grind
  · have := (marksFrom_lt (a := 0) (gs := gapsM p) (gaps_pos h.chain)).1 x m
    grind
theorem marksFrom_gr {b : Nat} : ∀ {gs : List (List Rat)} {a : Rat} {k : Nat}, (∀ g ∈ gs, Gr b (longM g)) → Gr (b * k) a → ∀ x ∈ marksFrom a gs, Gr (b * (k + gs.length)) x
  | [], _, _, _, _, _, m => nomatch m
  | g :: r, a, k, h, ha, x, m => by
    have e : Gr (b * (k + 1)) (a + longM g) := by
      rw [Nat.mul_add, Nat.mul_one]
      exact ha.add (h g List.mem_cons_self)
    rcases List.mem_cons.mp m with z | m
    · rw [z]
      exact e.mono (Nat.mul_le_mul_left _ (by rw [List.length_cons]; omega))
    · have := marksFrom_gr (fun y m => h y (List.mem_cons_of_mem _ m)) e x m
      rw [List.length_cons]
      have q : k + 1 + r.length = k + (r.length + 1) := by omega
      rw [← q]
      exact this
theorem marks_sz {p : ProgR} (h : OkP p) : ∀ x ∈ marksM p, Sz 347 x := fun x m => by
  have hg : ∀ g ∈ gapsM p, Gr (2 ^ 341) (longM g) := fun g m => long_prop g (Gr.zero.mono (by decide)) fun x m' => ((gaps_gr h.grid h.chain g m).1 x m').abs
  have hl : (gapsM p).length ≤ 30 := by
    rw [gapsM, gaps_len]
    exact h.many.2
  rcases List.mem_cons.mp m with e | m
  · rw [e]
    exact sz_0.mono (by omega)
  · have := marksFrom_gr hg (k := 0) (a := 0) (Gr.zero.mono (Nat.zero_le _)) x m
    refine (this.mono (b := 2 ^ 346) ?_).sz (by omega)
    have q : 2 ^ 341 * (0 + (gapsM p).length) ≤ 2 ^ 341 * 32 := Nat.mul_le_mul_left _ (by omega)
    exact Nat.le_trans q (by decide)
theorem marks_next : ∀ {gs : List (List Rat)} {a : Rat} {k : Nat} {g : List Rat} {m : Rat}, gs[k]? = some g → (a :: marksFrom a gs)[k]? = some m → (a :: marksFrom a gs)[k + 1]? = some (m + longM g)
  | [], _, _, _, _, h, _ => by simp at h
  | g :: r, a, 0, _, _, h1, h2 => by
    have e1 : g = _ := Option.some.inj h1
    have e2 : a = _ := Option.some.inj h2
    rw [← e1, ← e2]
    rfl
  | g :: r, a, k + 1, _, _, h1, h2 => marks_next (gs := r) (a := a + longM g) (k := k) h1 h2
/-! ### the move and the point -/
def idxM (p : ProgR) (w : Rat) : Nat := cntLe w ((marksM p).drop 1).dropLast
def wholeM (p : ProgR) : Rat := (marksM p).getD p.steps.length 0
def markM (p : ProgR) (w : Rat) : Rat := (marksM p).getD (idxM p w) 0
def spotM (p : ProgR) (w : Rat) : List Rat := List.zipWith (fun a h => a + h * (w - markM p w)) ((trailM p).getD (idxM p w) []) ((headsM p).getD (idxM p w) [])
theorem idx_cnt {p : ProgR} (h : OkP p) {w : Rat} (hw : 0 ≤ w) : cntLe w (marksM p).dropLast = idxM p w + 1 := by
  rw [marks_init h, cnt_cons, if_neg (by grind)]
  unfold idxM
  omega
theorem idx_lt {p : ProgR} (h : OkP p) {w : Rat} (hw : 0 ≤ w) : idxM p w < p.steps.length := by
  have := cnt_le w (marksM p).dropLast
  rw [idx_cnt h hw, List.length_dropLast, marks_len] at this
  omega
theorem getD_at {α : Type} {d : α} {xs : List α} {k : Nat} (h : k < xs.length) : xs[k]? = some (xs.getD k d) := by
  rw [List.getD_eq_getElem?_getD, List.getElem?_eq_getElem h, Option.getD_some]
theorem mark_le {p : ProgR} (h : OkP p) {w : Rat} (hw : 0 ≤ w) : markM p w ≤ w := by
  have hi := idx_lt h hw
  have hl := marks_len p
  have e : (marksM p).dropLast[idxM p w]? = some (markM p w) := by
    rw [init_at p hi]
    exact getD_at (by omega)
  have := (cnt_iff (w := w) (init_sorted h) _ _ e).mpr (by
    rw [idx_cnt h hw]
    omega)
  grind
theorem idx_at {p : ProgR} (h : OkP p) {k : Nat} {m : Rat} (hk : k < p.steps.length) (hm : (marksM p)[k]? = some m) : idxM p m = k := by
  have h0 : 0 ≤ m := marks_nonneg h m (List.mem_of_getElem? hm)
  have e : (marksM p).dropLast[k]? = some m := by rw [init_at p hk, hm]
  have s := init_sorted h
  have a := (cnt_iff (w := m) s _ _ e).mp (by grind)
  rw [idx_cnt h h0] at a
  have hi := idx_lt h h0
  have hl := marks_len p
  have e2 : (marksM p).dropLast[idxM p m]? = some (markM p m) := by
    rw [init_at p hi]
    exact getD_at (by omega)
  have le := mark_le h h0
  by_cases z : k < idxM p m
  · exfalso
    have := List.pairwise_iff_getElem.mp s k (idxM p m) (by
      rw [List.length_dropLast]
      omega) (by
      rw [List.length_dropLast]
      omega) z
    have q1 := (List.getElem?_eq_some_iff.mp e).2
    have q2 := (List.getElem?_eq_some_iff.mp e2).2
    rw [q1, q2] at this
    grind
  · omega
theorem zip_id {f : Rat → Rat → Rat} (hf : ∀ a b, f a b = a) : ∀ {xs ys : List Rat}, xs.length = ys.length → List.zipWith f xs ys = xs
  | [], _, _ => by simp
  | x :: xs, [], h => by simp at h
  | x :: xs, y :: ys, h => by
    rw [List.zipWith_cons_cons, hf, zip_id hf (by simpa using h)]
theorem gap_at {p : ProgR} {k : Nat} (hk : k < p.steps.length) : ∃ a b : List Rat, (trailM p)[k]? = some b ∧ (trailM p)[k + 1]? = some a ∧ (gapsM p)[k]? = some (subL a b) ∧ (headsM p)[k]? = some (headM (subL a b)) := by
  have hl := trail_len p
  have e1 : (trailM p)[k]? = some ((trailM p).getD k []) := getD_at (by omega)
  have e2 : (trailM p)[k + 1]? = some ((trailM p).getD (k + 1) []) := getD_at (by omega)
  have g := gaps_at p.start p.steps k _ _ e1 e2
  exact ⟨_, _, e1, e2, g, by rw [headsM, List.getElem?_map, gapsM, g]; rfl⟩
theorem len_pt {p : ProgR} (h : OkP p) {k : Nat} {b : List Rat} (e : (trailM p)[k]? = some b) : b.length = p.start.length := (trail_gr h b (List.mem_of_getElem? e)).2
theorem headM_len (g : List Rat) : (headM g).length = g.length := by simp [headM]
theorem zip_back {c : Rat} (hc : c ≠ 0) : ∀ {a b : List Rat}, a.length = b.length → List.zipWith (fun x h => x + h * c) b ((subL a b).map fun x => x / c) = a
  | [], [], _ => rfl
  | [], _ :: _, h => by simp at h
  | _ :: _, [], h => by simp at h
  | x :: a, y :: b, h => by
    have e : subL (x :: a) (y :: b) = (x - y) :: subL a b := rfl
    rw [e, List.map_cons, List.zipWith_cons_cons, zip_back hc (by simpa using h), Rat.div_mul_cancel hc]
    congr 1
    grind
/-- at each joint the point of the path -/
theorem spot_joint {p : ProgR} (h : OkP p) {k : Nat} {m : Rat} (hm : (marksM p)[k]? = some m) : (trailM p)[k]? = some (spotM p m) := by
  have hl := marks_len p
  have hk := (List.getElem?_eq_some_iff.mp hm).1
  by_cases z : k < p.steps.length
  · obtain ⟨a, b, e1, e2, g, hd⟩ := gap_at z
    have hi := idx_at h z hm
    unfold spotM markM
    rw [hi, List.getD_eq_getElem?_getD, List.getD_eq_getElem?_getD, List.getD_eq_getElem?_getD, e1, hd, hm, Option.getD_some, Option.getD_some, Option.getD_some]
    rw [zip_id (fun a b => by grind)]
    rw [headM_len, subL_len, len_pt h e1, len_pt h e2]
    omega
  · have ek : k = p.steps.length := by omega
    obtain ⟨n, en⟩ : ∃ n, p.steps.length = n + 1 := ⟨p.steps.length - 1, by have := h.many.1; omega⟩
    rw [ek, en] at hm
    rw [ek, en]
    obtain ⟨a, b, e1, e2, g, hd⟩ := gap_at (p := p) (k := n) (by omega)
    have en0 : (marksM p)[n]? = some ((marksM p).getD n 0) := getD_at (by omega)
    have nx : (marksM p)[n + 1]? = some ((marksM p).getD n 0 + longM (subL a b)) := marks_next g en0
    have em : m = (marksM p).getD n 0 + longM (subL a b) := by
      rw [hm] at nx
      exact Option.some.inj nx
    have h0 : 0 ≤ m := marks_nonneg h m (List.mem_of_getElem? hm)
    have pos : 0 < longM (subL a b) := gaps_pos h.chain _ (List.mem_of_getElem? g)
    have hi : idxM p m = n := by
      have lt := idx_lt h h0
      have e : (marksM p).dropLast[n]? = some ((marksM p).getD n 0) := by rw [init_at p (by omega), en0]
      have := (cnt_iff (w := m) (init_sorted h) _ _ e).mp (by grind)
      rw [idx_cnt h h0] at this
      omega
    unfold spotM markM
    rw [hi, List.getD_eq_getElem?_getD (l := trailM p), List.getD_eq_getElem?_getD (l := headsM p), e1, hd, e2, Option.getD_some, Option.getD_some, em]
    have er : (marksM p).getD n 0 + longM (subL a b) - (marksM p).getD n 0 = longM (subL a b) := by grind
    rw [er, headM, zip_back (by grind) (by rw [len_pt h e1, len_pt h e2])]
/-! ### how far -/
def Near (m : Rat) (a b : List Rat) : Prop := ∀ (c : Nat) (x y : Rat), a[c]? = some x → b[c]? = some y → rabs (y - x) ≤ m
theorem rabs_add (x y : Rat) : rabs (x + y) ≤ rabs x + rabs y := by
  unfold rabs
  split <;> split <;> split <;> grind
theorem sub_at {a b : List Rat} {c : Nat} {x y : Rat} (h1 : a[c]? = some x) (h2 : b[c]? = some y) : x - y ∈ subL a b := by
  refine List.mem_of_getElem? (i := c) ?_
  rw [subL, List.getElem?_zipWith, h1, h2]
theorem near_trail {o : List Rat} : ∀ {ss : List StepR} {pt : List Rat} {a : Rat} {k : Nat} {b : List Rat} {m : Rat}, chainOk pt ss → Near a o pt → o.length = pt.length → (pt :: ss.map StepR.goal)[k]? = some b → (a :: marksFrom a (gapsFrom pt ss))[k]? = some m → Near m o b
  | _, pt, a, 0, b, m, _, n, _, e1, e2 => by
    have e1 : pt = b := Option.some.inj e1
    have e2 : a = m := Option.some.inj e2
    rw [← e1, ← e2]
    exact n
  | [], _, _, k + 1, _, _, _, _, _, e1, _ => by simp at e1
  | s :: r, pt, a, k + 1, b, m, h, n, hl, e1, e2 => by
    refine near_trail (ss := r) (pt := s.goal) (a := a + longM (subL s.goal pt)) (k := k) h.2 (fun c x y ex ey => ?_) (by rw [hl, h.1.1]) e1 e2
    have hc : c < pt.length := by
      rw [← h.1.1]
      exact (List.getElem?_eq_some_iff.mp ey).1
    have ez : pt[c]? = some pt[c] := List.getElem?_eq_getElem hc
    have q1 := n c x _ ex ez
    have q2 := long_ge (sub_at ey ez)
    have q3 := rabs_add (y - pt[c]) (pt[c] - x)
    have q4 : y - pt[c] + (pt[c] - x) = y - x := by grind
    rw [q4] at q3
    grind
theorem rabs_mul (x : Rat) {y : Rat} (h : 0 ≤ y) : rabs (x * y) = rabs x * y := by
  by_cases z : y = 0
  · rw [z, Rat.mul_zero, Rat.mul_zero]
    rfl
  · have hy : 0 < y := by grind
    unfold rabs
    by_cases hx : x < 0
    · have : x * y < 0 := by
        have := Rat.mul_pos (a := -x) (b := y) (by grind) hy
        grind
      rw [if_pos hx, if_pos this]
      grind
    · have : 0 ≤ x * y := Rat.mul_nonneg (by grind) h
      rw [if_neg hx, if_neg (by grind)]
theorem head_le {g : List Rat} (h : 0 < longM g) : ∀ x ∈ headM g, rabs x ≤ 1 := fun x m => by
  have := long_ge m
  rw [long_head h] at this
  exact this
theorem spot_near {p : ProgR} (h : OkP p) {w : Rat} (hw : 0 ≤ w) : longM (subL (spotM p w) p.start) ≤ w := by
  have hi := idx_lt h hw
  obtain ⟨a, b, e1, e2, g, hd⟩ := gap_at hi
  have pos : 0 < longM (subL a b) := gaps_pos h.chain _ (List.mem_of_getElem? g)
  have hl := marks_len p
  have em : (marksM p)[idxM p w]? = some (markM p w) := getD_at (by omega)
  have nr : Near (markM p w) p.start b := near_trail h.chain (fun c x y ex ey => by
    rw [ex] at ey
    have := Option.some.inj ey
    rw [this]
    have : y - y = 0 := by grind
    rw [this]
    show rabs 0 ≤ 0
    decide) rfl e1 em
  have ml := mark_le h hw
  refine long_prop (P := fun y => y ≤ w) _ hw fun x m => ?_
  obtain ⟨c, hc, ex⟩ := List.mem_iff_getElem.mp m
  have ex := List.getElem?_eq_some_iff.mpr ⟨hc, ex⟩
  rw [subL, List.getElem?_zipWith, spotM, List.getElem?_zipWith, List.getD_eq_getElem?_getD, List.getD_eq_getElem?_getD, e1, hd, Option.getD_some, Option.getD_some] at ex
  cases eb : b[c]? with
  | none => simp [eb] at ex
  | some y =>
    cases eh : (headM (subL a b))[c]? with
    | none => simp [eb, eh] at ex
    | some z =>
      cases es : p.start[c]? with
      | none => simp [eb, eh, es] at ex
      | some o =>
        simp only [eb, eh, es, Option.some.injEq] at ex
        have q1 := nr c o y es eb
        have q2 := head_le pos z (List.mem_of_getElem? eh)
        have q3 := rabs_add (y - o) (z * (w - markM p w))
        have q4 := rabs_mul z (y := w - markM p w) (by grind)
        have q5 : rabs z * (w - markM p w) ≤ 1 * (w - markM p w) := Rat.mul_le_mul_of_nonneg_right q2 (by grind)
        have q6 : y - o + z * (w - markM p w) = x := by
          rw [← ex]
          grind
        rw [q6, q4] at q3
        grind
/-! ### sizes -/
theorem trail_sz {p : ProgR} (h : OkP p) : ∀ g ∈ trailM p, ∀ x ∈ g, Sz 342 x := fun g m x hx => (((trail_gr h g m).1 x hx).sz (by omega)).mono (by omega)
theorem heads_sz {p : ProgR} (h : OkP p) : ∀ g ∈ headsM p, ∀ x ∈ g, Sz 684 x := fun g m x hx => by
  obtain ⟨g0, m0, e⟩ := List.mem_map.mp m
  rw [← e] at hx
  have hs := (gaps_gr h.grid h.chain g0 m0).1
  exact head_sz (fun y my => ((hs y my).sz (by omega)).mono (by omega)) (gaps_pos h.chain g0 m0) x hx
/-! ### for the walks -/
theorem cut_mid {xs : List D} (h : 2 ≤ xs.length) : cutD xs (some 1) (some (-1)) = (xs.drop 1).dropLast := by
  have e1 : HT.sIx xs.length 0 (some 1) = 1 := by
    show (if (1 : Int) < 0 then ((1 : Int) + (xs.length : Int)).toNat else min (1 : Int).toNat xs.length) = 1
    rw [if_neg (by decide)]
    have : (1 : Int).toNat = 1 := rfl
    omega
  have e2 : HT.sIx xs.length xs.length (some (-1)) = xs.length - 1 := by
    show (if (-1 : Int) < 0 then ((-1 : Int) + (xs.length : Int)).toNat else min (-1 : Int).toNat xs.length) = xs.length - 1
    rw [if_pos (by decide)]
    omega
  rw [cutD, e1, e2, List.dropLast_eq_take, List.length_drop]
theorem frs_mid (qs : List Rat) : ((frs qs).drop 1).dropLast = frs (qs.drop 1).dropLast := by
  rw [frs_map, frs_map, ← List.map_drop, ← List.map_dropLast]
theorem zipmap (f : Rat → Rat → Rat) : ∀ xs ys : List Rat, (xs.zip ys).map (fun z => fr (f z.1 z.2)) = frs (List.zipWith f xs ys)
  | [], _ => by simp [frs]
  | _ :: _, [] => by simp [frs]
  | x :: xs, y :: ys => by
    rw [List.zip_cons_cons, List.map_cons, zipmap f xs ys, List.zipWith_cons_cons]
    rfl
theorem ints_map {α : Type} (g : α → Int) : ∀ xs : List α, intsD (xs.map fun k => D.int (g k)) = some (xs.map g)
  | [] => rfl
  | x :: r => by
    show (intsD (r.map fun k => D.int (g k))).map (g x :: ·) = _
    rw [ints_map g r]
    rfl
theorem max_range {c : Nat} {Q : D → Prop} (h : Q (.int c)) : bMaxL [.lst ((List.range (c + 1)).map fun (k : Nat) => D.int (0 + (k : Int)))] Q := by
  show (match intsD ((List.range (c + 1)).map fun (k : Nat) => D.int (0 + (k : Int))) with
    | some ns => ns ≠ [] ∧ ∀ m ∈ ns, (∀ y ∈ ns, y ≤ m) → Q (.int m)
    | none => False)
  rw [ints_map (fun k : Nat => (0 : Int) + (k : Int))]
  refine ⟨by simp, fun m hm hy => ?_⟩
  have h1 := hy (0 + (c : Int)) (List.mem_map.mpr ⟨c, List.mem_range.mpr (by omega), rfl⟩)
  obtain ⟨k, hk, e⟩ := List.mem_map.mp hm
  have := List.mem_range.mp hk
  have : m = (c : Int) := by omega
  rw [this]
  exact h
theorem whole_mem {p : ProgR} : (marksM p)[p.steps.length]? = some (wholeM p) := getD_at (by
  rw [marks_len]
  omega)
theorem whole_at (p : ProgR) : atI (frs (marksM p)) (-1) = some (fr (wholeM p)) := by
  have hne : marksM p ≠ [] := by simp [marksM]
  have e := (List.dropLast_concat_getLast hne).symm
  have : (marksM p).getLast hne = wholeM p := by
    rw [List.getLast_eq_getElem]
    have h := whole_mem (p := p)
    have hl := marks_len p
    obtain ⟨h1, h2⟩ := List.getElem?_eq_some_iff.mp h
    rw [← h2]
    congr 1
    omega
  rw [e, this, frs_app]
  exact atI_last _ _
theorem whole_sz {p : ProgR} (h : OkP p) : Sz 347 (wholeM p) := marks_sz h _ (List.mem_of_getElem? whole_mem)
/-- a value for a way: what is told, what is raised -/
def WayQ (p : ProgR) (d : D) (q1 : Rat → Prop) (q2 : Prop) : Prop := (∃ (w : Rat) (n : Nat), d = fr w ∧ Sz n w ∧ n ≤ 2000 ∧ (0 ≤ w → w ≤ wholeM p → q1 w) ∧ (w < 0 ∨ wholeM p < w → q2)) ∨ (plain 40 d = true ∧ isFr d = false ∧ q2)
theorem WayQ.ok {p : ProgR} {w : Rat} {n : Nat} {q1 : Rat → Prop} {q2 : Prop} (h : Sz n w) (hn : n ≤ 2000) (h0 : 0 ≤ w) (h1 : w ≤ wholeM p) (q : q1 w) : WayQ p (fr w) q1 q2 := .inl ⟨w, n, rfl, h, hn, fun _ _ => q, fun z => by grind⟩
end DL
set_option Elab.async false
set_option linter.all false
set_option autoImplicit false
set_option maxHeartbeats 4000000
set_option maxRecDepth 100000
set_option exponentiation.threshold 20000
/-! Tuples times a number, tuples backwards; data that is small. -/
namespace HT
open PySem PyProof.Rows PySem.SeqAt
open PySem.AutoSeq1 (wpAny_loadPart')
open PySem.MeetsSeq PySem.MeetsSeq2 PySem.MeetsSeq3
section
variable {prog : Program} {w : World} {A : Around} {E : Value → Shared → Prop} {s : Shared}
theorem sliceApplied_rev {sl : Addr} {vl vu vs : Value} {n : Nat} {Q : Int × Int × Nat → Shared → Prop} (hs : s.heap.IsSliceOf sl vl vu vs) (pl : IsPart vl none) (pu : IsPart vu none) (ps : IsPart vs (some (-1)))
    (h : Q ((n : Int) - 1, -1, n) s) : wpAny (model prog w) A (Builtin.Slice.sliceApplied (.ref sl) (pure (n : Int))) Q E s := by
  obtain ⟨os, hos, hcs, hds⟩ := id hs
  unfold Builtin.Slice.sliceApplied Builtin.Slice.sliceFields
  refine wpAny_bind (wpAny_bind (wpAny_field hos hds (x := vl) rfl (wpAny_bind (wpAny_field hos hds (x := vu) rfl (wpAny_bind (wpAny_field hos hds (x := vs) rfl (wpAny_pure ?_)))))))
  refine wpAny_bind (slicePart_ ps ?_)
  show wpAny _ _ (if ((-1 : Int) == 0) = true then _ else _) _ _ s
  rw [if_neg (by decide)]
  refine wpAny_bind (slicePart_ pl (wpAny_bind (slicePart_ pu (wpAny_bind (wpAny_pure ?_)))))
  have e : Builtin.Slice.slicePlaces ((n : Int) - 1) (-1) (-1) = n := by
    unfold Builtin.Slice.slicePlaces
    have h1 : ¬ ((-1 : Int) > 0) := by omega
    simp only [h1, if_false]
    have : ((n : Int) - 1 - -1 - 1) / (- -1) = (n : Int) - 1 := by
      have : (- -1 : Int) = 1 := rfl
      rw [this, Int.ediv_one]
      omega
    rw [this]
    split <;> omega
  show wpAny _ _ (pure ((n : Int) - 1, (-1 : Int), Builtin.Slice.slicePlaces ((n : Int) - 1) (-1) (-1))) _ _ s
  rw [e]
  exact wpAny_pure h
theorem fm_congr {α β : Type} {f g : α → Option β} : ∀ {l : List α}, (∀ x ∈ l, f x = g x) → l.filterMap f = l.filterMap g
  | [], _ => rfl
  | x :: r, h => by
    rw [List.filterMap_cons, List.filterMap_cons, h x List.mem_cons_self, fm_congr fun y m => h y (List.mem_cons_of_mem _ m)]
theorem pick_rev (xs : Array Value) : ((List.range xs.size).filterMap fun (m : Nat) => xs[((xs.size : Int) - 1 + (m : Int) * -1).toNat]?).toArray = xs.toList.reverse.toArray := by
  have k := PySem.W.krv_all xs.toList.reverse.toArray
  have hs : xs.toList.reverse.toArray.size = xs.size := by simp
  rw [hs] at k
  have k : (List.range xs.size).filterMap (xs.toList.reverse.toArray[·]?) = xs.toList.reverse := k
  rw [← k]
  congr 1
  refine fm_congr fun m hm => ?_
  have hm := List.mem_range.mp hm
  have e : ((xs.size : Int) - 1 + (m : Int) * -1).toNat = xs.size - 1 - m := by omega
  have q : xs.toList.reverse[m]? = xs.toList[xs.toList.length - 1 - m]? := List.getElem?_reverse (by simpa using hm)
  have q2 : xs.toList.reverse.toArray[m]? = xs.toList.reverse[m]? := List.getElem?_toArray
  rw [e]
  refine Eq.trans ?_ (q2.trans q).symm
  simp
theorem getItem_tuple_rev {t sl : Addr} {items : Array Value} {vl vu vs : Value} {Q : Value → Shared → Prop} (ht : IsTup s.heap t items) (hs : s.heap.IsSliceOf sl vl vu vs) (pl : IsPart vl none) (pu : IsPart vu none) (ps : IsPart vs (some (-1)))
    (h : Q (.ref s.heap.objs.size) { s with heap := s.heap.push { cls := .type "tuple", data := .seq items.toList.reverse.toArray } })
    (hsz : items.size ≤ sizeLine) : wpAny (model prog w) A (getItem (.ref t) (.ref sl)) Q E s := by
  have htake : sizeOk (.seq items.toList.reverse.toArray) := by
    show items.toList.reverse.toArray.size ≤ sizeLine
    rw [List.size_toArray, List.length_reverse, Array.length_toList]
    exact hsz
  obtain ⟨os, hos, hcs, hds⟩ := id hs
  have hTs : s.TypeIs (.ref sl) "slice" := ⟨os, hos, hcs⟩
  unfold getItem
  try with_reducible refine wpAny_holding ?_
  first | refine wpAny_bind (wpAny_pure ?_) | skip
  refine wpAny_bind (wpAny_sequenceKey ht.typeIs (by decide) ?_)
  refine wpAny_bind (wpAny_callSpecial?_slot (name := Str.ofString "__getitem__") ht.typeIs PyProof.Rows.slot_tuple_getitem
    (wpAny_call_entry PyProof.Rows.slot_tuple_getitem ht.typeIs entry_tuple_getitem ?_ (args_tuple_getitem _ _)))
  show wpAny _ _ (Builtin.Tuple.tupleItemsOf (.ref t) >>= _) _ _ s
  refine wpAny_bind (tupleItemsOf_ ht ?_)
  refine wpAny_bind (wpAny_typeOf hTs ?_)
  rw [if_pos (by decide)]
  refine wpAny_bind (sliceApplied_rev hs pl pu ps ?_)
  have hno : ¬ ((((items.size : Int) - 1) == 0 && (-1 : Int) == 1 && items.size == items.size) = true) := by
    intro q
    rw [Bool.and_eq_true, Bool.and_eq_true] at q
    exact absurd q.1.2 (by decide)
  show wpAny _ _ (if (((items.size : Int) - 1) == 0 && (-1 : Int) == 1 && items.size == items.size) = true then _ else _) _ _ s
  rw [if_neg hno, pick_rev]
  first
    | exact wpAny_bind (m := Builtin.Tuple.tupleExact _) (wpAny_newObj_type (wpAny_pure ⟨_, rfl, wpAny_pure h⟩) htake)
    | exact wpAny_bind (m := Builtin.Tuple.tupleExact _) (wpAny_newObj_type (wpAny_bind (wpAny_pure (wpAny_pure ⟨_, rfl, wpAny_pure h⟩))) htake)
    | exact wpAny_bind (wpAny_bind (m := Builtin.Tuple.tupleExact _) (wpAny_newObj_type (wpAny_pure (wpAny_pure ⟨_, rfl, wpAny_pure h⟩)) htake))
    | exact wpAny_bind (wpAny_bind (m := Builtin.Tuple.tupleExact _) (wpAny_newObj_type (wpAny_pure ⟨_, rfl, wpAny_pure h⟩) htake))
end
end HT
namespace L2
open PySem PySem.Spec PyProof.Rows
section
variable {X : Cx}
def tRevT (K : PySem.W.Frag) (te : TE) : TE := fun σ H Q => te σ H fun x H1 => ∃ a xs, x = .ref a ∧ SqT K H1 a xs ∧ ∀ p, H1 p = none → Q (.ref p) (upd H1 p (.tup xs.reverse))
theorem pe_revT {e : Expr} {te : TE} {k : Nat} {p1 p2 p3 pos : Pos} (he : PE X e te) : PE X (.Subscript e (.Slice none none (some (.UnaryOp .USub (.Constant (.int 1) k p1) p2)) p3) pos) (tRevT X.K te) := by
  refine ⟨fun pins s σ H Q I h => ?_⟩
  refine Subscript_ (thn (he.run pins s σ H _ I h) fun v s1 ⟨x, H1, I1, r1, q1⟩ => ?_)
  obtain ⟨a, xs, ex, hx, q⟩ := q1
  subst ex
  cases r1
  have hst : PO X (some (.UnaryOp .USub (.Constant (.int 1) k p1) p2)) (tPart (tUn (rU fun i => .int (-i)) (tC (.int 1)))) := po_some (pe_un un_neg pe_int)
  refine wpAny_Slice (thn (po_none.run pins s1 σ H1 (fun o H2 => o = none ∧ H2 = H1) I1 ⟨rfl, rfl⟩) fun vl s2 ⟨l, H2, I2, pl, el, e2⟩ => ?_)
  subst el e2
  refine thn (po_none.run pins s2 σ H2 (fun o H3 => o = none ∧ H3 = H2) I2 ⟨rfl, rfl⟩) fun vu s3 ⟨u, H3, I3, pu, eu, e3⟩ => ?_
  subst eu e3
  refine thn (hst.run pins s3 σ H3 (fun o H4 => o = some (-1) ∧ H4 = H3) I3 ⟨1, rfl, -1, rfl, rfl, rfl⟩) fun vs s4 ⟨o, H4, I4, ps, eo, e4⟩ => ?_
  subst eo e4
  have I5 : Inv X pins σ H4 { s4 with heap := s4.heap.push { cls := .type "slice", data := .fields #[vl, vu, vs] } } := I4.kept (t' := s4.toks) fun b ob q => Heap.get?_push_of_some _ q
  obtain ⟨its, r, ht, hz⟩ := I5.tuple hx
  have hlen := r.length
  show wpAny (model X.prog X.w) X.A (subscriptTail e (.Slice none none (some (.UnaryOp .USub (.Constant (.int 1) k p1) p2)) p3) (.ref a) (.ref s4.heap.objs.size)) (EP X pins σ Q) X.xe { s4 with heap := s4.heap.push { cls := .type "slice", data := .fields #[vl, vu, vs] } }
  refine tail_any (ops := [.ref a, .ref s4.heap.objs.size]) ht.typeIs (PyProof.Rows.slot_tuple_getitem.lookup) ?_ (by with_unfolding_all rfl)
  refine HT.getItem_tuple_rev ht (Heap.IsSliceOf.new _ vl vu vs) pl pu ps ?_ (by rw [List.size_toArray]; omega)
  refine ⟨.ref _, _, I5.laid (t' := s4.toks) (o := .tup xs.reverse) (fun b ob q => Heap.get?_push_of_some _ q) (Nat.le_refl _) ?_, rfl, q _ (I5.hok.fresh (Nat.le_refl _))⟩
  exact ⟨by rw [List.length_reverse]; exact hz, _, r.reverse, IsTup.new _ _⟩
end
end L2
namespace DL
open PySem PySem.Spec PyProof.Rows L2
section
variable {K : PySem.W.Frag} {Z : SrcK} {X : Cx} {E : L2.St → XK} {a : Expr} {wa : EW} {pos : Pos}
def bRevT : Op1
  | .tup xs, Q => Q (.tup xs.reverse)
  | _, _ => False
theorem de_revT {k : Nat} {p1 p2 p3 : Pos} (ha : DE Z X E a wa) : DE Z X E (.Subscript a (.Slice none none (some (.UnaryOp .USub (.Constant (.int 1) k p1) p2)) p3) pos) (wUn bRevT wa) := by
  obtain ⟨t, p, l⟩ := ha
  refine ⟨_, pe_revT p, fun c F H σ ρ Xd Qd Qv e k h q => ?_⟩
  refine l c F H σ ρ Xd _ _ e k h fun d v F1 H1 h1 e1 s1 n1 r1 => ?_
  cases d with
  | tup xs =>
    obtain ⟨a, vs, rfl, h4, h5⟩ := r1
    refine ⟨a, vs, rfl, same_t e1.fh h4, fun p hp => ?_⟩
    obtain ⟨x, r⟩ := lay_tup e1.fh h5.rev hp
    exact q _ _ _ _ h1 (e1.ext x) (s1.trans x.ff) (n1.trans x.kx) r
  | non => exact h1.elim
  | bl _ => exact h1.elim
  | int _ => exact h1.elim
  | str _ => exact h1.elim
  | lst _ => exact h1.elim
  | ins _ _ _ => exact h1.elim
/-- a tuple times a number -/
def bMulT : Op2
  | .tup xs, .int k, Q => xs ≠ [] ∧ 2 ≤ k ∧ k ≤ 1000 ∧ xs.length ≤ 1000 ∧ Q (.tup (List.replicate k.toNat xs).flatten)
  | _, _, _ => False
theorem rep_flat {F : Hp} {xs : List D} {vs : List V} (h : RepL K F xs vs) : ∀ m : Nat, RepL K F (List.replicate m xs).flatten (List.replicate m vs).flatten
  | 0 => rfl
  | m + 1 => by
    rw [List.replicate_succ, List.replicate_succ, List.flatten_cons, List.flatten_cons]
    exact h.app (rep_flat h m)
theorem lop_repT : LOp K (rRepT K) bMulT := fun F H dx dy vx vy Qd Qv s rx ry z q => by
  unfold bMulT at z
  split at z
  · rename_i xs k
    obtain ⟨a, vs, rfl, ha, ra⟩ := rx
    have ry : vy = .int k := ry
    subst ry
    refine ⟨a, k, vs, rfl, rfl, same_t s ha, fun e => z.1 (List.eq_nil_of_length_eq_zero ?_), z.2.1, z.2.2.1, by rw [ra.len]; exact z.2.2.2.1, fun p hp => ?_⟩
    · rw [← ra.len, e]
      rfl
    · obtain ⟨x, r⟩ := lay_tup s (rep_flat ra k.toNat) hp
      exact q _ _ _ _ z.2.2.2.2 x r
  · exact z.elim
end
/-! ### small data -/
mutual
def fin (b : Nat) : D → Prop
  | .non => True
  | .bl _ => True
  | .int i => i.natAbs < 2 ^ b
  | .str s => PyData.strOk s = true ∧ s.length ≤ 4
  | .tup xs => finL b xs
  | .lst xs => finL b xs
  | .ins _ _ _ => False
def finL (b : Nat) : List D → Prop
  | [] => True
  | x :: xs => fin b x ∧ finL b xs
end
mutual
def dep : D → Nat
  | .tup xs => depL xs + 1
  | .lst xs => depL xs + 1
  | .non => 1
  | .bl _ => 1
  | .int _ => 1
  | .str _ => 1
  | .ins _ _ _ => 1
def depL : List D → Nat
  | [] => 0
  | x :: xs => max (dep x) (depL xs)
end
mutual
def cnt : D → Nat
  | .tup xs => cntL xs + 1
  | .lst xs => cntL xs + 1
  | .non => 1
  | .bl _ => 1
  | .int _ => 1
  | .str _ => 1
  | .ins _ _ _ => 1
def cntL : List D → Nat
  | [] => 0
  | x :: xs => cnt x + cntL xs
end
structure Gd (b n c : Nat) (x : D) : Prop where
  f : fin b x
  d : dep x ≤ n
  c : cnt x ≤ c
theorem cnt_pos (d : D) : 1 ≤ cnt d := by
  cases d <;> simp [cnt]
theorem cnt_len : ∀ xs : List D, xs.length ≤ cntL xs
  | [] => Nat.zero_le _
  | x :: xs => by
    have := cnt_pos x
    have := cnt_len xs
    rw [List.length_cons, cntL]
    omega
mutual
theorem short_gd {b : Nat} : ∀ (d : D) (n : Nat), fin b d → dep d ≤ n → cnt d ≤ 1000 → short n d = true
  | .tup xs, 0, _, h, _ => by simp [dep] at h
  | .lst xs, 0, _, h, _ => by simp [dep] at h
  | .non, 0, _, h, _ => by simp [dep] at h
  | .bl _, 0, _, h, _ => by simp [dep] at h
  | .int _, 0, _, h, _ => by simp [dep] at h
  | .str _, 0, _, h, _ => by simp [dep] at h
  | .ins _ _ _, _, h, _, _ => by simp [fin] at h
  | .non, n + 1, _, _, _ => rfl
  | .bl _, n + 1, _, _, _ => rfl
  | .int _, n + 1, _, _, _ => rfl
  | .str s, n + 1, h, _, _ => h.1
  | .tup xs, n + 1, h, e, c => by
    simp only [fin] at h
    simp only [dep] at e
    simp only [cnt] at c
    have := cnt_len xs
    simp only [short, Bool.and_eq_true, decide_eq_true_eq]
    exact ⟨by omega, shortL_gd xs n h (by omega) (by omega)⟩
  | .lst xs, n + 1, h, e, c => by
    simp only [fin] at h
    simp only [dep] at e
    simp only [cnt] at c
    have := cnt_len xs
    simp only [short, Bool.and_eq_true, decide_eq_true_eq]
    exact ⟨by omega, shortL_gd xs n h (by omega) (by omega)⟩
theorem shortL_gd {b : Nat} : ∀ (xs : List D) (n : Nat), finL b xs → depL xs ≤ n → cntL xs ≤ 1000 → shortL n xs = true
  | [], _, _, _, _ => by simp [shortL]
  | x :: xs, n, h, e, c => by
    simp only [finL] at h
    simp only [depL] at e
    simp only [cntL] at c
    simp only [shortL, Bool.and_eq_true]
    exact ⟨short_gd x n h.1 (by omega) (by omega), shortL_gd xs n h.2 (by omega) (by omega)⟩
end
mutual
theorem sml_gd {b : Nat} (hb : b ≤ 4000) : ∀ d : D, fin b d → sml d
  | .non, _ => by simp [sml]
  | .bl _, _ => by simp [sml]
  | .str _, _ => by simp [sml]
  | .ins _ _ _, h => by simp [fin] at h
  | .int i, h => by
    simp only [fin] at h
    simp only [sml]
    exact Nat.lt_of_lt_of_le h (Nat.pow_le_pow_right (by omega) hb)
  | .tup xs, h => by
    simp only [fin] at h
    simp only [sml]
    exact smlL_gd hb xs h
  | .lst xs, h => by
    simp only [fin] at h
    simp only [sml]
    exact smlL_gd hb xs h
theorem smlL_gd {b : Nat} (hb : b ≤ 4000) : ∀ xs : List D, finL b xs → smlL xs
  | [], _ => by simp [smlL]
  | x :: xs, h => by
    simp only [finL] at h
    simp only [smlL]
    exact ⟨sml_gd hb x h.1, smlL_gd hb xs h.2⟩
end
mutual
theorem tiny_gd {b : Nat} (hb : b ≤ 400) : ∀ d : D, fin b d → tiny4 d
  | .non, _ => by simp [tiny4]
  | .bl _, _ => by simp [tiny4]
  | .str _, _ => by simp [tiny4]
  | .ins _ _ _, h => by simp [fin] at h
  | .int i, h => by
    simp only [fin] at h
    simp only [tiny4]
    exact Nat.lt_of_lt_of_le h (Nat.pow_le_pow_right (by omega) hb)
  | .tup xs, h => by
    simp only [fin] at h
    simp only [tiny4]
    exact tinyL_gd hb xs h
  | .lst xs, h => by
    simp only [fin] at h
    simp only [tiny4]
    exact tinyL_gd hb xs h
theorem tinyL_gd {b : Nat} (hb : b ≤ 400) : ∀ xs : List D, finL b xs → tiny4L xs
  | [], _ => by simp [tiny4L]
  | x :: xs, h => by
    simp only [finL] at h
    simp only [tiny4L]
    exact ⟨tiny_gd hb x h.1, tinyL_gd hb xs h.2⟩
end
mutual
theorem cost_gd {b : Nat} : ∀ d : D, fin b d → cost d + 2 ≤ cnt d * (b + 60)
  | .non, _ => by simp only [cost, cnt]; omega
  | .bl _, _ => by simp only [cost, cnt]; omega
  | .str s, h => by
    simp only [fin] at h
    simp only [cost, cnt]
    omega
  | .ins _ _ _, h => by simp [fin] at h
  | .int i, h => by
    simp only [fin] at h
    have := log_lt h (Nat.lt_succ_self b)
    simp only [cost, cnt]
    omega
  | .tup xs, h => by
    simp only [fin] at h
    have := costL_gd xs h
    simp only [cost, cnt]
    rw [Nat.add_mul]
    omega
  | .lst xs, h => by
    simp only [fin] at h
    have := costL_gd xs h
    simp only [cost, cnt]
    rw [Nat.add_mul]
    omega
theorem costL_gd {b : Nat} : ∀ xs : List D, finL b xs → costL xs ≤ cntL xs * (b + 60)
  | [], _ => by simp [costL]
  | x :: xs, h => by
    simp only [finL] at h
    have h1 := cost_gd x h.1
    have h2 := costL_gd xs h.2
    simp only [costL, cntL]
    rw [Nat.add_mul]
    omega
end
mutual
theorem fin_mono {b b' : Nat} (hb : b ≤ b') : ∀ d : D, fin b d → fin b' d
  | .non, _ => by simp [fin]
  | .bl _, _ => by simp [fin]
  | .str _, h => by
    simp only [fin] at h ⊢
    exact h
  | .ins _ _ _, h => by simp [fin] at h
  | .int i, h => by
    simp only [fin] at h ⊢
    exact Nat.lt_of_lt_of_le h (Nat.pow_le_pow_right (by omega) hb)
  | .tup xs, h => by
    simp only [fin] at h ⊢
    exact finL_mono hb xs h
  | .lst xs, h => by
    simp only [fin] at h ⊢
    exact finL_mono hb xs h
theorem finL_mono {b b' : Nat} (hb : b ≤ b') : ∀ xs : List D, finL b xs → finL b' xs
  | [], _ => by simp [finL]
  | x :: xs, h => by
    simp only [finL] at h ⊢
    exact ⟨fin_mono hb x h.1, finL_mono hb xs h.2⟩
end
theorem Gd.mono {b n c b' n' c' : Nat} {d : D} (h : Gd b n c d) (hb : b ≤ b') (hn : n ≤ n') (hc : c ≤ c') : Gd b' n' c' d := ⟨fin_mono hb d h.f, Nat.le_trans h.d hn, Nat.le_trans h.c hc⟩
theorem Gd.ok {b n c : Nat} {d : D} (h : Gd b n c d) (hb : b ≤ 4000) (hn : n ≤ 39) (hc : c ≤ 1000) : okD d := ⟨short_gd d 40 h.f (Nat.le_trans h.d (by omega)) (Nat.le_trans h.c hc), sml_gd hb d h.f⟩
/-- lists of small data -/
structure GdL (b n c : Nat) (xs : List D) : Prop where
  f : finL b xs
  d : depL xs ≤ n
  c : cntL xs ≤ c
theorem finL_app {b : Nat} : ∀ {xs ys : List D}, finL b xs → finL b ys → finL b (xs ++ ys)
  | [], _, _, k => k
  | x :: xs, ys, h, k => by
    simp only [finL] at h
    show finL b (x :: (xs ++ ys))
    simp only [finL]
    exact ⟨h.1, finL_app h.2 k⟩
theorem depL_app : ∀ xs ys : List D, depL (xs ++ ys) = max (depL xs) (depL ys)
  | [], ys => by simp [depL]
  | x :: xs, ys => by
    show depL (x :: (xs ++ ys)) = _
    simp only [depL]
    rw [depL_app xs ys, Nat.max_assoc]
theorem cntL_app : ∀ xs ys : List D, cntL (xs ++ ys) = cntL xs + cntL ys
  | [], ys => by simp [cntL]
  | x :: xs, ys => by
    show cntL (x :: (xs ++ ys)) = _
    simp only [cntL]
    rw [cntL_app xs ys]
    omega
theorem finL_el {b : Nat} {xs : List D} : finL b xs ↔ ∀ x ∈ xs, fin b x := by
  induction xs with
  | nil => simp [finL]
  | cons x r ih => simp [finL, ih]
theorem dep_el {xs : List D} {x : D} (h : x ∈ xs) : dep x ≤ depL xs := by
  induction xs with
  | nil => cases h
  | cons y r ih =>
    simp only [depL]
    rcases List.mem_cons.mp h with e | m
    · rw [e]
      omega
    · have := ih m
      omega
theorem cnt_el {xs : List D} {x : D} (h : x ∈ xs) : cnt x ≤ cntL xs := by
  induction xs with
  | nil => cases h
  | cons y r ih =>
    simp only [cntL]
    rcases List.mem_cons.mp h with e | m
    · rw [e]
      omega
    · have := ih m
      omega
theorem GdL.app {b n c c' : Nat} {xs ys : List D} (h : GdL b n c xs) (k : GdL b n c' ys) : GdL b n (c + c') (xs ++ ys) := ⟨finL_app h.f k.f, by
  have := h.d
  have := k.d
  rw [depL_app]
  omega, by
  have := h.c
  have := k.c
  rw [cntL_app]
  omega⟩
theorem GdL.mono {b n c b' n' c' : Nat} {d : List D} (h : GdL b n c d) (hb : b ≤ b') (hn : n ≤ n') (hc : c ≤ c') : GdL b' n' c' d := ⟨finL_mono hb d h.f, Nat.le_trans h.d hn, Nat.le_trans h.c hc⟩
theorem GdL.of_app {b n c : Nat} {xs ys : List D} (h : GdL b n c (xs ++ ys)) : GdL b n c xs ∧ GdL b n c ys ∧ cntL xs + cntL ys ≤ c := by
  have e1 := h.d
  have e2 := h.c
  rw [depL_app] at e1
  rw [cntL_app] at e2
  have e3 := finL_el.mp h.f
  exact ⟨⟨finL_el.mpr fun x m => e3 x (List.mem_append_left _ m), by omega, by omega⟩, ⟨finL_el.mpr fun x m => e3 x (List.mem_append_right _ m), by omega, by omega⟩, e2⟩
theorem GdL.one {b n c : Nat} {d : D} (h : Gd b n c d) : GdL b n c [d] := ⟨by simp only [finL]; exact ⟨h.f, trivial⟩, by
  have := h.d
  simp only [depL]
  omega, by
  have := h.c
  simp only [cntL]
  omega⟩
theorem GdL.tup {b n c : Nat} {xs : List D} (h : GdL b n c xs) : Gd b (n + 1) (c + 1) (.tup xs) := ⟨by simp only [fin]; exact h.f, by simp only [dep]; exact Nat.succ_le_succ h.d, by simp only [cnt]; exact Nat.succ_le_succ h.c⟩
theorem GdL.lst {b n c : Nat} {xs : List D} (h : GdL b n c xs) : Gd b (n + 1) (c + 1) (.lst xs) := ⟨by simp only [fin]; exact h.f, by simp only [dep]; exact Nat.succ_le_succ h.d, by simp only [cnt]; exact Nat.succ_le_succ h.c⟩
theorem Gd.in {b n c : Nat} {xs : List D} (h : Gd b (n + 1) (c + 1) (.tup xs)) : GdL b n c xs := ⟨by have := h.f; simp only [fin] at this; exact this, by have := h.d; simp only [dep] at this; omega, by have := h.c; simp only [cnt] at this; omega⟩
theorem GdL.el {b n c : Nat} {xs : List D} (h : GdL b n c xs) {x : D} (m : x ∈ xs) : Gd b n c x := ⟨finL_el.mp h.f x m, Nat.le_trans (dep_el m) h.d, Nat.le_trans (cnt_el m) h.c⟩
theorem GdL.rev {b n c : Nat} : ∀ {xs : List D}, GdL b n c xs → GdL b n c xs.reverse
  | xs, h => by
    have dr : ∀ ys : List D, depL ys.reverse = depL ys ∧ cntL ys.reverse = cntL ys := fun ys => by
      induction ys with
      | nil => exact ⟨rfl, rfl⟩
      | cons y r ih =>
        rw [List.reverse_cons, depL_app, cntL_app, ih.1, ih.2]
        simp only [depL, cntL]
        omega
    have := dr xs
    exact ⟨finL_el.mpr fun x m => finL_el.mp h.f x (List.mem_reverse.mp m), by rw [this.1]; exact h.d, by rw [this.2]; exact h.c⟩
theorem gd_fr {n : Nat} {q : Rat} (h : Sz n q) : Gd n 2 3 (fr q) := by
  refine ⟨?_, by simp [fr, dep, depL], by simp [fr, cnt, cntL]⟩
  show fin n (.tup [.int q.num, .int q.den])
  simp only [fin, finL]
  exact ⟨h.1, h.den, trivial⟩
end DL
set_option linter.all false
set_option autoImplicit false
set_option maxHeartbeats 4000000
set_option maxRecDepth 100000
/-! len(set(..)) of ints, tuple(range(n)), suites that ask of which class the error is. -/
namespace DL
open PySem PySem.Spec PyProof.Rows L2
/-! ### counting -/
theorem nd_le : ∀ {l m : List Int}, l.Nodup → (∀ x ∈ l, x ∈ m) → l.length ≤ m.length
  | [], _, _, _ => Nat.zero_le _
  | a :: l, m, hn, hs => by
    have h1 := List.nodup_cons.mp hn
    have ha : a ∈ m := hs a List.mem_cons_self
    have h2 : l.length ≤ (m.erase a).length := nd_le h1.2 fun x hx => by
      have : x ≠ a := fun e => h1.1 (e ▸ hx)
      exact (List.mem_erase_of_ne this).mpr (hs x (List.mem_cons_of_mem _ hx))
    have h3 := List.length_erase_of_mem ha
    have h4 : 0 < m.length := List.length_pos_of_mem ha
    show l.length + 1 ≤ m.length
    omega
theorem nd_lt : ∀ {m l : List Int}, l.Nodup → (∀ x ∈ l, x ∈ m) → ¬ m.Nodup → l.length < m.length
  | [], _, _, _, h => absurd List.nodup_nil h
  | b :: m, l, hn, hs, hm => by
    show l.length < m.length + 1
    by_cases hb : b ∈ m
    · have := nd_le hn fun x hx => (by
        rcases List.mem_cons.mp (hs x hx) with e | e
        · exact e ▸ hb
        · exact e)
      omega
    · have hm2 : ¬ m.Nodup := fun q => hm (List.nodup_cons.mpr ⟨hb, q⟩)
      have h2 : (l.erase b).length < m.length := nd_lt (List.Nodup.erase b hn) (fun x hx => by
        have h5 := (List.Nodup.mem_erase_iff hn).mp hx
        rcases List.mem_cons.mp (hs x h5.2) with e | e
        · exact absurd e h5.1
        · exact e) hm2
      by_cases hl : b ∈ l
      · have h3 := List.length_erase_of_mem hl
        omega
      · rw [List.erase_of_not_mem hl] at h2
        omega
theorem nd_iff {ks ns : List Int} (hk : ks.Nodup) (h : ∀ x, x ∈ ks ↔ x ∈ ns) : ks.length ≤ ns.length ∧ (ks.length = ns.length ↔ ns.Nodup) := by
  refine ⟨nd_le hk fun x hx => (h x).mp hx, fun e => ?_, fun hn => ?_⟩
  · refine Classical.byContradiction fun q => ?_
    have := nd_lt hk (fun x hx => (h x).mp hx) q
    omega
  · have h1 := nd_le hk fun x hx => (h x).mp hx
    have h2 := nd_le hn fun x hx => (h x).mpr hx
    omega
/-! ### len(set(x)), x a tuple of ints -/
def bLenSet : Op1 := fun x Q => ∃ ns : List Int, x = .tup (ns.map D.int) ∧ ns.length < 64 ∧ ∀ n : Nat, n ≤ ns.length → (n = ns.length ↔ ns.Nodup) → Q (.int n)
def tLenSetT (K : PySem.W.Frag) (ta : TE) : TE := fun σ H Q => ta σ H fun x H1 => ∃ (l : Addr) (ns : List Int), x = V.ref l ∧ SqT K H1 l (ns.map V.int) ∧ ns.length < 64 ∧ ∀ n : Nat, n ≤ ns.length → (n = ns.length ↔ ns.Nodup) → Q (.int n) H1
section
variable {Z : SrcK} {X : Cx} {E : L2.St → XK} {K : PySem.W.Frag} {a e : Expr} {w wa : EW} {pos : Pos} {F H F' H' : Hp} {ta : TE}
theorem pe_lenSetT {p p2 q pos : Pos} (hc : X.calm = true) (hg : Gl X "len") (hm : X.mg "len" = none) (hg2 : Gl X "set") (hm2 : X.mg "set" = none) (ha : PE X a ta)
    (na : starEach [a] X.env = (false, eval a X.env) :: starEach [] X.env := by rfl) : PE X (.Call (.Name "len" p) [.Call (.Name "set" p2) [a] [] q] [] pos) (tLenSetT X.K ta) := by
  refine ⟨fun pins s σ H Q I h => ?_⟩
  refine Call_ (ld_blt I hg hm PySem.boot_len ?_)
  refine PyProof.Rows.callWith_builtin1 (PyProof.Rows.args_cons ?_ rfl) rfl rfl
  refine Call_ (ld_blt I hg2 hm2 PyProof.Rows.boot_set ?_)
  refine PyProof.Rows.callWith_type1 (PyProof.Rows.args_cons (thn (ha.run pins s σ H _ I h) fun v s1 ⟨x, H1, I1, r1, q1⟩ => PyProof.Rows.args_nil ?_) na) na rfl
  obtain ⟨l, ns, rfl, hq, h1, q1⟩ := q1
  cases r1
  obtain ⟨its, r, pl, hz⟩ := I1.tuple hq
  have hi : IntsAre its.toArray.toList ns := by simpa using r.ints
  refine call_set_tupI ns (I1.ok.hd hc) (show s1.heap.IsTuple l its.toArray from pl) hi (by unfold scanBound; omega) fun h' tk c R1 hcn k => ?_
  refine PyProof.Rows.args_nil ?_
  obtain ⟨o, es, ep, t, ho, hex, hd, _, hnd, hmem, _, hf, hn, _⟩ := R1
  have I2 : Inv X pins σ H1 { s1 with heap := h', toks := tk } := I1.kept fun b o e => k b o e
  have hl : (es.toList.map keyOf).length = c := by rw [List.length_map, Array.length_toList, hn]
  have z := nd_iff (ns := ns) hnd fun x => by rw [← hmem x] <;> simp
  rw [hl] at z
  refine call_len_set ho hex hd hf (by rw [hn] <;> omega) ⟨.int c, H1, I2.tok _, ⟨_, by rw [hn]⟩, q1 c z.1 z.2⟩
theorem repL_intsI : ∀ {ns : List Int} {vs : List V}, RepL K F (ns.map D.int) vs → vs = ns.map V.int
  | [], vs, r => by
    cases vs with
    | nil => rfl
    | cons v l => exact absurd r.len (by simp)
  | n :: ns, vs, r => by
    obtain ⟨v, l, rfl, h1, h2⟩ := r
    have h1 : v = V.int n := h1
    rw [h1, repL_intsI h2] <;> rfl
theorem de_lenSet {p p2 q : Pos} (hc : X.calm = true) (hm : X.mg "len" = none) (hm2 : X.mg "set" = none) (ha : DE Z X E a wa) (hg : Gl X "len" := by rfl) (hg2 : Gl X "set" := by rfl) (na : starEach [a] X.env = (false, eval a X.env) :: starEach [] X.env := by rfl) :
    DE Z X E (.Call (.Name "len" p) [.Call (.Name "set" p2) [a] [] q] [] pos) (wUn bLenSet wa) := by
  obtain ⟨t, pa, la⟩ := ha
  refine ⟨_, pe_lenSetT hc hg hm hg2 hm2 pa na, fun c F H σ ρ Xd Qd Qv e l h q => ?_⟩
  refine la c F H σ ρ Xd _ _ e l h fun d v F1 H1 h1 e1 s1 n1 r1 => ?_
  obtain ⟨ns, rfl, z1, z2⟩ := h1
  obtain ⟨b, vs, rfl, hb, rb⟩ := r1
  rw [repL_intsI rb] at hb
  exact ⟨b, ns, rfl, same_t e1.fh hb, z1, fun n y1 y2 => q _ _ F1 H1 (z2 n y1 y2) e1 s1 n1 rfl⟩
/-! ### tuple(range(n)) -/
def bTupRg : Op1 := fun x Q => ∃ n : Int, x = .int n ∧ 0 ≤ n ∧ n ≤ 100000 ∧ Q (.tup ((List.range n.toNat).map fun i : Nat => D.int i))
theorem repL_range {K : PySem.W.Frag} {F : Hp} {f : Nat → D} {g : Nat → V} (h : ∀ i, Rep K F (f i) (g i)) : ∀ l : List Nat, RepL K F (l.map f) (l.map g)
  | [] => rfl
  | i :: l => ⟨g i, l.map g, rfl, h i, repL_range h l⟩
theorem de_tupRg {p p2 q : Pos} (hc : X.calm = true) (hm : X.mg "tuple" = none) (hm2 : X.mg "range" = none) (ha : DE Z X E a wa) (hg : Gl X "tuple" := by rfl) (hg2 : Gl X "range" := by rfl) (na : starEach [a] X.env = (false, eval a X.env) :: starEach [] X.env := by rfl)
    (nb : starEach [Expr.Call (.Name "range" p2) [a] [] q] X.env = (false, eval (.Call (.Name "range" p2) [a] [] q) X.env) :: starEach [] X.env := by rfl) :
    DE Z X E (.Call (.Name "tuple" p) [.Call (.Name "range" p2) [a] [] q] [] pos) (wUn bTupRg wa) := by
  obtain ⟨t, pa, la⟩ := ha
  refine ⟨_, pe_tupRg hc hg hm (prg_1 hg2 hm2 pa na) nb, fun c F H σ ρ Xd Qd Qv e l h q => ?_⟩
  refine la c F H σ ρ Xd _ _ e l h fun d v F1 H1 h1 e1 s1 n1 r1 => ?_
  obtain ⟨n, rfl, z1, z2, z3⟩ := h1
  have r1 : v = V.int n := r1
  refine ⟨n, r1, RgOk.of_le (Int.le_refl 0) (by omega) (by omega) z1, fun p hp => ?_⟩
  have rr : RepL X.K F1 ((List.range n.toNat).map fun i : Nat => D.int i) (rgV 0 n) := by
    unfold rgV
    rw [Int.sub_zero]
    exact repL_range (f := fun i : Nat => D.int i) (g := fun i : Nat => V.int (0 + (i : Nat))) (fun i => show V.int (0 + (i : Nat)) = V.int (i : Nat) by rw [Int.zero_add]) _
  obtain ⟨x, r⟩ := lay_tup e1.fh rr hp
  exact q _ _ _ _ z3 (e1.ext x) (s1.trans x.ff) (n1.trans x.kx) r
end
/-! ### isinstance of the error that a suite holds -/
structure ErI (K : PySem.W.Frag) (L : List Str) : Prop where
  cls : ∀ a ∈ L, ∀ A : Addr, PySem.W.nsIn K mainGlobals a = some (some (.ref A)) → ExcC K A
section
variable {Z : SrcK} {X : Cx} {E : L2.St → XK} {K : PySem.W.Frag} {i : Nat} {pos : Pos}
def rIsX (K : PySem.W.Frag) (cls : Value) (d : Option Addr) (a : Addr) : List V → Hp → VK → Prop := fun xs H Q => ∃ (D C : Addr) (b : Bool), xs = [.ref a, .ref C] ∧ cls = .ref D ∧ ExcC K D ∧ (d = none ∨ ∃ dd l, d = some dd ∧ H dd = some (.xd l)) ∧ PySem.W.kitOne K (.ref D) (.ref C) = some b ∧ Q (.bl b) H
theorem call_isX {a : Addr} {cls : Value} {d : Option Addr} {oe : Obj} {pn : List (Addr × Obj)} (hz : Zc cls d oe) (hf : ∃ vs, oe.data = .fields vs) : CallR (X.suite a ((a, oe) :: pn)) (.builtin "isinstance") (rIsX X.K cls d a) := by
  intro pins s σ H xs us Q I r h
  obtain ⟨D, C, b, rfl, rfl, hC, hd, e, q⟩ := h
  cases r with
  | cons rx rr =>
    cases rr with
    | cons rt rr =>
      cases rr
      cases rx
      cases rt
      obtain ⟨hget, _⟩ := I.pin (a, oe) (List.mem_append.mpr (.inl List.mem_cons_self))
      obtain ⟨vs, hv⟩ := hf
      have J : ∃ od, PySem.W.InstAt s.heap a oe D od := by
        obtain ⟨oc, odd, oda, osl⟩ := oe
        obtain ⟨h1, h2⟩ := hz
        dsimp only at h1 h2 hv
        subst h1 h2 hv
        rcases hd with rfl | ⟨dd, l, rfl, hl⟩
        · exact ⟨none, hget, rfl, rfl, trivial⟩
        · obtain ⟨mA, hns, hr⟩ : ObjOk X.prog X.w H s.heap dd (.xd l) := I.hok dd _ hl
          obtain ⟨od, ho, _⟩ := lookIn_ns hns
          exact ⟨some od, hget, rfl, rfl, ho⟩
      obtain ⟨od, J⟩ := J
      obtain ⟨cd, hcd, _⟩ := PySem.W.any_some hC.hd
      exact PySem.W.kia_one (PySem.W.kitx_exc (by rw [hcd] <;> rfl) hC.hg hC.hk hC.hs hC.ha hC.hn hC.ht hC.hm) I.kIn J e (fun z => nomatch z) fun tk => ⟨.bl b, H, I.kept (t' := tk) fun _ _ z => z, rfl, q⟩
abbrev TXW := Exc → (Bool → Prop) → Prop
def LXT (Z : SrcK) (K : PySem.W.Frag) (i : Nat) (t : Addr → Value → Option Addr → TT) (w : TXW) : Prop :=
  ∀ (c : Cfg) (F H : Hp) (σ : L2.St) (ρ : Env) (a : Addr) (cls : Value) (d : Option Addr) (ex : Exc) (Qd : Bool → Prop) (Qv : Bool → Hp → Prop), EnvOk Z K c F H σ ρ → (i < σ.length → σ[i]? = some (some (.ref a))) → i < σ.length → ExRep K F ex cls d → w ex Qd →
    (∀ b F' H', Qd b → EnvOk Z K c F' H' σ ρ → Same F F' → Kx c.fp F H F' H' → Qv b H') → t a cls d σ H Qv
def DXT (Z : SrcK) (X : Cx) (i : Nat) (e : Expr) (w : TXW) : Prop := ∃ t : Addr → Value → Option Addr → TT, InSu X (fun Y a cls d => PT Y e (t a cls d)) ∧ LXT Z X.K i t w
/-- isinstance(e, C) -/
def xIs (L : List Str) (c : Str) : TXW := fun ex Q => L.contains ex.cls = true ∧ Q (subX ex.cls c)
theorem kit_sub {K : PySem.W.Frag} {mg : Str → Option Value} {L : List Str} (S : ErS K mg L) {a c : Str} {A C : Addr} (ha : a ∈ L) (hc : c ∈ L) (nA : PySem.W.nsIn K mainGlobals a = some (some (.ref A))) (nC : PySem.W.nsIn K mainGlobals c = some (some (.ref C))) :
    PySem.W.kitOne K (.ref A) (.ref C) = some (subX a c) := by
  have x := S.sub a ha c hc A C nA nC
  have k : PySem.W.kitCls K (.ref A) (.ref C) = some (subX a c) := by
    unfold PySem.W.exmOne at x
    split at x
    · exact x
    · cases x
  unfold PySem.W.kitOne
  split
  · rename_i e
    have e : A = C := Value.ref.inj (beq_iff_eq.mp e)
    subst e
    have y := S.sub a ha a ha A A nA nA
    rw [x] at y
    have z : subX a a = true := by simp [subX]
    rw [z] at y
    exact y.symm
  · exact k
theorem dxt_is {n nm : Str} {L : List Str} {p p1 p2 : Pos} (S : ErS X.K X.mg L) (B : ErI X.K L) (hm : X.mg "isinstance" = none) (hL : nm ∈ L := by decide) (hN : X.N[i]? = some n := by rfl) (hv : Vis X.env.scope n := by first | exact Or.inl rfl | exact Or.inr (Or.inl rfl) | exact Or.inr (Or.inr rfl)) (hd : (n == ("__debug__" : Str)) = false := by decide)
    (hcd : (n == ("__classdict__" : Str)) = false := by decide) (hg : Gl X "isinstance" := by rfl) (hgn : Gl X nm := by rfl) (hdb : (nm == ("__debug__" : Str)) = false := by decide)
    (h1 : starEach [Expr.Name nm p2] X.env = (false, eval (.Name nm p2) X.env) :: starEach [] X.env := by rfl) (h2 : starEach [Expr.Name n p1, .Name nm p2] X.env = (false, eval (.Name n p1) X.env) :: starEach [.Name nm p2] X.env := by rfl)
    (hpl : (backTo pos (starEach [Expr.Name nm p2] X.env)).any (·.1) = false := by rfl) : DXT Z X i (.Call (.Name "isinstance" p) [.Name n p1, .Name nm p2] [] pos) (xIs L nm) := by
  obtain ⟨C, gC, nC⟩ := S.mg nm hL
  refine ⟨fun a cls d => L2.tB (tCB (rIsX X.K cls d a) (tCons (tVar i) (tCons (tC (.ref C)) tNil))), fun a oe cls d pn hz hf => ?_, fun c F H σ ρ a cls d ex Qd Qv e hi hl r h q => ?_⟩
  · exact pt_val (pe_callB (X := X.suite a ((a, oe) :: pn)) (call_isX hz hf) hg hm PyProof.Rows.boot_isinstance (pa_cons (pe_var (X := X.suite a ((a, oe) :: pn)) hN hv hd hcd) (pa_cons (pe_glob (X := X.suite a ((a, oe) :: pn)) (v := .ref C) hgn gC rfl hdb) pa_nil h1) h2) (he := h2) (hpl := hpl))
  · obtain ⟨⟨D, rfl, nD⟩, r2⟩ := r
    have hx : ex.cls ∈ L := by simpa using h.1
    have ho : d = none ∨ ∃ dd l, d = some dd ∧ H dd = some (.xd l) := by
      cases q2 : ex.fld with
      | none => rw [q2] at r2; exact .inl r2
      | some pr =>
        rw [q2] at r2
        obtain ⟨dx, v, z1, z2, z3⟩ := r2
        exact .inr ⟨dx, _, z1, e.fh _ _ z2⟩
    exact ⟨_, hi hl, D, C, _, rfl, rfl, B.cls _ hx D nD, ho, kit_sub S hx hL nD nC, _, rfl, q _ F H h.2 e (Same.refl _) (Kx.refl _ _ _)⟩
def xIf (t : TXW) (a b : EX) : EX := fun ex Q => t ex fun k => if k = true then a ex Q else b ex Q
theorem dx_if {tc ea eb : Expr} {t : TXW} {wa wb : EX} (ht : DXT Z X i tc t) (ha : DX Z X i ea wa) (hb : DX Z X i eb wb) : DX Z X i (.IfExp tc ea eb pos) (xIf t wa wb) := by
  obtain ⟨t0, p0, l0⟩ := ht
  obtain ⟨t1, p1, l1⟩ := ha
  obtain ⟨t2, p2, l2⟩ := hb
  refine ⟨fun a cls d => tIf (t0 a cls d) (t1 a cls d) (t2 a cls d), fun a oe cls d pn hz hf => pe_ifExp (p0 a oe cls d pn hz hf) (p1 a oe cls d pn hz hf) (p2 a oe cls d pn hz hf), fun c F H σ ρ a cls d ex Qd Qv e hi hl r h q => ?_⟩
  refine l0 c F H σ ρ a cls d ex _ _ e hi hl r h fun b F1 H1 h1 e1 s1 n1 => ?_
  cases b with
  | true => exact l1 c F1 H1 σ ρ a cls d ex _ _ e1 hi hl (r.mono s1) h1 fun x v F2 H2 h2 e2 s2 n2 r2 => q x v F2 H2 h2 e2 (s1.trans s2) (n1.trans n2) r2
  | false => exact l2 c F1 H1 σ ρ a cls d ex _ _ e1 hi hl (r.mono s1) h1 fun x v F2 H2 h2 e2 s2 n2 r2 => q x v F2 H2 h2 e2 (s1.trans s2) (n1.trans n2) r2
/-! ### suites of several statements; the error's name is in slot i -/
abbrev SXW := Exc → (Env → Prop) → Env → Prop
def LSX (Z : SrcK) (K : PySem.W.Frag) (i : Nat) (t : Addr → Value → Option Addr → TS) (w : SXW) : Prop :=
  ∀ (c : Cfg) (F H : Hp) (σ : L2.St) (ρ : Env) (a : Addr) (cls : Value) (d : Option Addr) (ex : Exc) (Qd : Env → Prop) (D : Ends), EnvOk Z K c F H σ ρ → i < σ.length → σ[i]? = some (some (.ref a)) → ExRep K F ex cls d → w ex Qd ρ →
    (∀ τ ρ' F' H', Qd ρ' → EnvOk Z K c F' H' τ ρ' → i < τ.length → τ[i]? = some (some (.ref a)) → Same F F' → Nx H H' → D.nx τ H') → t a cls d D σ H
def D1X (Z : SrcK) (X : Cx) (i : Nat) (st : Stmt) (w : SXW) : Prop := ∃ t : Addr → Value → Option Addr → TS, InSu X (fun Y a cls d => PS Y st (t a cls d)) ∧ LSX Z X.K i t w
def DSX (Z : SrcK) (X : Cx) (i : Nat) (sts : List Stmt) (w : SXW) : Prop := ∃ t : Addr → Value → Option Addr → TS, InSu X (fun Y a cls d => PSs Y sts (t a cls d)) ∧ LSX Z X.K i t w
def sxNil : SXW := fun _ Q ρ => Q ρ
def sxSeq (a b : SXW) : SXW := fun ex Q ρ => a ex (b ex Q) ρ
def sxSet (i j : Nat) (w : EX) : SXW := fun ex Q ρ => i ≠ j ∧ w ex fun x => Q (ρ.set j (.d x))
def sxIf (t : TXW) (a b : SXW) : SXW := fun ex Q ρ => t ex fun k => if k = true then a ex Q ρ else b ex Q ρ
theorem dsuX_nil : DSX Z X i [] sxNil := ⟨fun _ _ _ => tNext, fun _ _ _ _ _ _ _ => pss_nil, fun c F H σ ρ a cls d ex Qd D e hl hi _ h q => q σ ρ F H h e hl hi (Same.refl _) (Nx.refl _)⟩
theorem dsuX_cons {st : Stmt} {sts : List Stmt} {w u : SXW} (h1 : D1X Z X i st w) (h2 : DSX Z X i sts u) : DSX Z X i (st :: sts) (sxSeq w u) := by
  obtain ⟨t0, p0, l0⟩ := h1
  obtain ⟨t1, p1, l1⟩ := h2
  refine ⟨fun a cls d => tSeq (t0 a cls d) (t1 a cls d), fun a oe cls d pn hz hf => pss_cons (p0 a oe cls d pn hz hf) (p1 a oe cls d pn hz hf), fun c F H σ ρ a cls d ex Qd D e hl hi r h q => ?_⟩
  refine l0 c F H σ ρ a cls d ex _ _ e hl hi r h fun τ ρ' F1 H1 h1 e1 hl1 hi1 s1 n1 => ?_
  exact l1 c F1 H1 τ ρ' a cls d ex _ _ e1 hl1 hi1 (r.mono s1) h1 fun τ2 ρ2 F2 H2 h2 e2 hl2 hi2 s2 n2 => q τ2 ρ2 F2 H2 h2 e2 hl2 hi2 (s1.trans s2) (n1.trans n2)
theorem d1x_set {x : Str} {pos' : Pos} {e : Expr} {wx : EX} (j : Nat) (hN : X.N.Nodup) (he : DX Z X i e wx) (hi : X.N[j]? = some x := by rfl) (hx : Loc X.env.scope x := by first | exact Or.inl rfl | exact Or.inr rfl) (hs : swapsWith e (some (.Name x pos')) pos.line X.env = pure false := by rfl)
    (hf : X.fn x = true ∨ X.env.scope.names.lookup x = some .local := by first | exact .inl rfl | exact .inr rfl) : D1X Z X i (.Assign [.Name x pos'] e pos) (sxSet i j wx) := by
  obtain ⟨t, p, l⟩ := he
  refine ⟨fun a cls d => tAsg (t a cls d) (gName j), fun a oe cls d pn hz hff => ps_set (X := X.suite a ((a, oe) :: pn)) hN hi hx (p a oe cls d pn hz hff) hs hf, fun c F H σ ρ a cls d ex Qd D e hl hii r h q => ?_⟩
  refine l c F H σ ρ a cls d ex _ _ e (fun _ => hii) hl r h.2 fun x v F2 H2 h2 e2 s2 n2 r2 => ?_
  exact q _ _ F2 H2 h2 (e2.setD r2) (by rw [List.length_set]; exact hl) (by rw [List.getElem?_set_ne (Ne.symm h.1)]; exact hii) s2 n2.nx
theorem d1x_if {tc : Expr} {p q : List Stmt} {t : TXW} {w u : SXW} (ht : DXT Z X i tc t) (h1 : DSX Z X i p w) (h2 : DSX Z X i q u) : D1X Z X i (.If tc p q pos) (sxIf t w u) := by
  obtain ⟨t0, p0, l0⟩ := ht
  obtain ⟨t1, p1, l1⟩ := h1
  obtain ⟨t2, p2, l2⟩ := h2
  refine ⟨fun a cls d => tIfS (t0 a cls d) (t1 a cls d) (t2 a cls d), fun a oe cls d pn hz hf => ps_if (p0 a oe cls d pn hz hf) (p1 a oe cls d pn hz hf) (p2 a oe cls d pn hz hf), fun c F H σ ρ a cls d ex Qd D e hl hi r h q => ?_⟩
  refine l0 c F H σ ρ a cls d ex _ _ e (fun _ => hi) hl r h fun b F1 H1 h1 e1 s1 n1 => ?_
  cases b with
  | true => exact l1 c F1 H1 σ ρ a cls d ex _ _ e1 hl hi (r.mono s1) h1 fun τ2 ρ2 F2 H2 h2 e2 hl2 hi2 s2 n2 => q τ2 ρ2 F2 H2 h2 e2 hl2 hi2 (s1.trans s2) (n1.nx.trans n2)
  | false => exact l2 c F1 H1 σ ρ a cls d ex _ _ e1 hl hi (r.mono s1) h1 fun τ2 ρ2 F2 H2 h2 e2 hl2 hi2 s2 n2 => q τ2 ρ2 F2 H2 h2 e2 hl2 hi2 (s1.trans s2) (n1.nx.trans n2)
def suX (i : Nat) (w : SXW) : SuW := fun ex _ DD ρ => i < ρ.length ∧ w ex (fun ρ' => DD.nx (ρ'.set i .un)) (ρ.set i .un)
theorem dsu_x {sts : List Stmt} {w : SXW} (h : DSX Z X i sts w) : DSu Z X sts (some i) (suX i w) := by
  obtain ⟨t, p, l⟩ := h
  refine ⟨t, fun a oe cls d pn hz hff => p a oe cls d pn hz hff, fun c F H σ ρ Xd DD D a cls d ex e r h q => ?_⟩
  obtain ⟨hl, h⟩ := h
  have e1 : EnvOk Z X.K c F H (σ.set i (some (.ref a))) (ρ.set i .un) := e.setU
  refine l c F H _ _ a cls d ex _ _ e1 (by rw [List.length_set, e.len]; exact hl) (List.getElem?_set_self (by rw [e.len]; exact hl)) r h fun τ ρ' F2 H2 h2 e2 hl2 hi2 s2 n2 => ?_
  exact q.nx _ _ F2 H2 h2 e2.setU s2 n2
end
theorem eri_one {K : PySem.W.Frag} {a : Str} {A0 A : Addr} (h1 : PySem.W.nsIn K mainGlobals a = some (some (.ref A0))) (hC : ExcC K A0) (k1 : PySem.W.nsIn K mainGlobals a = some (some (.ref A))) : ExcC K A := by
  rw [h1] at k1
  cases k1
  exact hC
/-! ### reversed(range(n)) -/
def revD (n : Nat) : List D := (List.range n).map fun k : Nat => D.int ((n : Int) - 1 + (k : Int) * (-1))
def iRevRange (a : EW) : IW := fun X ρ Q => a X ρ fun x => match x with
  | .int n => (0 ≤ n ∧ n < 2 ^ 62) ∧ Q (revD n.toNat)
  | _ => False
theorem revD_len {n : Nat} : (revD n).length = n := by simp [revD]
theorem revD_get {n i : Nat} {d : D} (h : (revD n)[i]? = some d) : d = .int ((n : Int) - 1 + (i : Int) * (-1)) ∧ i < n := by
  unfold revD at h
  rw [List.getElem?_map] at h
  by_cases hi : i < n
  · rw [List.getElem?_eq_getElem (by simpa using hi)] at h
    simp only [List.getElem_range, Option.map_some, Option.some.injEq] at h
    exact ⟨h.symm, hi⟩
  · rw [List.getElem?_eq_none_iff.mpr (by simp; omega)] at h
    cases h
section
variable {Z : SrcK} {X : Cx} {E : L2.St → XK} {a tg : Expr} {wa : EW} {pos : Pos}
theorem items_revRange {K : PySem.W.Frag} {F : Hp} {n : Nat} : ItemsOk K F (Itc ((n : Int) - 1) (-1) n) (revD n) := by
  refine ⟨fun _ => True, YFn fun i => .int ((n : Int) - 1 + (i : Nat) * (-1)), revD_len.symm ▸ walk_rangeC, fun _ _ => trivial, fun i d H1 x H2 F1 hd y s1 s2 => ?_⟩
  obtain ⟨e1, e2⟩ := y
  subst e1
  rw [(revD_get hd).1]
  exact ⟨F1, Ext.refl s2, e2⟩
theorem di_revRange {p p2 : Pos} {q : Pos} (hm : X.mg "reversed" = none) (hm2 : X.mg "range" = none) (ha : DE Z X E a wa) (hg : Gl X "reversed" := by rfl) (hg2 : Gl X "range" := by rfl) (na : starEach [a] X.env = (false, eval a X.env) :: starEach [] X.env := by rfl)
    (hs : starEach [Expr.Call (.Name "range" p2) [a] [] q] X.env = (false, eval (.Call (.Name "range" p2) [a] [] q) X.env) :: starEach [] X.env := by rfl) : DI Z X E tg (.Call (.Name "reversed" p) [.Call (.Name "range" p2) [a] [] q] [] pos) (iRevRange wa) := by
  obtain ⟨t, pa, l⟩ := ha
  refine ⟨_, pi_revR hg hm (prg_1 hg2 hm2 pa na) hs, fun c F H σ ρ Xd Qd R e k h q => ?_⟩
  refine l c F H σ ρ Xd _ _ e k h fun d v F1 H1 h1 e1 s1 n1 r1 => ?_
  cases d with
  | int n =>
    have r1 : v = V.int n := r1
    obtain ⟨⟨z1, z2⟩, z3⟩ := h1
    refine ⟨n, r1, by omega, by omega, by omega, z2, ?_⟩
    obtain ⟨m, rfl⟩ := Int.eq_ofNat_of_zero_le z1
    have e0 : (0 : Int) + ((((m : Int) - 0).toNat : Nat) : Int) - 1 = (m : Int) - 1 := by omega
    have e2 : ((m : Int) - 0).toNat = m := by omega
    rw [e0, e2]
    exact q _ _ F1 H1 z3 e1 s1 n1 items_revRange
  | _ => exact h1.elim
end
end DL
namespace L2
open PySem PySem.Spec PyProof.Rows
/-! ### a tuple times one or more -/
theorem tuple_mulOne (l : Addr) (items : Array Value) (n : Nat) (dd : Option Addr) (sl : Array (Option Value)) (u : Tok) (c1 : (items.isEmpty || (1 : Int) == 1) = true) :
    Meets (Builtin.«tuple.__mul__» ⟨[.ref l, .int 1 u], []⟩) (fun _ R s => s.heap.get? l = some { cls := .type "tuple", dict := dd, data := .seq items n, slots := sl } ∧ R (.ok (.ret (Value.ref l))) s) :=
  .of_wp fun prog w A R s h => by
    obtain ⟨hp, g, d, tk, os⟩ := s
    obtain ⟨hl, h⟩ := h
    have f1 := AutoSeq1.idx_int
    wp_walk using wpAny_loadPart' hl
    repeat (first
      | (refine wpAny_ite_false (decide_eq_false (by decide)) ?_; wp_walk using wpAny_loadPart' hl)
      | (refine wpAny_ite_true (decide_eq_true c1) ?_; wp_walk using wpAny_loadPart' hl))
    exact ⟨_, rfl, h⟩
def rRepU (K : PySem.W.Frag) : R2 := fun x y H Q => ∃ l k xs, x = .ref l ∧ y = .int k ∧ SqT K H l xs ∧ xs ≠ [] ∧ 1 ≤ k ∧ k ≤ 1000 ∧ xs.length ≤ 1000 ∧ (k = 1 → Q (.ref l) H) ∧ ∀ p, H p = none → Q (.ref p) (upd H p (.tup (List.replicate k.toNat xs).flatten))
section
variable {X : Cx}
theorem op_repU : OpR X (binaryOp .Mult) (rRepU X.K) := by
  intro pins s σ H x y v u Q I rx ry h
  obtain ⟨l, k, xs, rfl, rfl, hT, hne, h1, h2, hz, q1, q⟩ := h
  by_cases hk : k = 1
  · subst hk
    cases rx
    obtain ⟨t, rfl⟩ := ry
    obtain ⟨its, r, ⟨⟨cls, dd, data, sl⟩, ho, hc, n, hd⟩, hs⟩ := I.tuple hT
    simp only at hc hd
    subst hc hd
    refine wpAny_binaryOp_repeat_ref (T := "tuple") (U := "int") (by decide) ⟨_, ho, rfl⟩ (fun s' => typeIs_int s' 1 t) noFill_tuple_mul F.fills_int_mul F.slot_int_rmul repeat_tuple F.slot_int_index.lookup
      (call_meets F.slot_int_rmul (typeIs_int s 1 t) F.entry_int_rmul (F.args_int_rmul_2 _ _) (int_rmul_tuple 1 t l its.toArray n dd sl)
        ⟨ho, rfl, ⟨_, ho, rfl⟩, call_meets F.slot_tuple_mul ⟨_, ho, rfl⟩ F.entry_tuple_mul (F.args_tuple_mul_2 _ _) (tuple_mulOne l its.toArray n dd sl t (by rw [Bool.or_eq_true]; exact .inr rfl)) ⟨ho, ?_⟩⟩)
    exact ⟨.ref l, H, I.tok _, rfl, q1 rfl⟩
  · exact op_repT pins s σ H _ _ v u Q I rx ry ⟨l, k, xs, rfl, rfl, hT, hne, by omega, h2, hz, q⟩
end
end L2
namespace DL
open PySem PySem.Spec PyProof.Rows L2
def bMulU : Op2
  | .tup xs, .int k, Q => xs ≠ [] ∧ 1 ≤ k ∧ k ≤ 1000 ∧ xs.length ≤ 1000 ∧ Q (.tup (List.replicate k.toNat xs).flatten)
  | _, _, _ => False
theorem lop_repU {K : PySem.W.Frag} : LOp K (rRepU K) bMulU := fun F H dx dy vx vy Qd Qv s rx ry z q => by
  unfold bMulU at z
  split at z
  · rename_i xs k
    obtain ⟨a, vs, rfl, ha, ra⟩ := rx
    have ry : vy = .int k := ry
    subst ry
    refine ⟨a, k, vs, rfl, rfl, same_t s ha, fun e => z.1 (List.eq_nil_of_length_eq_zero ?_), z.2.1, z.2.2.1, by rw [ra.len]; exact z.2.2.2.1, fun hk => ?_, fun p hp => ?_⟩
    · rw [← ra.len, e]
      rfl
    · have z5 := z.2.2.2.2
      subst hk
      have e1 : (List.replicate (1 : Int).toNat xs).flatten = xs := by
        show (List.replicate 1 xs).flatten = xs
        simp
      rw [e1] at z5
      exact q _ _ _ _ z5 (Ext.refl s) ⟨a, vs, rfl, ha, ra⟩
    · obtain ⟨x, r⟩ := lay_tup s (rep_flat ra k.toNat) hp
      exact q _ _ _ _ z.2.2.2.2 x r
  · exact z.elim
end DL
set_option linter.all false
set_option autoImplicit false
set_option maxHeartbeats 4000000
set_option maxRecDepth 100000
set_option exponentiation.threshold 20000
/-! math.isqrt, a written list times a number, fractions that are refused. -/
namespace DL
open PySem PySem.Spec PyProof.Rows L2
/-! ### math.isqrt -/
def rSq : List V → Hp → VK → Prop := fun vs H Q => ∃ a : Int, vs = [.int a] ∧ 0 ≤ a ∧ a.toNat.log2 < 12000 ∧ Q (.int ((Float64.isqrt a.toNat : Nat) : Int)) H
theorem vals_int1 {a : Int} {us : List Value} (r : Vals [V.int a] us) : ∃ t, us = [Value.int a t] := by
  cases r with
  | cons h1 h2 =>
    cases h2
    obtain ⟨t, rfl⟩ := h1
    exact ⟨t, rfl⟩
theorem cr_isqrt {X : Cx} : CallR X (.builtin "math.isqrt") rSq := by
  intro pins s σ H vs us Q I r h
  obtain ⟨a, rfl, h0, h1, q⟩ := h
  obtain ⟨t, rfl⟩ := vals_int1 r
  exact call_function_meets PySem.W.MGF.kind_isqrt PySem.W.MGF.plain_isqrt PySem.W.MGF.entry_isqrt (PySem.W.MGF.args_isqrt _) (PySem.W.mg_run_isqrt a t (by omega) (by omega) (by omega)).meets ⟨.int _, H, I.tok _, ⟨_, rfl⟩, q⟩
def bIsqrt : OpN
  | [.int i], Q => (0 ≤ i ∧ i.natAbs.log2 < 12000) ∧ Q (.int ((Float64.isqrt i.natAbs : Nat) : Int))
  | _, _ => False
theorem lcb_isqrt {K : PySem.W.Frag} : LCB K rSq bIsqrt := fun F H ds vs Qd Qv s r z q => by
  unfold bIsqrt at z
  split at z
  · obtain ⟨v, rfl, h1⟩ := repL_1 r
    have h1 : v = _ := h1
    subst h1
    rename_i i
    have e : i.toNat = i.natAbs := by omega
    refine ⟨_, rfl, z.1.1, by rw [e]; exact z.1.2, ?_⟩
    rw [e]
    exact q _ _ F H z.2 (Ext.refl s) rfl
  · exact z.elim
section
variable {Z : SrcK} {X : Cx} {E : L2.St → XK} {e : Expr} {es : List Expr} {ws : AW} {pos : Pos}
theorem de_mb {id : String} {x : Str} {p : Pos} {r : List V → Hp → VK → Prop} {o : OpN} (hc : CallR X (.builtin id) r) (ho : LCB X.K r o) (hm : X.mg x = some (.builtin id)) (ha : DA Z X E (e :: es) ws) (hg : Gl X x := by rfl) (hdb : (x == ("__debug__" : Str)) = false := by decide)
    (he : starEach (e :: es) X.env = (false, eval e X.env) :: starEach es X.env := by rfl) (hpl : (backTo pos (starEach es X.env)).any (·.1) = false := by rfl) : DE Z X E (.Call (.Name x p) (e :: es) [] pos) (wCB o ws) := by
  obtain ⟨t, pa, la⟩ := ha
  exact ⟨_, pe_callBfun hc hg hm pa hdb he hpl, le_cb ho la⟩
/-- [..] * k -/
def wRepL (ws : AW) (k : Int) : EW := fun X ρ Q => ws X ρ fun ss => match datas ss with
  | some xs => (xs.length ≤ 100 ∧ 0 ≤ k ∧ k ≤ 100) ∧ Q (.lst (List.replicate k.toNat xs).flatten)
  | none => False
theorem repL_flat {K : PySem.W.Frag} {F : Hp} {xs : List D} {vs : List V} (h : RepL K F xs vs) : ∀ m : Nat, RepL K F (List.replicate m xs).flatten (List.replicate m vs).flatten := rep_flat h
theorem de_repL {k : Int} {j : Nat} {p1 p2 : Pos} (h : DA Z X E es ws) : DE Z X E (.BinOp (.List es p1) .Mult (.Constant (.int k) j p2) pos) (wRepL ws k) := by
  obtain ⟨t, p, l⟩ := h
  refine ⟨_, pe_op op_rep (pe_lst p) pe_int, fun c F H σ ρ Xd Qd Qv e k0 h q => ?_⟩
  refine l c F H σ ρ Xd _ _ e k0 h fun ss vs F1 H1 h1 e1 s1 n1 r1 => ?_
  cases q1 : datas ss with
  | none => rw [q1] at h1; exact h1.elim
  | some xs =>
    rw [q1] at h1
    have rr := r1.datas q1
    obtain ⟨⟨z1, z2, z3⟩, z4⟩ := h1
    refine ⟨by rw [rr.len]; exact sz (by omega), fun a ha => ?_⟩
    obtain ⟨x, r⟩ := lay_lst e1.fh rr ha
    have e2 := e1.ext x
    refine ⟨a, k, vs, rfl, rfl, upd_same, by omega, by omega, ?_, fun b hb => ?_⟩
    · rw [rr.len, sizeLine_eq]
      have : xs.length * k.toNat ≤ 100 * 100 := Nat.mul_le_mul z1 (by omega)
      omega
    · have r2 : RepL X.K (upd F1 a (.lst vs)) (List.replicate k.toNat xs).flatten (List.replicate k.toNat vs).flatten := rep_flat (RepL.mono x.ff _ _ rr) k.toNat
      obtain ⟨y, r3⟩ := lay_lst e2.fh r2 hb
      exact q _ _ _ _ z4 (e2.ext y) ((s1.trans x.ff).trans y.ff) ((n1.trans x.kx).trans y.kx) r3
end
/-! ### roots -/
theorem isqrt_le (n : Nat) : Float64.isqrt n * Float64.isqrt n ≤ n := (Float64.isqrt_spec n).1
theorem isqrt_lt (n : Nat) : n < (Float64.isqrt n + 1) * (Float64.isqrt n + 1) := (Float64.isqrt_spec n).2
def tenP (d : Nat) : Int := 10 ^ d
theorem tenP_pos (d : Nat) : 0 < tenP d := Int.pow_pos (by decide)
theorem tenP_succ (d : Nat) : tenP (d + 1) = tenP d * 10 := Int.pow_succ _ _
theorem tenP_lt (d : Nat) : (tenP d).natAbs < 2 ^ (4 * d + 1) := by
  induction d with
  | zero => decide
  | succ d ih =>
    rw [tenP_succ, Int.natAbs_mul, show 4 * (d + 1) + 1 = 4 * d + 1 + 4 by omega, Nat.pow_add]
    exact Nat.lt_of_lt_of_le (Nat.mul_lt_mul_of_pos_right ih (by decide : 0 < (10 : Int).natAbs)) (Nat.mul_le_mul_left _ (by decide : (10 : Int).natAbs ≤ 2 ^ 4))
/-- what the root's number is -/
def sqN (p : Rat) (d : Nat) : Int := (p.num * tenP d * tenP d).fdiv p.den
def rootI (p : Rat) (d : Nat) : Int := ((Float64.isqrt (sqN p d).natAbs : Nat) : Int)
def rootQ (p : Rat) (d : Nat) : Rat := rat (rootI p d) (tenP d)
theorem sqN_nonneg {p : Rat} {d : Nat} (h : 0 ≤ p) : 0 ≤ sqN p d := by
  have h1 : 0 ≤ p.num := Rat.num_nonneg.mpr h
  have h2 := tenP_pos d
  unfold sqN
  rw [Int.fdiv_eq_ediv_of_nonneg _ (by omega)]
  exact Int.ediv_nonneg (Int.mul_nonneg (Int.mul_nonneg h1 (by omega)) (by omega)) (by omega)
theorem sqN_le {p : Rat} {d : Nat} : ((sqN p d : Int) : Rat) ≤ p * ((tenP d : Int) : Rat) * ((tenP d : Int) : Rat) ∧ p * ((tenP d : Int) : Rat) * ((tenP d : Int) : Rat) < ((sqN p d : Int) : Rat) + 1 := by
  have hd : (0 : Int) < (p.den : Int) := by have := p.den_pos; omega
  have h1 : sqN p d * p.den ≤ p.num * tenP d * tenP d := by
    unfold sqN
    rw [Int.fdiv_eq_ediv_of_nonneg _ (by omega)]
    exact Int.ediv_mul_le _ (by omega)
  have h2 : p.num * tenP d * tenP d < (sqN p d + 1) * p.den := by
    unfold sqN
    rw [Int.fdiv_eq_ediv_of_nonneg _ (by omega)]
    exact Int.lt_ediv_add_one_mul_self _ hd
  have g1 : ((sqN p d : Int) : Rat) * ((p.den : Int) : Rat) ≤ (p.num : Rat) * ((tenP d : Int) : Rat) * ((tenP d : Int) : Rat) := by
    have := Rat.intCast_le_intCast.mpr h1
    simpa only [Rat.intCast_mul] using this
  have g2 : (p.num : Rat) * ((tenP d : Int) : Rat) * ((tenP d : Int) : Rat) < (((sqN p d : Int) : Rat) + 1) * ((p.den : Int) : Rat) := by
    have := Rat.intCast_lt_intCast.mpr h2
    simpa only [Rat.intCast_mul, Rat.intCast_add, Rat.intCast_one] using this
  have hden : (0 : Rat) < ((p.den : Int) : Rat) := by
    have := Rat.intCast_lt_intCast.mpr hd
    simpa using this
  have e : (p.num : Rat) = p * ((p.den : Int) : Rat) := by
    have h := rat_self p
    rw [rat_eq] at h
    have ne : ((p.den : Int) : Rat) ≠ 0 := by grind
    rw [← h]
    grind
  rw [e] at g1 g2
  generalize ((p.den : Int) : Rat) = D at g1 g2 hden
  generalize ((tenP d : Int) : Rat) = T at g1 g2 ⊢
  generalize ((sqN p d : Int) : Rat) = S at g1 g2 ⊢
  constructor
  · refine Rat.le_of_mul_le_mul_right (c := D) ?_ hden
    grind
  · refine Rat.lt_of_mul_lt_mul_right (c := D) ?_ (by grind)
    grind
theorem ten_pos (d : Nat) : (0 : Rat) < ((tenP d : Int) : Rat) := by
  have := Rat.intCast_lt_intCast.mpr (tenP_pos d)
  simpa using this
theorem root_sq {p : Rat} {d : Nat} (h : 0 ≤ p) : rootQ p d * rootQ p d ≤ p ∧ p < (rootQ p d + rat 1 (tenP d)) * (rootQ p d + rat 1 (tenP d)) ∧ 0 ≤ rootQ p d := by
  have hn := sqN_nonneg (d := d) h
  have hs := sqN_le (p := p) (d := d)
  have l1 : rootI p d * rootI p d ≤ sqN p d := by
    have := isqrt_le (sqN p d).natAbs
    unfold rootI
    have e : ((Float64.isqrt (sqN p d).natAbs * Float64.isqrt (sqN p d).natAbs : Nat) : Int) ≤ ((sqN p d).natAbs : Int) := Int.ofNat_le.mpr this
    rw [Int.natCast_mul] at e
    omega
  have l2 : sqN p d + 1 ≤ (rootI p d + 1) * (rootI p d + 1) := by
    have := isqrt_lt (sqN p d).natAbs
    unfold rootI
    have e : ((sqN p d).natAbs : Int) < (((Float64.isqrt (sqN p d).natAbs + 1) * (Float64.isqrt (sqN p d).natAbs + 1) : Nat) : Int) := Int.ofNat_lt.mpr this
    have one : ((1 : Nat) : Int) = 1 := rfl
    rw [Int.natCast_mul, Int.natCast_add, one] at e
    omega
  have g1 : ((rootI p d : Int) : Rat) * ((rootI p d : Int) : Rat) ≤ ((sqN p d : Int) : Rat) := by
    have := Rat.intCast_le_intCast.mpr l1
    simpa only [Rat.intCast_mul] using this
  have g2 : ((sqN p d : Int) : Rat) + 1 ≤ (((rootI p d : Int) : Rat) + 1) * (((rootI p d : Int) : Rat) + 1) := by
    have := Rat.intCast_le_intCast.mpr l2
    simpa only [Rat.intCast_mul, Rat.intCast_add, Rat.intCast_one] using this
  have r0 : (0 : Rat) ≤ ((rootI p d : Int) : Rat) := by
    have : (0 : Int) ≤ rootI p d := by unfold rootI; omega
    have := Rat.intCast_le_intCast.mpr this
    simpa using this
  have hT := ten_pos d
  have e1 : rootQ p d * ((tenP d : Int) : Rat) = ((rootI p d : Int) : Rat) := by
    unfold rootQ
    rw [rat_eq]
    have ne : ((tenP d : Int) : Rat) ≠ 0 := by grind
    grind
  have e2 : rat 1 (tenP d) * ((tenP d : Int) : Rat) = 1 := by
    rw [rat_eq]
    have ne : ((tenP d : Int) : Rat) ≠ 0 := by grind
    have : ((1 : Int) : Rat) = 1 := rfl
    grind
  generalize rat 1 (tenP d) = U at e2 ⊢
  generalize rootQ p d = R at e1 ⊢
  generalize ((tenP d : Int) : Rat) = T at hs hT e1 e2
  generalize ((rootI p d : Int) : Rat) = I at g1 g2 e1 r0
  generalize ((sqN p d : Int) : Rat) = S at hs g1 g2
  have hTT : 0 < T * T := Rat.mul_pos hT hT
  refine ⟨?_, ?_, ?_⟩
  · refine Rat.le_of_mul_le_mul_right (c := T * T) ?_ hTT
    have a1 : R * R * (T * T) = (R * T) * (R * T) := by grind
    have a2 : p * (T * T) = p * T * T := by grind
    rw [a1, a2, e1]
    exact Rat.le_trans g1 hs.1
  · refine Rat.lt_of_mul_lt_mul_right (c := T * T) ?_ (Rat.le_of_lt hTT)
    have a1 : (R + U) * T = I + 1 := by rw [← e1, ← e2]; grind
    have a2 : (R + U) * (R + U) * (T * T) = ((R + U) * T) * ((R + U) * T) := by grind
    have a3 : p * (T * T) = p * T * T := by grind
    rw [a2, a3, a1]
    exact Std.lt_of_lt_of_le hs.2 g2
  · refine Rat.le_of_mul_le_mul_right (c := T) ?_ hT
    rw [e1, Rat.zero_mul]
    exact r0
/-- any value -/
abbrev Any (Q : RV → Prop) : Prop := ∀ r : D, Q (.d r)
theorem strOk_of (s : String) : PyData.strOk (Str.ofString s) = true := by
  rw [Str.ofString_eq_toList]
  unfold PyData.strOk
  simp only [Array.all_eq_true', List.mem_toArray, List.mem_map, decide_eq_true_eq]
  rintro x ⟨c, _, rfl⟩
  have h := c.valid
  have e : c.toNat = c.val.toNat := rfl
  rw [e]
  rcases h with h | h
  · omega
  · exact h.2
/-! ### fractions that are refused -/
def J1F (m : Nat) (x : D) (no : Prop) (yes : Rat → Prop) : Prop := (plain 40 x = true ∧ isFr x = false ∧ no) ∨ ∃ (p : Rat) (n : Nat), x = fr p ∧ Sz n p ∧ n < m ∧ yes p
def J2F (m : Nat) (x y : D) (no : Prop) (yes : Rat → Rat → Prop) : Prop := (plain 40 x = true ∧ plain 40 y = true ∧ (isFr x && isFr y) = false ∧ no) ∨ ∃ (p q : Rat) (n k : Nat), x = fr p ∧ y = fr q ∧ Sz n p ∧ Sz k q ∧ n + k < m ∧ yes p q
def JI (x y : D) (no yes : Prop) : Prop := (plain 40 x = true ∧ plain 40 y = true ∧ ((isInt x && isInt y) = false ∨ y = .int 0) ∧ no) ∨ ∃ a b : Int, x = .int a ∧ y = .int b ∧ b ≠ 0 ∧ a.natAbs < 2 ^ 400 ∧ b.natAbs < 2 ^ 400 ∧ yes
def JSum (x : D) (no yes : Prop) : Prop := ((tyOf x).isSome = true ∧ (∀ ds, x ≠ .tup ds) ∧ no) ∨ (∃ ds, x = .tup ds ∧ ds.length ≤ 1000 ∧ (∀ d ∈ ds, plain 40 d = true) ∧ ds.all isFr = false ∧ no) ∨ ∃ qs : List Rat, x = .tup (frs qs) ∧ qs.length ≤ 10 ∧ (∀ q ∈ qs, Sz 200 q) ∧ yes
def JRt (x y : D) (noF noC : Prop) (yes : Rat → Nat → Prop) : Prop := (plain 40 x = true ∧ (isFr x = false ∨ ∃ p : Rat, x = fr p ∧ p < 0) ∧ noF) ∨
  ∃ (p : Rat) (n : Nat), x = fr p ∧ 0 ≤ p ∧ Sz n p ∧ n ≤ 400 ∧ (((tyOf y).isSome = true ∧ (∀ d : Nat, d ≤ 30 → y ≠ .int d) ∧ noC) ∨ ∃ d : Nat, y = .int d ∧ d ≤ 30 ∧ yes p d)
/-- what such a call raises: f of no fraction, c of no count -/
def CallQ (k : Nat) (x y : D) (f c q : Prop) : Prop :=
  if k < 6 then J2F 200 x y f fun _ r => (k = 3 ∧ r = 0 → f) ∧ (¬ (k = 3 ∧ r = 0) → q)
  else if k = 6 then J1F 100 x f fun _ => q
  else if k = 7 then JI x y f q
  else if k = 8 then JSum x f q
  else JRt x y f c fun _ _ => q
theorem all2_const {c : D} : ∀ {xs ys : List D}, All2 (fun _ y => y = c) xs ys → ys = List.replicate xs.length c := fun {xs ys} h => by
  induction h with
  | nil => rfl
  | cons r _ ih =>
    subst r
    rw [ih]
    rfl
end DL
set_option linter.all false
set_option autoImplicit false
set_option maxHeartbeats 4000000
set_option maxRecDepth 100000
/-! A dict of texts that this frame alone holds: slot .obj a "{}" (its pairs). -/
namespace DL
open PySem PySem.Spec PyProof.Rows L2
/-! ### tables -/
section
variable {α β : Type}
def findS (fs : List (Str × α)) (s : Str) : Option α := (fs.find? fun p => decide (p.1 = s)).map (·.2)
def putS (fs : List (Str × α)) (s : Str) (v : α) : List (Str × α) :=
  if (fs.any fun p => decide (p.1 = s)) = true then fs.map (fun p => if p.1 = s then (p.1, v) else p) else fs ++ [(s, v)]
theorem findS_mem {fs : List (Str × α)} {s : Str} {v : α} (h : findS fs s = some v) : (s, v) ∈ fs := by
  unfold findS at h
  cases e : fs.find? fun p => decide (p.1 = s) with
  | none => rw [e] at h; cases h
  | some p =>
    rw [e] at h
    have h : p.2 = v := Option.some.inj h
    have e1 := List.find?_some e
    have e2 := List.mem_of_find?_eq_some e
    have e1 : p.1 = s := of_decide_eq_true e1
    rw [← e1, ← h]
    exact e2
theorem putS_mem {fs : List (Str × α)} {s : Str} {v : α} {p : Str × α} (h : p ∈ putS fs s v) : p = (s, v) ∨ p ∈ fs := by
  unfold putS at h
  split at h
  · obtain ⟨q, m, e⟩ := List.mem_map.mp h
    split at e
    · rename_i hq
      rw [hq] at e
      exact .inl e.symm
    · rw [← e]
      exact .inr m
  · rcases List.mem_append.mp h with m | m
    · exact .inr m
    · exact .inl (List.mem_singleton.mp m)
theorem putS_len (fs : List (Str × α)) (s : Str) (v : α) : (putS fs s v).length ≤ fs.length + 1 := by
  unfold putS
  split
  · rw [List.length_map]
    omega
  · rw [List.length_append, List.length_singleton]
    omega
theorem any_keys : ∀ {fs : List (Str × α)} {gs : List (Str × β)} (s : Str), gs.map (·.1) = fs.map (·.1) → (gs.any fun p => decide (p.1 = s)) = fs.any fun p => decide (p.1 = s)
  | [], [], _, _ => rfl
  | [], _ :: _, _, h => by cases h
  | _ :: _, [], _, h => by cases h
  | p :: fs, q :: gs, s, h => by
    have h : q.1 :: gs.map (·.1) = p.1 :: fs.map (·.1) := h
    injection h with h1 h2
    rw [List.any_cons, List.any_cons, h1, any_keys s h2]
end
def iK (p : Str × V) : Key × V := (.inr p.1, p.2)
theorem valV_iK : ∀ (gs : List (Str × V)) (s : Str), valV (gs.map iK) (.inr s : Key) = findS gs s
  | [], _ => rfl
  | p :: gs, s => by
    rw [List.map_cons]
    by_cases h : p.1 = s
    · rw [valV_pos (show (iK p).1 = .inr s by rw [← h]; rfl)]
      unfold findS
      rw [List.find?_cons, decide_eq_true h]
      rfl
    · rw [valV_neg (show ¬ (iK p).1 = .inr s from fun e => h (Sum.inr.inj e)), valV_iK gs s]
      unfold findS
      rw [List.find?_cons, decide_eq_false h]
theorem any_iK (gs : List (Str × V)) (s : Str) : ((gs.map iK).any fun kv => decide (kv.1 = (.inr s : Key))) = gs.any fun p => decide (p.1 = s) := by
  rw [List.any_map]
  congr 1
  funext p
  show decide ((Sum.inr p.1 : Key) = .inr s) = decide (p.1 = s)
  rw [decide_eq_decide]
  exact ⟨fun e => Sum.inr.inj e, fun e => by rw [e]⟩
theorem putK_iK (gs : List (Str × V)) (s : Str) (v : V) : putK (gs.map iK) (.inr s : Key) v = (putS gs s v).map iK := by
  unfold putK putS
  rw [any_iK]
  by_cases h : (gs.any fun p => decide (p.1 = s)) = true
  · rw [if_pos h, if_pos h, List.map_map, List.map_map]
    apply List.map_congr_left
    intro p _
    show (if (Sum.inr p.1 : Key) = .inr s then ((.inr p.1 : Key), v) else iK p) = iK (if p.1 = s then (p.1, v) else p)
    by_cases e : p.1 = s
    · rw [if_pos (by rw [e]), if_pos e]
      rfl
    · rw [if_neg (fun z => e (Sum.inr.inj z)), if_neg e]
  · rw [if_neg h, if_neg h, List.map_append]
    rfl
section
variable {K : PySem.W.Frag} {F : Hp}
theorem findS_rep {s : Str} : ∀ {fs : List (Str × D)} {gs : List (Str × V)}, gs.map (·.1) = fs.map (·.1) → RepL K F (fs.map (·.2)) (gs.map (·.2)) → (findS fs s = none ∧ findS gs s = none) ∨ ∃ y v, findS fs s = some y ∧ findS gs s = some v ∧ Rep K F y v
  | [], [], _, _ => .inl ⟨rfl, rfl⟩
  | [], _ :: _, h, _ => by cases h
  | _ :: _, [], h, _ => by cases h
  | (g, x) :: fs, (g', y) :: gs, h1, h2 => by
    have h1 : g' :: gs.map (·.1) = g :: fs.map (·.1) := h1
    injection h1 with e1 h0
    subst e1
    obtain ⟨v', t, e, r1, r2⟩ := h2
    have e : y :: gs.map (·.2) = v' :: t := e
    injection e with e1 e2
    subst e1 e2
    by_cases h : g' = s
    · refine .inr ⟨x, y, ?_, ?_, r1⟩
      · unfold findS
        rw [List.find?_cons, decide_eq_true h]
        rfl
      · unfold findS
        rw [List.find?_cons, decide_eq_true h]
        rfl
    · have a1 : findS ((g', x) :: fs) s = findS fs s := by
        unfold findS
        rw [List.find?_cons, decide_eq_false h]
      have a2 : findS ((g', y) :: gs) s = findS gs s := by
        unfold findS
        rw [List.find?_cons, decide_eq_false h]
      rw [a1, a2]
      exact findS_rep h0 r2
theorem mapS_rep {s : Str} {d : D} {v : V} (r : Rep K F d v) : ∀ {fs : List (Str × D)} {gs : List (Str × V)}, gs.map (·.1) = fs.map (·.1) → RepL K F (fs.map (·.2)) (gs.map (·.2)) →
    (gs.map fun p => if p.1 = s then (p.1, v) else p).map (·.1) = (fs.map fun p => if p.1 = s then (p.1, d) else p).map (·.1) ∧ RepL K F ((fs.map fun p => if p.1 = s then (p.1, d) else p).map (·.2)) ((gs.map fun p => if p.1 = s then (p.1, v) else p).map (·.2))
  | [], [], _, _ => ⟨rfl, rfl⟩
  | [], _ :: _, h, _ => by cases h
  | _ :: _, [], h, _ => by cases h
  | (g, x) :: fs, (g', y) :: gs, h1, h2 => by
    have h1 : g' :: gs.map (·.1) = g :: fs.map (·.1) := h1
    injection h1 with e1 h0
    subst e1
    obtain ⟨v', t, e, r1, r2⟩ := h2
    have e : y :: gs.map (·.2) = v' :: t := e
    injection e with e1 e2
    subst e1 e2
    obtain ⟨i1, i2⟩ := mapS_rep r h0 r2
    simp only [List.map_cons]
    by_cases h : g' = s
    · rw [if_pos h, if_pos h]
      exact ⟨by rw [i1], v, _, rfl, r, i2⟩
    · rw [if_neg h, if_neg h]
      exact ⟨by rw [i1], y, _, rfl, r1, i2⟩
theorem putS_rep {s : Str} {d : D} {v : V} (r : Rep K F d v) {fs : List (Str × D)} {gs : List (Str × V)} (h1 : gs.map (·.1) = fs.map (·.1)) (h2 : RepL K F (fs.map (·.2)) (gs.map (·.2))) :
    (putS gs s v).map (·.1) = (putS fs s d).map (·.1) ∧ RepL K F ((putS fs s d).map (·.2)) ((putS gs s v).map (·.2)) := by
  unfold putS
  rw [any_keys s h1]
  by_cases h : (fs.any fun p => decide (p.1 = s)) = true
  · rw [if_pos h, if_pos h]
    exact mapS_rep r h1 h2
  · rw [if_neg h, if_neg h]
    simp only [List.map_append]
    exact ⟨by rw [h1]; rfl, h2.app (RepL.one r)⟩
end
/-! ### readings -/
def sDicNew (i : Nat) : SW := fun _ DD ρ => ∀ p : Addr, DD.nx (ρ.set i (.obj p "{}" []))
def wDicGet (i : Nat) (wk wd : EW) : EW := fun X ρ Q => match ρ[i]? with
  | some (.obj _ C fs) => C = "{}" ∧ wk X ρ fun k => match k with
    | .str s => wd X ρ fun d => Q ((findS fs s).getD d)
    | _ => False
  | _ => False
def sDicPut (i : Nat) (wk wv : EW) : SW := fun X DD ρ => match ρ[i]? with
  | some (.obj a C fs) => wv X ρ fun x => wk X ρ fun k => match k with
    | .str s => C = "{}" ∧ onlyAt ρ i = true ∧ Nat.ble fs.length 1000 = true ∧ DD.nx (ρ.set i (.obj a C (putS fs s x)))
    | _ => False
  | _ => False
section
variable {Z : SrcK} {X : Cx} {E : L2.St → XK} {K : PySem.W.Frag} {e ke de : Expr} {w wk wd : EW} {pos : Pos} {c : Cfg} {F H F' H' : Hp} {σ : L2.St} {ρ : Env}
theorem EnvOk.dic_at {i : Nat} {a : Addr} {fs : List (Str × D)} (e : EnvOk Z K c F H σ ρ) (h : ρ[i]? = some (SV.obj a "{}" fs)) : ∃ gs : List (Str × V), σ[i]? = some (some (V.ref a)) ∧ F a = none ∧ c.H0 a = none ∧ H a = some (.dK (gs.map iK)) ∧ gs.map (·.1) = fs.map (·.1) ∧ RepL K F (fs.map (·.2)) (gs.map (·.2)) := by
  obtain ⟨o, o1, ob, gs, rfl, r2, r3, r4, r5, r6, r7⟩ := e.slot i _ h
  have := r5.dic
  subst this
  exact ⟨gs, o1, r2, r3, r4, r6, r7⟩
theorem ds_dicNew {x : Str} {p pos' : Pos} (i : Nat) (hN : X.N.Nodup) (hi : X.N[i]? = some x := by rfl) (hx : Loc X.env.scope x := by first | exact Or.inl rfl | exact Or.inr rfl) (hs : swapsWith (.Dict [] [] p) (some (.Name x pos')) pos.line X.env = pure false := by rfl)
    (hf : X.fn x = true ∨ X.env.scope.names.lookup x = some .local := by first | exact .inl rfl | exact .inr rfl) : DS Z X E (.Assign [.Name x pos'] (.Dict [] [] p) pos) (sDicNew i) := by
  refine ⟨_, ps_set hN hi hx pe_dnewK hs hf, fun c F H σ ρ Xd DD D e k h q => ?_⟩
  intro a ha
  have e1 := e.layO (o := .dK []) ha
  refine q.nx _ _ F _ (h a) (e1.setS (s := .obj a "{}" []) ⟨.dK [], [], rfl, e.fh.free ha, e.h0 ha, upd_same, ⟨rfl, rfl⟩, rfl, rfl⟩ fun xs b z => nomatch z) (Same.refl _) nx_mut
theorem de_dicGet {x : Str} {p apos cpos : Pos} (i : Nat) (hu : X.A.units + 1 < cLine) (hk : DE Z X E ke wk) (hd : DE Z X E de wd) (hN : X.N[i]? = some x := by rfl) (hv : Vis X.env.scope x := by first | exact Or.inl rfl | exact Or.inr (Or.inl rfl) | exact Or.inr (Or.inr rfl)) (hdb : (x == ("__debug__" : Str)) = false := by decide)
    (hcd : (x == ("__classdict__" : Str)) = false := by decide) (m : M2 X (.Name x p) "get" apos ke de cpos := by exact ⟨rfl, rfl, rfl, rfl⟩) : DE Z X E (.Call (.Attribute (.Name x p) "get" apos) [ke, de] [] cpos) (wDicGet i wk wd) := by
  obtain ⟨t, pk, l⟩ := hk
  obtain ⟨t2, pd, l2⟩ := hd
  refine ⟨_, pe_dget2 hu (pe_var hN hv hdb hcd) pk pd m, fun c F H σ ρ Xd Qd Qv e k h q => ?_⟩
  obtain ⟨a, C, fs, q1, rfl, h⟩ := obj_cases h
  obtain ⟨gs, h2, h3, h4, h5, h6, h7⟩ := e.dic_at q1
  refine ⟨.ref a, h2, a, rfl, .inl ⟨_, .inl h5⟩, ?_⟩
  refine l c F H σ ρ Xd _ _ e k h fun d v F1 H1 h1 e1 s1 n1 r1 => ?_
  cases d with
  | str s =>
    have r1 : v = V.str s := r1
    subst r1
    refine l2 c F1 H1 σ ρ Xd _ _ e1 (k.mono s1 n1.nx) h1 fun d2 v2 F2 H2 hh e2 s2 n2 r2 => ?_
    obtain ⟨gs', h2', h3', h4', h5', h6', h7'⟩ := e2.dic_at q1
    refine ⟨findS gs' s, ?_, ?_⟩
    · rw [← valV_iK]
      exact DGet.k (k := .inr s) h5'
    · rcases findS_rep (s := s) h6' h7' with ⟨z1, z2⟩ | ⟨y, u, z1, z2, z3⟩
      · rw [z1] at hh
        rw [z2]
        exact q d2 v2 F2 H2 hh e2 (s1.trans s2) (n1.trans n2) r2
      · rw [z1] at hh
        rw [z2]
        exact q y u F2 H2 hh e2 (s1.trans s2) (n1.trans n2) z3
  | non => exact h1.elim
  | bl _ => exact h1.elim
  | int _ => exact h1.elim
  | tup _ => exact h1.elim
  | lst _ => exact h1.elim
  | ins _ _ _ => exact h1.elim
theorem ds_dicPut {x : Str} {p p1 : Pos} (i : Nat) (hu : X.A.units + 1 < cLine) (h : DE Z X E e w) (hk : DE Z X E ke wk) (hN : X.N[i]? = some x := by rfl) (hv : Vis X.env.scope x := by first | exact Or.inl rfl | exact Or.inr (Or.inl rfl) | exact Or.inr (Or.inr rfl)) (hd : (x == ("__debug__" : Str)) = false := by decide)
    (hcd : (x == ("__classdict__" : Str)) = false := by decide) (hs : swapsWith e (some (.Subscript (.Name x p) ke p1)) pos.line X.env = pure false := by rfl) : DS Z X E (.Assign [.Subscript (.Name x p) ke p1] e pos) (sDicPut i wk w) := by
  obtain ⟨y, py, l⟩ := h
  obtain ⟨y2, py2, l2⟩ := hk
  refine ⟨_, ps_dput hu (pe_var hN hv hd hcd) py2 py hs, fun c F H σ ρ Xd DD D e k h q => ?_⟩
  obtain ⟨a, C, fs, q1, h⟩ := obj_cases h
  refine l c F H σ ρ Xd _ _ e k h fun d v F1 H1 h1 e1 s1 n1 r1 => ?_
  obtain ⟨o, o1, o2⟩ := e1.slot i _ q1
  have ho : o = some (V.ref a) := by
    obtain ⟨ob, gs, r, _⟩ := o2
    exact r
  subst ho
  refine ⟨.ref a, o1, ?_⟩
  refine l2 c F1 H1 σ ρ Xd _ _ e1 (k.mono s1 n1.nx) h1 fun d2 v2 F2 H2 h1 e2 s2 n2 r2 => ?_
  cases d2 with
  | str s =>
    have r2 : v2 = V.str s := r2
    subst r2
    obtain ⟨rfl, h3, h4, h5⟩ := h1
    obtain ⟨gs, g1, g2, g3, g4, g5, g6⟩ := e2.dic_at q1
    obtain ⟨m1, m2⟩ := putS_rep (s := s) (Rep.mono s2 _ _ r1) g5 g6
    have hl : (gs.map iK).length < sizeLine := by
      have e1 := congrArg List.length g5
      rw [List.length_map, List.length_map] at e1
      have h4 := Nat.le_of_ble_eq_true h4
      rw [List.length_map, e1]
      exact small1000 h4
    refine ⟨a, _, rfl, DPut.k (k := .inr s) g4 hl, ?_⟩
    rw [putK_iK]
    exact q.nx _ _ F2 _ h5 (e2.mutateO q1 g1 g4 (fun vs z => nomatch z) g2 g3 ⟨rfl, rfl⟩ h3 m1 m2) (s1.trans s2) ((n1.nx.trans n2.nx).trans nx_mut)
  | non => exact h1.elim
  | bl _ => exact h1.elim
  | int _ => exact h1.elim
  | tup _ => exact h1.elim
  | lst _ => exact h1.elim
  | ins _ _ _ => exact h1.elim
end
end DL
set_option linter.all false
set_option autoImplicit false
set_option maxHeartbeats 4000000
set_option maxRecDepth 100000
set_option exponentiation.threshold 20000
/-! Texts: signs, digits, int of a text, find. -/
namespace DL
open PySem PySem.Spec PyProof.Rows L2 NumText
/-! ### rules -/
theorem room65 {k : Nat} {A : Around} (r : L2.Room k A) : A.units + 65 < cLine := by
  have := r.un
  omega
def bIntS : OpN
  | [.str s], Q => ∃ n : Int, PySem.intText? s = some n ∧ s.length ≤ 640 ∧ Q (.int n)
  | _, _ => False
theorem lcb_intS {K : PySem.W.Frag} : LCB K (fun xs H Q => ∃ a n, xs = [.str a] ∧ PySem.intText? a = some n ∧ a.length ≤ 640 ∧ Q (.int n) H) bIntS := fun F H ds vs Qd Qv s r z q => by
  unfold bIntS at z
  split at z
  · obtain ⟨v, rfl, h1⟩ := repL_1 r
    have h1 : v = _ := h1
    subst h1
    obtain ⟨n, z1, z2, z3⟩ := z
    exact ⟨_, n, rfl, z1, z2, q _ _ F H z3 (Ext.refl s) rfl⟩
  · exact z.elim
def rRepS : R2 := fun x y H Q => ∃ i k, x = V.str i ∧ y = .int k ∧ 1 ≤ k ∧ k ≤ 1000 ∧ i.length ≤ 1000 ∧ Q (.str (Txt.mul i k)) H
theorem op_repS {X : Cx} : OpR X (binaryOp .Mult) rRepS := by
  intro pins s σ H x y v u Q I rx ry h
  obtain ⟨i, k, rfl, rfl, h1, h2, h3, q⟩ := h
  obtain ⟨t, rfl⟩ := rx
  obtain ⟨t', rfl⟩ := ry
  refine PySem.SB.mul ⟨?_, fun _ _ e => ?_, fun _ _ => ?_⟩ fun t' tk => ⟨.str (Txt.mul i k), H, I.tok _, ⟨_, rfl⟩, q⟩
  · rw [decide_eq_false (by omega), decide_eq_false (by omega)] <;> rfl
  · have : (9223372036854775807 : Int) / 1000 ≤ (2 ^ 63 - 1) / k := Int.le_ediv_of_mul_le (by omega) (by omega)
    omega
  · have a1 : i.length * k.toNat ≤ 1000 * 1000 := Nat.mul_le_mul h3 (by omega)
    unfold PySem.Builtin.Str.tooLong
    rw [sizeLine_eq]
    exact decide_eq_false (by omega)
def bMulS : Op2
  | .str i, .int k, Q => 1 ≤ k ∧ k ≤ 1000 ∧ i.length ≤ 1000 ∧ Q (.str (Txt.mul i k))
  | _, _, _ => False
theorem lop_repS {K : PySem.W.Frag} : LOp K rRepS bMulS := fun F H dx dy vx vy Qd Qv s rx ry z q => by
  unfold bMulS at z
  split at z
  · rename_i i k
    have rx : vx = .str i := rx
    have ry : vy = .int k := ry
    exact ⟨i, k, rx, ry, z.1, z.2.1, z.2.2.1, q _ _ F H z.2.2.2 (Ext.refl s) rfl⟩
  · exact z.elim
def bInC : Op2
  | .str s, .str z, Q => ∃ c : Nat, s = ⟨#[c]⟩ ∧ Q (.bl (decide (c ∈ z.cps.toList)))
  | _, _, _ => False
theorem lop_inC {K : PySem.W.Frag} : LOp K (fun x y H Q => ∃ (c : Nat) (z : Str), x = .str ⟨#[c]⟩ ∧ y = .str z ∧ Q (.bl (decide (c ∈ z.cps.toList))) H) bInC := fun F H dx dy vx vy Qd Qv s rx ry z q => by
  unfold bInC at z
  split at z
  · rename_i a b
    have rx : vx = .str a := rx
    have ry : vy = .str b := ry
    obtain ⟨c, rfl, z⟩ := z
    exact ⟨c, b, rx, ry, q _ _ F H z (Ext.refl s) rfl⟩
  · exact z.elim
section
variable {Z : SrcK} {X : Cx} {E : L2.St → XK} {o a : Expr} {wo wa : EW} {apos cpos : Pos}
def wFind (wo wa : EW) : EW := fun X ρ Q => wo X ρ fun x => match x with
  | .str s => wa X ρ fun y => match y with
    | .str t => Q (.int (Txt.find s t))
    | _ => False
  | _ => False
theorem de_find (ho : DE Z X E o wo) (ha : DE Z X E a wa) (hbase : attributeBase o "find" X.env (eval o X.env) = eval o X.env := by rfl)
    (hfew : ((backTo cpos (starEach [a] X.env)).all (fun x => !x.1) && (backToKw cpos (keywordEach [] X.env)).all (fun x => x.1.isSome)
      && decide ([a].length + ([] : List Keyword).length + (if ([] : List Keyword).isEmpty then 0 else 1) < 30)) = true := by rfl)
    (hline : (apos.endLine == cpos.line) = true := by rfl) (hs : starEach [a] X.env = (false, eval a X.env) :: starEach [] X.env := by rfl) (hplain : (backTo cpos (starEach [] X.env)).any (·.1) = false := by rfl) :
    DE Z X E (.Call (.Attribute o "find" apos) [a] [] cpos) (wFind wo wa) := by
  obtain ⟨t, p, l⟩ := ho
  obtain ⟨t1, p1, l1⟩ := ha
  refine ⟨_, pe_bm PySem.F.plainAttrs_str PySem.F.slot_str_find PySem.F.type_str_find mt_find p (pa_cons p1 pa_nil hs) hbase hfew hline hs hplain, fun c F H σ ρ Xd Qd Qv e k h q => ?_⟩
  refine l c F H σ ρ Xd _ _ e k h fun d v F1 H1 h1 e1 s1 n1 r1 => ?_
  cases d with
  | str s =>
    have r1 : v = V.str s := r1
    subst r1
    refine ⟨rfl, ?_⟩
    refine l1 c F1 H1 σ ρ Xd _ _ e1 (k.mono s1 n1.nx) h1 fun d2 v2 F2 H2 h2 e2 s2 n2 r2 => ?_
    cases d2 with
    | str t =>
      have r2 : v2 = V.str t := r2
      subst r2
      exact ⟨s, t, rfl, rfl, q _ _ F2 H2 h2 e2 (s1.trans s2) (n1.trans n2) rfl⟩
    | _ => exact h2.elim
  | _ => exact h1.elim
end
/-! ### signs -/
def isD (c : Nat) : Bool := decide (48 ≤ c) && decide (c ≤ 57)
def sg : Option Nat → Str
  | none => ⟨#[]⟩
  | some c => ⟨#[c]⟩
theorem cut_part (z : Str) {a b : Nat} (h : a ≤ b) : cutS z (some (a : Int)) (some (b : Int)) = ⟨((z.cps.toList.drop a).take (b - a)).toArray⟩ := by
  unfold cutS
  rw [HT.sIx_nat, HT.sIx_nat]
  congr 2
  have e : z.length = z.cps.toList.length := by simp [Str.length]
  rw [e]
  by_cases h1 : a ≤ z.cps.toList.length
  · rw [Nat.min_eq_left h1]
    by_cases h2 : b ≤ z.cps.toList.length
    · rw [Nat.min_eq_left h2]
    · rw [Nat.min_eq_right (by omega), List.take_of_length_le (by rw [List.length_drop]; omega), List.take_of_length_le (by rw [List.length_drop]; omega)]
  · rw [Nat.min_eq_right (by omega), Nat.min_eq_right (by omega), List.drop_eq_nil_of_le (by omega), List.drop_eq_nil_of_le (by omega)]
    simp
theorem cut_head (z : Str) (b : Nat) : cutS z none (some (b : Int)) = ⟨(z.cps.toList.take b).toArray⟩ := by
  have := cut_part z (Nat.zero_le b)
  rw [List.drop_zero, Nat.sub_zero] at this
  rw [← this]
  unfold cutS
  rw [HT.sIx_none, HT.sIx_nat, HT.sIx_nat]
  simp
theorem cut_tail_s (z : Str) {a : Nat} (h : a ≤ z.cps.toList.length) : cutS z (some (a : Int)) none = ⟨(z.cps.toList.drop a).toArray⟩ := by
  unfold cutS
  have e : z.length = z.cps.toList.length := by simp [Str.length]
  rw [HT.sIx_none, HT.sIx_nat, e, Nat.min_eq_left h, List.take_of_length_le (by rw [List.length_drop]; omega)]
theorem cut_tail_any (z : Str) (a : Nat) : cutS z (some (a : Int)) none = ⟨(z.cps.toList.drop a).toArray⟩ := by
  by_cases h : a ≤ z.cps.toList.length
  · exact cut_tail_s z h
  · have e : z.length = z.cps.toList.length := by simp [Str.length]
    unfold cutS
    rw [HT.sIx_none, HT.sIx_nat, e, Nat.min_eq_right (by omega), List.drop_eq_nil_of_le (as := z.cps.toList) (i := a) (by omega), List.drop_eq_nil_of_le (Nat.le_refl _)]
    simp
theorem one_sg (cs : List Nat) (i : Nat) : (⟨((cs.drop i).take 1).toArray⟩ : Str) = sg cs[i]? := by
  by_cases h : i < cs.length
  · rw [List.getElem?_eq_getElem h, List.drop_eq_getElem_cons h]
    rfl
  · rw [List.getElem?_eq_none_iff.mpr (by omega), List.drop_eq_nil_of_le (by omega)]
    rfl
theorem cut_one (z : Str) (i : Nat) : cutS z (some (i : Int)) (some ((i : Int) + 1)) = sg z.cps.toList[i]? := by
  have e : (i : Int) + 1 = ((i + 1 : Nat) : Int) := by omega
  rw [e, cut_part z (by omega), show i + 1 - i = 1 by omega, one_sg]
theorem cut_first (z : Str) : cutS z none (some 1) = sg z.cps.toList[0]? := by
  have := cut_head z 1
  rw [show ((1 : Nat) : Int) = 1 by rfl] at this
  rw [this, ← one_sg, List.drop_zero]
theorem sg_inj {o : Option Nat} {c : Nat} : sg o = ⟨#[c]⟩ ↔ o = some c := by
  cases o with
  | none => simp [sg]
  | some d => simp [sg]
theorem sg_nil {o : Option Nat} : sg o = ⟨#[]⟩ ↔ o = none := by
  cases o with
  | none => simp [sg]
  | some d => simp [sg]
theorem peq_str (a b : Str) : peq (.str a) (.str b) = decide (a = b) := by
  simp only [peq]
  by_cases h : a = b <;> simp [h]
theorem peq_sg {o : Option Nat} {l : Str} {c : Nat} (hl : l = ⟨#[c]⟩) : peq (.str (sg o)) (.str l) = decide (o = some c) := by
  rw [peq_str, hl, decide_eq_decide]
  exact sg_inj
theorem peq_sgn {o : Option Nat} {l : Str} (hl : l = ⟨#[]⟩) : peq (.str (sg o)) (.str l) = decide (o = none) := by
  rw [peq_str, hl, decide_eq_decide]
  exact sg_nil
theorem s_0 : (Str.ofString "0") = ⟨#[48]⟩ := by decide +kernel
theorem s_m : (Str.ofString "-") = ⟨#[45]⟩ := by decide +kernel
theorem s_p : (Str.ofString ".") = ⟨#[46]⟩ := by decide +kernel
theorem s_s : (Str.ofString "/") = ⟨#[47]⟩ := by decide +kernel
theorem s_n : (Str.ofString "") = ⟨#[]⟩ := by decide +kernel
theorem s_d : (Str.ofString "0123456789").cps.toList = [48, 49, 50, 51, 52, 53, 54, 55, 56, 57] := by decide +kernel
theorem in_digits (c : Nat) : decide (c ∈ (Str.ofString "0123456789").cps.toList) = isD c := by
  rw [s_d]
  unfold isD
  by_cases h : 48 ≤ c ∧ c ≤ 57
  · have : c = 48 ∨ c = 49 ∨ c = 50 ∨ c = 51 ∨ c = 52 ∨ c = 53 ∨ c = 54 ∨ c = 55 ∨ c = 56 ∨ c = 57 := by omega
    rcases this with rfl | rfl | rfl | rfl | rfl | rfl | rfl | rfl | rfl | rfl <;> rfl
  · have e : (decide (48 ≤ c) && decide (c ≤ 57)) = false := by
      rw [Bool.and_eq_false_iff, decide_eq_false_iff_not, decide_eq_false_iff_not]
      omega
    rw [e, decide_eq_false]
    simp only [List.mem_cons, List.not_mem_nil, or_false]
    omega
theorem find_digit (c : Nat) : Txt.find (Str.ofString "0123456789") ⟨#[c]⟩ = if isD c = true then ((c - 48 : Nat) : Int) else -1 := by
  by_cases h : isD c = true
  · rw [if_pos h]
    unfold isD at h
    simp only [Bool.and_eq_true, decide_eq_true_eq] at h
    have : c = 48 ∨ c = 49 ∨ c = 50 ∨ c = 51 ∨ c = 52 ∨ c = 53 ∨ c = 54 ∨ c = 55 ∨ c = 56 ∨ c = 57 := by omega
    rcases this with rfl | rfl | rfl | rfl | rfl | rfl | rfl | rfl | rfl | rfl <;> decide +kernel
  · rw [if_neg h]
    have e := PySem.StrLaws.found_one (Str.ofString "0123456789") c
    rw [in_digits] at e
    have h : isD c = false := by simpa using h
    rw [h] at e
    unfold Txt.find
    split
    · rename_i k l hk
      rw [hk] at e
      cases e
    · rfl
/-! ### runs of digits -/
def digEnd (cs : List Nat) (a : Nat) : Nat := a + ((cs.drop a).takeWhile isD).length
theorem digEnd_step {cs : List Nat} {a c : Nat} (h : cs[a]? = some c) (hd : isD c = true) : digEnd cs a = digEnd cs (a + 1) := by
  obtain ⟨h1, h2⟩ := List.getElem?_eq_some_iff.mp h
  unfold digEnd
  rw [List.drop_eq_getElem_cons h1, h2, List.takeWhile_cons_of_pos hd, List.length_cons]
  omega
theorem digEnd_stop {cs : List Nat} {a : Nat} (h : ∀ c, cs[a]? = some c → isD c = false) : digEnd cs a = a := by
  unfold digEnd
  by_cases h1 : a < cs.length
  · rw [List.drop_eq_getElem_cons h1, List.takeWhile_cons_of_neg (by rw [h _ (List.getElem?_eq_getElem h1)]; decide)]
    rfl
  · rw [List.drop_eq_nil_of_le (by omega)]
    rfl
theorem digEnd_ge (cs : List Nat) (a : Nat) : a ≤ digEnd cs a := Nat.le_add_right _ _
theorem digEnd_le {cs : List Nat} {a : Nat} (h : a ≤ cs.length) : digEnd cs a ≤ cs.length := by
  have := (List.takeWhile_sublist isD (l := cs.drop a)).length_le
  rw [List.length_drop] at this
  unfold digEnd
  omega
def Dg (cs : List Nat) (a b : Nat) : Prop := ∀ j, a ≤ j → j < b → ∃ c, cs[j]? = some c ∧ isD c = true
theorem digEnd_eq {cs : List Nat} {k : Nat} (h : ∀ c, cs[k]? = some c → isD c = false) : ∀ (m a : Nat), a + m = k → Dg cs a k → digEnd cs a = k
  | 0, a, e, _ => by
    have e : a = k := by omega
    subst e
    exact digEnd_stop h
  | m + 1, a, e, hd => by
    obtain ⟨c, h1, h2⟩ := hd a (Nat.le_refl _) (by omega)
    rw [digEnd_step h1 h2]
    exact digEnd_eq h m (a + 1) (by omega) fun j j1 j2 => hd j (by omega) j2
theorem digEnd_all (cs : List Nat) (a : Nat) : Dg cs a (digEnd cs a) := fun j j1 j2 => by
  unfold digEnd at j2
  have hl : j - a < ((cs.drop a).takeWhile isD).length := by omega
  have h1 := List.getElem_mem hl
  have h2 := List.all_takeWhile (p := isD) (l := cs.drop a)
  have h3 := List.all_eq_true.mp h2 _ h1
  refine ⟨_, ?_, h3⟩
  have h4 : (cs.drop a)[j - a]? = some ((cs.drop a).takeWhile isD)[j - a] := by
    obtain ⟨t, ht⟩ := List.takeWhile_prefix isD (l := cs.drop a)
    rw [← List.getElem?_eq_getElem hl]
    conv => lhs; rw [← ht]
    exact List.getElem?_append_left hl
  rw [List.getElem?_drop] at h4
  rw [← h4]
  congr 1
  omega
theorem tw_at {p : Nat → Bool} : ∀ {l : List Nat} {c : Nat}, l[(l.takeWhile p).length]? = some c → p c = false
  | [], _, h => by simp at h
  | x :: l, c, h => by
    by_cases hx : p x = true
    · rw [List.takeWhile_cons_of_pos hx, List.length_cons, List.getElem?_cons_succ] at h
      exact tw_at h
    · rw [List.takeWhile_cons_of_neg hx, List.length_nil, List.getElem?_cons_zero] at h
      cases h
      simpa using hx
theorem digEnd_at {cs : List Nat} {a c : Nat} (h : cs[digEnd cs a]? = some c) : isD c = false := by
  unfold digEnd at h
  rw [← List.getElem?_drop] at h
  exact tw_at h
/-- the number that stands from a to b -/
def segV (cs : List Nat) (a b : Nat) : Nat := digitsVal ((cs.drop a).take (b - a))
theorem segV_self (cs : List Nat) (a : Nat) : segV cs a a = 0 := by
  unfold segV
  rw [Nat.sub_self, List.take_zero]
  rfl
theorem segV_step {cs : List Nat} {a k c : Nat} (h : a ≤ k) (hk : cs[k]? = some c) : segV cs a (k + 1) = segV cs a k * 10 + (c - 48) := by
  obtain ⟨h1, h2⟩ := List.getElem?_eq_some_iff.mp hk
  unfold segV
  have e : (cs.drop a).take (k + 1 - a) = (cs.drop a).take (k - a) ++ [c] := by
    rw [show k + 1 - a = (k - a) + 1 by omega, List.take_succ, List.getElem?_drop, show a + (k - a) = k by omega, hk]
    rfl
  rw [e]
  unfold digitsVal
  rw [List.foldl_append]
  rfl
theorem allD {cs : List Nat} {a b : Nat} (h : Dg cs a b) : AllDigits ((cs.drop a).take (b - a)) := fun c m => by
  obtain ⟨j, hj, e⟩ := List.getElem_of_mem m
  rw [List.length_take, List.length_drop] at hj
  rw [List.getElem_take, List.getElem_drop] at e
  obtain ⟨d, h1, h2⟩ := h (a + j) (by omega) (by omega)
  rw [List.getElem?_eq_getElem (by omega), e] at h1
  cases h1
  unfold isD at h2
  simpa using h2
theorem segV_lt {cs : List Nat} {a : Nat} : ∀ {m : Nat}, Dg cs a (a + m) → segV cs a (a + m) < 10 ^ m
  | 0, _ => by rw [Nat.add_zero, segV_self]; decide
  | m + 1, h => by
    obtain ⟨c, h1, h2⟩ := h (a + m) (by omega) (by omega)
    have ih := segV_lt (m := m) fun j j1 j2 => h j j1 (by omega)
    rw [← Nat.add_assoc, segV_step (by omega) h1, Nat.pow_succ]
    unfold isD at h2
    simp only [Bool.and_eq_true, decide_eq_true_eq] at h2
    omega
theorem segV_b {cs : List Nat} {a b n : Nat} (h : Dg cs a b) (hab : a ≤ b) (hb : b ≤ n) : segV cs a b < 2 ^ (4 * n) := by
  have := segV_lt (cs := cs) (a := a) (m := b - a) (by rw [show a + (b - a) = b by omega]; exact h)
  rw [show a + (b - a) = b by omega] at this
  have e : (10 : Nat) ^ (b - a) ≤ 16 ^ (b - a) := Nat.pow_le_pow_left (by decide) _
  have e2 : (16 : Nat) ^ (b - a) = 2 ^ (4 * (b - a)) := by rw [Nat.pow_mul]
  have e3 : 2 ^ (4 * (b - a)) ≤ 2 ^ (4 * n) := Nat.pow_le_pow_right (by decide) (by omega)
  omega
theorem Dg.le {cs : List Nat} {a b : Nat} (h : Dg cs a b) (hab : a < b) : b ≤ cs.length := by
  obtain ⟨c, h1, _⟩ := h (b - 1) (by omega) (by omega)
  have := (List.getElem?_eq_some_iff.mp h1).1
  omega
def OkT (z : Str) : Prop := PyData.strOk z = true ∧ z.cps.toList.length ≤ 400
theorem OkT.len {z : Str} (h : OkT z) : z.length ≤ 400 := by
  have e : z.length = z.cps.toList.length := by simp [Str.length]
  rw [e]
  exact h.2
theorem int_seg {z : Str} {a b : Nat} (hz : OkT z) (h : Dg z.cps.toList a b) (hab : a < b) {Q : D → Prop} (q : Q (.int (segV z.cps.toList a b))) : bIntS [.str ⟨((z.cps.toList.drop a).take (b - a)).toArray⟩] Q := by
  have hb := h.le hab
  have hl : (((z.cps.toList.drop a).take (b - a)).toArray).toList.length = b - a := by
    simp only [List.length_take, List.length_drop]
    omega
  refine ⟨(segV z.cps.toList a b : Nat), ?_, ?_, q⟩
  · refine intText_digits (x := ⟨((z.cps.toList.drop a).take (b - a)).toArray⟩) (allD h) (fun e => ?_) ?_
    · have := congrArg List.length e
      rw [hl] at this
      simp at this
      omega
    · simp only [Str.length, List.size_toArray, List.length_take, List.length_drop]
      have := hz.2
      omega
  · simp only [Str.length, List.size_toArray, List.length_take, List.length_drop]
    have := hz.2
    omega
/-- int of a text from its start on, with its sign -/
def Hd (cs : List Nat) (s : Int) (a : Nat) : Prop := (s = 1 ∧ a = 0 ∧ cs[0]? ≠ some 45) ∨ (s = -1 ∧ a = 1 ∧ cs[0]? = some 45)
theorem int_sign {z : Str} {s : Int} {a e : Nat} (hz : OkT z) (hh : Hd z.cps.toList s a) (h : Dg z.cps.toList a e) (hae : a < e) {Q : D → Prop} (q : Q (.int (s * segV z.cps.toList a e))) : bIntS [.str ⟨(z.cps.toList.take e).toArray⟩] Q := by
  have hb := h.le hae
  rcases hh with ⟨rfl, rfl, h0⟩ | ⟨rfl, rfl, h0⟩
  · rw [Int.one_mul] at q
    have := int_seg hz h hae q
    rw [List.drop_zero, Nat.sub_zero] at this
    exact this
  · have e1 : z.cps.toList.take e = 45 :: ((z.cps.toList.drop 1).take (e - 1)) := by
      obtain ⟨h1, h2⟩ := List.getElem?_eq_some_iff.mp h0
      have := List.drop_eq_getElem_cons h1
      rw [List.drop_zero, h2] at this
      rw [this]
      cases e with
      | zero => omega
      | succ e => simp
    refine ⟨-((segV z.cps.toList 1 e : Nat) : Int), ?_, ?_, ?_⟩
    · refine intText_neg (x := ⟨(z.cps.toList.take e).toArray⟩) (cs := (z.cps.toList.drop 1).take (e - 1)) e1 (allD h) (fun k => ?_) ?_
      · have := congrArg List.length k
        rw [List.length_take, List.length_drop, List.length_nil] at this
        omega
      · simp only [Str.length, List.size_toArray, List.length_take]
        have := hz.2
        omega
    · simp only [Str.length, List.size_toArray, List.length_take]
      have := hz.2
      omega
    · rw [Int.neg_mul, Int.one_mul] at q
      exact q
/-! ### twos and fives -/
def TF (b : Nat) : Prop := ∃ i j : Nat, b = 2 ^ i * 5 ^ j
theorem TF_one : TF 1 := ⟨0, 0, rfl⟩
theorem pow5_odd (j : Nat) : 5 ^ j % 2 = 1 := by
  rw [Nat.pow_mod]
  simp
theorem pow2_five : ∀ i : Nat, 2 ^ i % 5 ≠ 0
  | 0 => by decide
  | i + 1 => by
    have := pow2_five i
    rw [Nat.pow_succ]
    omega
theorem TF_two {m : Nat} : TF (2 * m) ↔ TF m := by
  constructor
  · rintro ⟨i, j, h⟩
    cases i with
    | zero =>
      have := pow5_odd j
      rw [Nat.pow_zero, Nat.one_mul] at h
      omega
    | succ i =>
      refine ⟨i, j, ?_⟩
      rw [Nat.pow_succ, Nat.mul_comm (2 ^ i) 2, Nat.mul_assoc] at h
      omega
  · rintro ⟨i, j, h⟩
    refine ⟨i + 1, j, ?_⟩
    rw [Nat.pow_succ, Nat.mul_comm (2 ^ i) 2, Nat.mul_assoc, ← h]
theorem TF_five {m : Nat} : TF (5 * m) ↔ TF m := by
  constructor
  · rintro ⟨i, j, h⟩
    cases j with
    | zero =>
      have := pow2_five i
      rw [Nat.pow_zero, Nat.mul_one] at h
      omega
    | succ j =>
      refine ⟨i, j, ?_⟩
      rw [Nat.pow_succ, Nat.mul_comm (5 ^ j) 5, ← Nat.mul_assoc, Nat.mul_comm (2 ^ i) 5, Nat.mul_assoc] at h
      omega
  · rintro ⟨i, j, h⟩
    refine ⟨i, j + 1, ?_⟩
    rw [Nat.pow_succ, Nat.mul_comm (5 ^ j) 5, ← Nat.mul_assoc, Nat.mul_comm (2 ^ i) 5, Nat.mul_assoc, ← h]
theorem TF_end {l : Nat} (h : TF l) (h2 : l % 2 ≠ 0) (h5 : l % 5 ≠ 0) : l = 1 := by
  obtain ⟨i, j, rfl⟩ := h
  cases i with
  | succ i =>
    rw [Nat.pow_succ, Nat.mul_comm (2 ^ i) 2, Nat.mul_assoc] at h2
    omega
  | zero =>
    cases j with
    | zero => rfl
    | succ j =>
      rw [Nat.pow_succ, Nat.pow_zero, Nat.one_mul] at h5
      omega
/-! ### what a text tells -/
open Classical in
/-- the place of the first sign at which it goes not on, or the fraction; s the sign, a the place behind it -/
noncomputable def tellA (cs : List Nat) (s : Int) (a : Nat) : D :=
  let e := if cs[a]? = some 48 then a + 1 else digEnd cs a
  if e = a then .lst [.int a]
  else if cs[e]? = some 46 then
    let l := digEnd cs (e + 1)
    if l < cs.length ∨ l = e + 1 ∨ cs[l - 1]? = some 48 then .lst [.int l]
    else fr (rat (s * (segV cs a e * tenP (l - (e + 1)) + segV cs (e + 1) l)) (tenP (l - (e + 1))))
  else if cs[e]? = some 47 ∧ cs[a]? ≠ some 48 then
    if cs[e + 1]? = some 48 then .lst [.int (e + 1 : Nat)]
    else
      let l := digEnd cs (e + 1)
      if l < cs.length ∨ l = e + 1 then .lst [.int l]
      else if Int.gcd (segV cs a e) (segV cs (e + 1) l) ≠ 1 ∨ TF (segV cs (e + 1) l) then .lst [.int l]
      else .tup [.int (s * segV cs a e), .int (segV cs (e + 1) l)]
  else if e < cs.length ∨ (a = 1 ∧ cs[a]? = some 48) then .lst [.int e]
  else .tup [.int (s * segV cs a e), .int 1]
/-- raised, or told -/
def TQ (no yes : D → Prop) : D → Prop
  | .lst [i] => no i
  | d => yes d
/-! ### the law's way: sign by sign -/
inductive St | begin | minus | nought | whole | point | stroke | bottom
  deriving DecidableEq
def stS : St → Str
  | .begin => "begin"
  | .minus => "minus"
  | .nought => "nought"
  | .whole => "whole"
  | .point => "point"
  | .stroke => "stroke"
  | .bottom => "bottom"
open Classical in
noncomputable def meant (t : St) (s : Int) (f o k n : Nat) : D := match t with
  | .whole => .tup [.int (s * f), .int 1]
  | .nought => if s = 1 then .tup [.int (s * f), .int 1] else .lst [.int n]
  | .point => if 0 < k ∧ 0 < o % 10 then fr (rat (s * (f * tenP k + o)) (tenP k)) else .lst [.int n]
  | .bottom => if Int.gcd f o = 1 ∧ ¬ TF o then .tup [.int (s * f), .int o] else .lst [.int n]
  | _ => .lst [.int n]
/-- the end of the digits ahead of point or stroke -/
def Wh (cs : List Nat) (a e : Nat) : Prop := (cs[a]? = some 48 ∧ e = a + 1) ∨ (cs[a]? ≠ some 48 ∧ digEnd cs a = e ∧ a < e)
def Ph (cs : List Nat) (k : Nat) (t : St) (s : Int) (f o p : Nat) : Prop := match t with
  | .begin => k = 0 ∧ s = 1 ∧ f = 0 ∧ o = 0 ∧ p = 0
  | .minus => k = 1 ∧ Hd cs s 1 ∧ f = 0 ∧ o = 0 ∧ p = 0
  | .nought => ∃ a, Hd cs s a ∧ k = a + 1 ∧ cs[a]? = some 48 ∧ f = 0 ∧ o = 0 ∧ p = 0
  | .whole => ∃ a, Hd cs s a ∧ a < k ∧ cs[a]? ≠ some 48 ∧ Dg cs a k ∧ f = segV cs a k ∧ o = 0 ∧ p = 0
  | .point => ∃ a e, Hd cs s a ∧ Wh cs a e ∧ cs[e]? = some 46 ∧ e < k ∧ Dg cs (e + 1) k ∧ f = segV cs a e ∧ o = segV cs (e + 1) k ∧ p = k - (e + 1)
  | .stroke => ∃ a e, Hd cs s a ∧ Wh cs a e ∧ cs[a]? ≠ some 48 ∧ cs[e]? = some 47 ∧ k = e + 1 ∧ f = segV cs a e ∧ o = 0 ∧ p = 0
  | .bottom => ∃ a e, Hd cs s a ∧ Wh cs a e ∧ cs[a]? ≠ some 48 ∧ cs[e]? = some 47 ∧ e + 1 < k ∧ cs[e + 1]? ≠ some 48 ∧ Dg cs (e + 1) k ∧ f = segV cs a e ∧ o = segV cs (e + 1) k ∧ p = 0
def aOf (cs : List Nat) : Nat := if cs[0]? = some 45 then 1 else 0
def sOf (cs : List Nat) : Int := if cs[0]? = some 45 then -1 else 1
noncomputable def tell (cs : List Nat) : D := tellA cs (sOf cs) (aOf cs)
theorem tell_hd {cs : List Nat} {s : Int} {a : Nat} (h : Hd cs s a) : tell cs = tellA cs s a := by
  unfold tell sOf aOf
  rcases h with ⟨rfl, rfl, h0⟩ | ⟨rfl, rfl, h0⟩
  · rw [if_neg h0, if_neg h0]
  · rw [if_pos h0, if_pos h0]
theorem hd_of (cs : List Nat) : Hd cs (sOf cs) (aOf cs) := by
  unfold sOf aOf
  by_cases h : cs[0]? = some 45
  · rw [if_pos h, if_pos h]
    exact .inr ⟨rfl, rfl, h⟩
  · rw [if_neg h, if_neg h]
    exact .inl ⟨rfl, rfl, h⟩
section
variable {cs : List Nat} {s : Int} {a e : Nat}
theorem Wh.eq (h : Wh cs a e) : (if cs[a]? = some 48 then a + 1 else digEnd cs a) = e := by
  rcases h with ⟨h1, h2⟩ | ⟨h1, h2, _⟩
  · rw [if_pos h1, h2]
  · rw [if_neg h1, h2]
theorem Wh.ne (h : Wh cs a e) : ¬ e = a := by
  rcases h with ⟨h1, h2⟩ | ⟨h1, h2, h3⟩ <;> omega
theorem isD0 : isD 48 = true := rfl
/-- nothing stands where digits should -/
theorem tell_none (h : Hd cs s a) (hd : ∀ c, cs[a]? = some c → isD c = false) : tell cs = .lst [.int a] := by
  have h48 : cs[a]? ≠ some 48 := fun e => by
    have := hd _ e
    rw [isD0] at this
    cases this
  rw [tell_hd h]
  unfold tellA
  simp only [if_neg h48, digEnd_stop hd, if_true]
theorem tell_end (h : Hd cs s a) (w : Wh cs a e) (h1 : cs[e]? ≠ some 46) (h2 : ¬ (cs[e]? = some 47 ∧ cs[a]? ≠ some 48)) :
    tell cs = if e < cs.length ∨ (a = 1 ∧ cs[a]? = some 48) then .lst [.int e] else .tup [.int (s * segV cs a e), .int 1] := by
  rw [tell_hd h]
  unfold tellA
  simp only [w.eq, if_neg w.ne, if_neg h1, if_neg h2]
theorem tell_point {l : Nat} (h : Hd cs s a) (w : Wh cs a e) (h1 : cs[e]? = some 46) (hl : digEnd cs (e + 1) = l) :
    tell cs = if l < cs.length ∨ l = e + 1 ∨ cs[l - 1]? = some 48 then .lst [.int l] else fr (rat (s * (segV cs a e * tenP (l - (e + 1)) + segV cs (e + 1) l)) (tenP (l - (e + 1)))) := by
  rw [tell_hd h]
  unfold tellA
  simp only [w.eq, if_neg w.ne, if_pos h1, hl]
open Classical in
theorem tell_stroke {l : Nat} (h : Hd cs s a) (w : Wh cs a e) (h1 : cs[e]? = some 47) (h2 : cs[a]? ≠ some 48) (hl : digEnd cs (e + 1) = l) :
    tell cs = if cs[e + 1]? = some 48 then .lst [.int (e + 1 : Nat)] else if l < cs.length ∨ l = e + 1 then .lst [.int l]
      else if Int.gcd (segV cs a e) (segV cs (e + 1) l) ≠ 1 ∨ TF (segV cs (e + 1) l) then .lst [.int l] else .tup [.int (s * segV cs a e), .int (segV cs (e + 1) l)] := by
  have h46 : cs[e]? ≠ some 46 := by rw [h1]; decide
  rw [tell_hd h]
  unfold tellA
  simp only [w.eq, if_neg w.ne, if_neg h46, if_pos (And.intro h1 h2), hl]
  repeat' split
  all_goals first | rfl | (exfalso; simp_all; done)
end
/-! ### each sign -/
section
variable {cs : List Nat} {k c : Nat} {t : St} {s : Int} {f o p : Nat}
theorem isD_iff : isD c = true ↔ 48 ≤ c ∧ c ≤ 57 := by
  unfold isD
  simp
theorem ph_1 (hk : cs[k]? = some c) (h : Ph cs k .begin s f o p) (hc : c = 45) : Ph cs (k + 1) .minus (-1) f o p := by
  obtain ⟨rfl, rfl, h1⟩ := h
  subst hc
  exact ⟨rfl, .inr ⟨rfl, rfl, hk⟩, h1⟩
theorem hd_now (hk : cs[k]? = some c) (h : Ph cs k t s f o p) (ht : t = .begin ∨ t = .minus) (hc : c ≠ 45 ∨ t = .minus) : Hd cs s k ∧ f = 0 ∧ o = 0 ∧ p = 0 := by
  rcases ht with rfl | rfl
  · obtain ⟨rfl, rfl, h1⟩ := h
    refine ⟨.inl ⟨rfl, rfl, ?_⟩, h1⟩
    rw [hk]
    rcases hc with hc | hc
    · simpa using hc
    · cases hc
  · obtain ⟨rfl, h1, h2⟩ := h
    exact ⟨h1, h2⟩
theorem ph_2 (hk : cs[k]? = some c) (h : Ph cs k t s f o p) (ht : t = .begin ∨ t = .minus) (hc : c = 48) : Ph cs (k + 1) .nought s f o p := by
  subst hc
  obtain ⟨h1, h2⟩ := hd_now hk h ht (.inl (by decide))
  exact ⟨k, h1, rfl, hk, h2⟩
theorem dg_one (hk : cs[k]? = some c) (hd : isD c = true) : Dg cs k (k + 1) := fun j j1 j2 => by
  have e : j = k := by omega
  subst e
  exact ⟨c, hk, hd⟩
theorem dg_more {a : Nat} (h : Dg cs a k) (hk : cs[k]? = some c) (hd : isD c = true) : Dg cs a (k + 1) := fun j j1 j2 => by
  by_cases e : j = k
  · subst e
    exact ⟨c, hk, hd⟩
  · exact h j j1 (by omega)
theorem ph_3 (hk : cs[k]? = some c) (h : Ph cs k t s f o p) (ht : t = .begin ∨ t = .minus) (hd : isD c = true) (h48 : c ≠ 48) : Ph cs (k + 1) .whole s (c - 48) o p := by
  have hi := isD_iff.mp hd
  obtain ⟨h1, h2, h3, h4⟩ := hd_now hk h ht (.inl (by omega))
  refine ⟨k, h1, by omega, ?_, dg_one hk hd, ?_, h3, h4⟩
  · rw [hk]
    simpa using h48
  · rw [segV_step (Nat.le_refl k) hk, segV_self]
    omega
theorem ph_4 (hk : cs[k]? = some c) (h : Ph cs k .whole s f o p) (hd : isD c = true) : Ph cs (k + 1) .whole s (f * 10 + (c - 48)) o p := by
  obtain ⟨a, h1, h2, h3, h4, rfl, h5⟩ := h
  exact ⟨a, h1, by omega, h3, dg_more h4 hk hd, (segV_step (by omega) hk).symm, h5⟩
theorem wh_now (hk : cs[k]? = some c) (h : Ph cs k t s f o p) (ht : t = .nought ∨ t = .whole) (hd : t = .whole → isD c = false) : ∃ a, Hd cs s a ∧ Wh cs a k ∧ f = segV cs a k ∧ o = 0 ∧ p = 0 ∧ (t = .whole → cs[a]? ≠ some 48) ∧ (t = .nought → cs[a]? = some 48) := by
  rcases ht with rfl | rfl
  · obtain ⟨a, h1, rfl, h3, rfl, h4, h5⟩ := h
    refine ⟨a, h1, .inl ⟨h3, rfl⟩, ?_, h4, h5, (fun e => nomatch e), fun _ => h3⟩
    rw [segV_step (Nat.le_refl a) h3, segV_self]
  · obtain ⟨a, h1, h2, h3, h4, rfl, h5, h6⟩ := h
    refine ⟨a, h1, .inr ⟨h3, digEnd_eq (k := k) (fun d e => ?_) (k - a) a (by omega) h4, h2⟩, rfl, h5, h6, fun _ => h3, (fun e => nomatch e)⟩
    rw [hk] at e
    cases e
    exact hd rfl
theorem ph_5 (hk : cs[k]? = some c) (h : Ph cs k t s f o p) (ht : t = .nought ∨ t = .whole) (hc : c = 46) : Ph cs (k + 1) .point s f o p := by
  subst hc
  obtain ⟨a, h1, h2, h3, h4, h5, _⟩ := wh_now hk h ht fun _ => rfl
  refine ⟨a, k, h1, h2, hk, by omega, fun j j1 j2 => by omega, h3, ?_, by omega⟩
  rw [segV_self, h4]
theorem ph_6 (hk : cs[k]? = some c) (h : Ph cs k .point s f o p) (hd : isD c = true) : Ph cs (k + 1) .point s f (o * 10 + (c - 48)) (p + 1) := by
  obtain ⟨a, e, h1, h2, h3, h4, h5, h6, rfl, rfl⟩ := h
  exact ⟨a, e, h1, h2, h3, by omega, dg_more h5 hk hd, h6, (segV_step (by omega) hk).symm, by omega⟩
theorem ph_7 (hk : cs[k]? = some c) (h : Ph cs k .whole s f o p) (hc : c = 47) : Ph cs (k + 1) .stroke s f o p := by
  subst hc
  obtain ⟨a, h1, h2, h3, h4, h5, h6, _⟩ := wh_now hk h (.inr rfl) fun _ => rfl
  exact ⟨a, k, h1, h2, h6 rfl, hk, rfl, h3, h4, h5⟩
theorem ph_8 (hk : cs[k]? = some c) (h : Ph cs k .stroke s f o p) (hd : isD c = true) (h48 : c ≠ 48) : Ph cs (k + 1) .bottom s f (c - 48) p := by
  obtain ⟨a, e, h1, h2, h3, h4, rfl, h6, h7, h8⟩ := h
  refine ⟨a, e, h1, h2, h3, h4, by omega, ?_, dg_one hk hd, h6, ?_, h8⟩
  · rw [hk]
    simpa using h48
  · rw [segV_step (Nat.le_refl _) hk, segV_self]
    omega
theorem ph_9 (hk : cs[k]? = some c) (h : Ph cs k .bottom s f o p) (hd : isD c = true) : Ph cs (k + 1) .bottom s f (o * 10 + (c - 48)) p := by
  obtain ⟨a, e, h1, h2, h3, h4, h5, h6, h7, h8, rfl, h9⟩ := h
  exact ⟨a, e, h1, h2, h3, h4, by omega, h6, dg_more h7 hk hd, h8, (segV_step (by omega) hk).symm, h9⟩
theorem lt_of_at (hk : cs[k]? = some c) : k < cs.length := (List.getElem?_eq_some_iff.mp hk).1
theorem stop_of (hk : cs[k]? = some c) (hd : isD c = false) : ∀ d, cs[k]? = some d → isD d = false := fun d e => by
  rw [hk] at e
  cases e
  exact hd
/-- no sign goes on here -/
theorem ph_fail (hk : cs[k]? = some c) (h : Ph cs k t s f o p) (n1 : ¬ (t = .begin ∧ c = 45)) (n2 : ¬ ((t = .begin ∨ t = .minus) ∧ isD c = true)) (n4 : ¬ (t = .whole ∧ isD c = true))
    (n5 : ¬ ((t = .nought ∨ t = .whole) ∧ c = 46)) (n6 : ¬ (t = .point ∧ isD c = true)) (n7 : ¬ (t = .whole ∧ c = 47)) (n8 : ¬ (t = .stroke ∧ isD c = true ∧ c ≠ 48)) (n9 : ¬ (t = .bottom ∧ isD c = true)) : tell cs = .lst [.int k] := by
  have hl := lt_of_at hk
  have nd : ∀ {P : Prop}, ¬ (P ∧ isD c = true) → P → isD c = false := fun h p => by
    cases e : isD c with
    | true => exact absurd ⟨p, e⟩ h
    | false => rfl
  cases t with
  | begin =>
    obtain ⟨h1, _⟩ := hd_now hk h (.inl rfl) (.inl fun e => n1 ⟨rfl, e⟩)
    exact tell_none h1 (stop_of hk (nd n2 (.inl rfl)))
  | minus =>
    obtain ⟨h1, _⟩ := hd_now hk h (.inr rfl) (.inr rfl)
    exact tell_none h1 (stop_of hk (nd n2 (.inr rfl)))
  | nought =>
    obtain ⟨a, h1, h2, _, _, _, _, h6⟩ := wh_now hk h (.inl rfl) (fun e => nomatch e)
    rw [tell_end h1 h2 (by rw [hk]; exact fun e => n5 ⟨.inl rfl, Option.some.inj e⟩) (fun e => e.2 (h6 rfl)), if_pos (.inl hl)]
  | whole =>
    obtain ⟨a, h1, h2, _, _, _, _, _⟩ := wh_now hk h (.inr rfl) fun _ => nd n4 rfl
    rw [tell_end h1 h2 (by rw [hk]; exact fun e => n5 ⟨.inr rfl, Option.some.inj e⟩) (fun e => n7 ⟨rfl, by rw [hk] at e; exact Option.some.inj e.1⟩), if_pos (.inl hl)]
  | point =>
    obtain ⟨a, e, h1, h2, h3, h4, h5, _⟩ := h
    rw [tell_point h1 h2 h3 (digEnd_eq (stop_of hk (nd n6 rfl)) (k - (e + 1)) (e + 1) (by omega) h5), if_pos (.inl hl)]
  | stroke =>
    obtain ⟨a, e, h1, h2, h3, h4, rfl, _⟩ := h
    by_cases h48 : c = 48
    · subst h48
      rw [tell_stroke h1 h2 h4 h3 rfl, if_pos hk]
    · have hd : isD c = false := by
        cases e : isD c with
        | true => exact absurd ⟨rfl, e, h48⟩ n8
        | false => rfl
      rw [tell_stroke h1 h2 h4 h3 (digEnd_stop (stop_of hk hd)), if_neg (by rw [hk]; simpa using h48), if_pos (.inl hl)]
  | bottom =>
    obtain ⟨a, e, h1, h2, h3, h4, h5, h6, h7, _⟩ := h
    rw [tell_stroke h1 h2 h4 h3 (digEnd_eq (stop_of hk (nd n9 rfl)) (k - (e + 1)) (e + 1) (by omega) h7), if_neg h6, if_pos (.inl hl)]
theorem out_of : cs[cs.length]? = none := List.getElem?_eq_none_iff.mpr (Nat.le_refl _)
/-- the text ends here -/
theorem ph_end (h : Ph cs cs.length t s f o p) : tell cs = meant t s f o p cs.length := by
  have no : ∀ d, cs[cs.length]? = some d → isD d = false := fun d e => by
    rw [out_of] at e
    cases e
  have n46 : cs[cs.length]? ≠ some 46 := by rw [out_of]; exact fun e => nomatch e
  have n47 : cs[cs.length]? ≠ some 47 := by rw [out_of]; exact fun e => nomatch e
  cases t with
  | begin =>
    obtain ⟨h0, rfl, _⟩ := h
    have hd : Hd cs 1 cs.length := .inl ⟨rfl, h0, by rw [← h0, out_of]; exact fun e => nomatch e⟩
    exact tell_none hd no
  | minus =>
    obtain ⟨h0, h1, _⟩ := h
    rw [← h0] at h1
    exact tell_none h1 no
  | nought =>
    obtain ⟨a, h1, h2, h3, rfl, rfl, rfl⟩ := h
    have w : Wh cs a cs.length := .inl ⟨h3, h2⟩
    have f0 : segV cs a cs.length = 0 := by
      rw [h2, segV_step (Nat.le_refl a) h3, segV_self]
    rw [tell_end h1 w n46 fun e => n47 e.1]
    show _ = if s = 1 then D.tup [.int (s * (0 : Nat)), .int 1] else .lst [.int cs.length]
    rcases h1 with ⟨rfl, rfl, _⟩ | ⟨rfl, rfl, _⟩
    · rw [if_neg (by rintro (e | e) <;> omega), if_pos rfl, f0]
    · rw [if_pos (.inr ⟨rfl, h3⟩), if_neg (by decide)]
  | whole =>
    obtain ⟨a, h1, h2, h3, h4, rfl, _⟩ := h
    have w : Wh cs a cs.length := .inr ⟨h3, digEnd_eq no (cs.length - a) a (by omega) h4, h2⟩
    rw [tell_end h1 w n46 fun e => n47 e.1, if_neg]
    · rfl
    · rintro (e | e)
      · omega
      · exact h3 e.2
  | point =>
    obtain ⟨a, e, h1, h2, h3, h4, h5, rfl, rfl, rfl⟩ := h
    rw [tell_point h1 h2 h3 (digEnd_eq no (cs.length - (e + 1)) (e + 1) (by omega) h5)]
    show _ = if 0 < cs.length - (e + 1) ∧ 0 < segV cs (e + 1) cs.length % 10 then fr (rat (s * ((segV cs a e : Nat) * tenP (cs.length - (e + 1)) + (segV cs (e + 1) cs.length : Nat))) (tenP (cs.length - (e + 1)))) else .lst [.int cs.length]
    by_cases h0 : cs.length = e + 1
    · rw [if_pos (.inr (.inl h0)), if_neg (by omega)]
    · obtain ⟨c, c1, c2⟩ := h5 (cs.length - 1) (by omega) (by omega)
      have hi := isD_iff.mp c2
      have hm : segV cs (e + 1) cs.length % 10 = c - 48 := by
        have := segV_step (cs := cs) (a := e + 1) (k := cs.length - 1) (by omega) c1
        rw [show cs.length - 1 + 1 = cs.length by omega] at this
        rw [this]
        omega
      by_cases h48 : c = 48
      · subst h48
        rw [if_pos (.inr (.inr c1)), if_neg (by omega)]
      · rw [if_neg, if_pos (by omega)]
        rintro (q | q | q)
        · omega
        · omega
        · rw [c1] at q
          exact h48 (Option.some.inj q)
  | stroke =>
    obtain ⟨a, e, h1, h2, h3, h4, h5, _⟩ := h
    rw [tell_stroke h1 h2 h4 h3 (digEnd_stop (by rw [← h5]; exact no)), if_neg (by rw [← h5, out_of]; exact fun e => nomatch e), if_pos (.inr rfl), ← h5]
    rfl
  | bottom =>
    obtain ⟨a, e, h1, h2, h3, h4, h5, h6, h7, rfl, rfl, _⟩ := h
    rw [tell_stroke h1 h2 h4 h3 (digEnd_eq no (cs.length - (e + 1)) (e + 1) (by omega) h7), if_neg h6, if_neg (by omega)]
    unfold meant
    by_cases g : Int.gcd (segV cs a e) (segV cs (e + 1) cs.length) = 1 ∧ ¬ TF (segV cs (e + 1) cs.length)
    · rw [if_pos g, if_neg]
      rintro (q | q)
      · exact q g.1
      · exact g.2 q
    · rw [if_neg g, if_pos]
      by_cases g1 : Int.gcd (segV cs a e) (segV cs (e + 1) cs.length) = 1
      · exact .inr (Classical.byContradiction fun q => g ⟨g1, q⟩)
      · exact .inl g1
end
/-! ### readings of texts -/
theorem len_eq (z : Str) : z.length = z.cps.toList.length := by simp [Str.length]
theorem OkT.lim {z : Str} (h : OkT z) : z.length ≤ 100000 := by
  have := h.len
  omega
theorem strOk_iff {z : Str} : PyData.strOk z = true ↔ ∀ c ∈ z.cps.toList, c < 0x110000 := by
  unfold PyData.strOk
  rw [Array.all_eq_true_iff_forall_mem]
  simp
theorem strOk_sub {z y : Str} (h : PyData.strOk z = true) (hs : ∀ c ∈ y.cps.toList, c ∈ z.cps.toList) : PyData.strOk y = true := by
  rw [strOk_iff] at h ⊢
  exact fun c m => h c (hs c m)
theorem strOk_app {z y : Str} (h : PyData.strOk z = true) (k : PyData.strOk y = true) : PyData.strOk (z ++ y) = true := by
  rw [strOk_iff] at h k ⊢
  intro c m
  have e : (z ++ y).cps.toList = z.cps.toList ++ y.cps.toList := by
    show (z.cps ++ y.cps).toList = _
    simp
  rw [e, List.mem_append] at m
  exact m.elim (h c) (k c)
theorem ok_sg {z : Str} (h : OkT z) (i : Nat) : PyData.strOk (sg z.cps.toList[i]?) = true := by
  refine strOk_sub h.1 fun c m => ?_
  cases e : z.cps.toList[i]? with
  | none =>
    rw [e] at m
    exact absurd m (by simp [sg])
  | some d =>
    rw [e] at m
    have : c = d := by simpa [sg] using m
    subst this
    exact List.mem_of_getElem? e
theorem pl_one {z : Str} (h : OkT z) (i : Nat) : plain 40 (.str (cutS z (some (i : Int)) (some ((i : Int) + 1)))) = true := by
  rw [cut_one]
  exact ok_sg h i
theorem pl_first {z : Str} (h : OkT z) : plain 40 (.str (cutS z none (some 1))) = true := by
  rw [cut_first]
  exact ok_sg h 0
theorem pl_at {z : Str} {i c : Nat} (h : OkT z) (hc : z.cps.toList[i]? = some c) : plain 40 (.str ⟨#[c]⟩) = true := by
  have := ok_sg h i
  rw [hc] at this
  exact this
theorem peq_at {c d : Nat} {l : Str} (hl : l = ⟨#[d]⟩) : peq (.str ⟨#[c]⟩) (.str l) = decide (c = d) := by
  have := peq_sg (o := some c) hl
  rw [show sg (some c) = ⟨#[c]⟩ from rfl] at this
  rw [this, decide_eq_decide]
  exact Option.some_inj
theorem segV_pos {cs : List Nat} {a : Nat} (h48 : cs[a]? ≠ some 48) : ∀ {m : Nat}, Dg cs a (a + (m + 1)) → 1 ≤ segV cs a (a + (m + 1))
  | 0, h => by
    obtain ⟨c, h1, h2⟩ := h a (Nat.le_refl _) (by omega)
    have hi := isD_iff.mp h2
    rw [segV_step (Nat.le_refl a) h1, segV_self]
    have : c ≠ 48 := fun e => h48 (by rw [h1, e])
    omega
  | m + 1, h => by
    obtain ⟨c, h1, h2⟩ := h (a + (m + 1)) (by omega) (by omega)
    have ih := segV_pos h48 (m := m) fun j j1 j2 => h j j1 (by omega)
    rw [← Nat.add_assoc, segV_step (by omega) h1]
    omega
theorem segV_p {cs : List Nat} {a b : Nat} (h48 : cs[a]? ≠ some 48) (h : Dg cs a b) (hab : a < b) : 1 ≤ segV cs a b := by
  obtain ⟨m, rfl⟩ : ∃ m, b = a + (m + 1) := ⟨b - a - 1, by omega⟩
  exact segV_pos h48 h
theorem Wh.dg {cs : List Nat} {a e : Nat} (h : Wh cs a e) : Dg cs a e ∧ a < e := by
  rcases h with ⟨h1, rfl⟩ | ⟨_, rfl, h3⟩
  · exact ⟨dg_one h1 rfl, by omega⟩
  · exact ⟨digEnd_all cs a, h3⟩
theorem segBn {z : Str} {a b n : Nat} (hz : z.cps.toList.length ≤ n) (h : Dg z.cps.toList a b) (hab : a ≤ b) : segV z.cps.toList a b < 2 ^ (4 * n) := by
  by_cases e : a = b
  · subst e
    rw [segV_self]
    exact Nat.pow_pos (by decide)
  · have := h.le (by omega)
    exact segV_b h hab (by omega)
theorem segB {z : Str} {a b : Nat} (hz : OkT z) (h : Dg z.cps.toList a b) (hab : a ≤ b) : segV z.cps.toList a b < 2 ^ 1600 := segBn hz.2 h hab
theorem logL {n k m : Nat} (h : n < 2 ^ k) (hk : k ≤ m) (h0 : 0 < m) : n.log2 < m := by
  by_cases e : n = 0
  · subst e
    rw [show Nat.log2 0 = 0 by decide]
    exact h0
  · have := (Nat.log2_lt e).mpr h
    omega
/-- a fraction of these parts is in lowest terms already -/
theorem low_self {f o : Int} (ho : 0 < o) : fr (rat f o) = .tup [.int f, .int o] ↔ Int.gcd f o = 1 := by
  have hg : (0 : Int) < Int.gcd f o := by
    have := gcd_pos (a := f) (b := o) (by omega)
    omega
  have hp := low_parts (top := f) (bottom := o) (by omega) (f := Int.gcd f o) (by rw [if_pos ho, Int.mul_one])
  obtain ⟨_, p1, p2⟩ := hp
  unfold fr
  rw [← p1, ← p2]
  constructor
  · intro e
    injection e with e
    injection e with _ e
    injection e with e _
    injection e with e
    have hd : (Int.gcd f o : Int) ∣ o := Int.gcd_dvd_right f o
    rw [Int.fdiv_eq_ediv_of_nonneg _ (by omega)] at e
    have e2 := Int.ediv_mul_cancel hd
    rw [e] at e2
    have : (Int.gcd f o : Int) = 1 := by
      have h3 : o * ((Int.gcd f o : Int) - 1) = 0 := by rw [Int.mul_sub, e2]; omega
      rcases Int.mul_eq_zero.mp h3 with h4 | h4 <;> omega
    omega
  · intro e
    rw [e]
    simp
/-- what is told of a text: raised or given -/
def TellQ (cs : List Nat) (Q : RV → Prop) (Xe : Exc → Prop) : Prop := TQ (fun i => Xe ⟨"InvalidText", some ("index", i)⟩) (fun d => Q (.d d)) (tell cs)
theorem TQ_l {no yes : D → Prop} {i : D} : TQ no yes (.lst [i]) = no i := rfl
theorem TQ_t {no yes : D → Prop} {xs : List D} : TQ no yes (.tup xs) = yes (.tup xs) := rfl
theorem TQ_fr {no yes : D → Prop} {q : Rat} : TQ no yes (fr q) = yes (fr q) := rfl
/-- a text of at most 99 signs, or no string -/
def GoodT (x : D) : Prop := (tyOf x).isSome = true ∧ ∀ z, x = .str z → OkT z ∧ z.cps.toList.length ≤ 99
noncomputable def readD : D → D
  | .str z => tell z.cps.toList
  | _ => .lst [.int 0]
end DL
set_option linter.all false
set_option autoImplicit false
set_option maxHeartbeats 4000000
set_option maxRecDepth 100000
set_option exponentiation.threshold 20000
/-! The text of a fraction, and that it tells the fraction. -/
namespace DL
open PySem PySem.Spec PyProof.Rows L2 NumText TL
/-! ### digits -/
def padL : Nat → Nat → List Nat
  | 0, _ => []
  | k + 1, r => padL k (r / 10) ++ [48 + r % 10]
theorem padL_len : ∀ k r : Nat, (padL k r).length = k
  | 0, _ => rfl
  | k + 1, r => by rw [padL, List.length_append, padL_len k, List.length_singleton]
theorem padL_digits : ∀ k r : Nat, AllDigits (padL k r)
  | 0, _ => fun c h => nomatch h
  | k + 1, r => fun c h => by
    rcases List.mem_append.mp h with h | h
    · exact padL_digits k _ c h
    · rw [List.mem_singleton.mp h]
      omega
theorem padL_step {k q d : Nat} (hd : d < 10) : padL (k + 1) (q * 10 + d) = padL k q ++ [48 + d] := by
  rw [padL, show (q * 10 + d) / 10 = q by omega, show (q * 10 + d) % 10 = d by omega]
theorem val_snoc (cs : List Nat) (c : Nat) : digitsVal (cs ++ [c]) = digitsVal cs * 10 + (c - 48) := by
  unfold digitsVal
  rw [List.foldl_append]
  rfl
theorem padL_val : ∀ {k r : Nat}, r < 10 ^ k → digitsVal (padL k r) = r
  | 0, r, h => by
    have : r = 0 := by
      rw [Nat.pow_zero] at h
      omega
    subst this
    rfl
  | k + 1, r, h => by
    rw [Nat.pow_succ] at h
    rw [padL, val_snoc, padL_val (k := k) (by omega)]
    omega
theorem numL_pad : ∀ {k r : Nat}, r < 10 ^ k → numL (10 ^ k + r) = 49 :: padL k r
  | 0, r, h => by
    have : r = 0 := by
      rw [Nat.pow_zero] at h
      omega
    subst this
    rw [numL_lt (by decide)]
    rfl
  | k + 1, r, h => by
    have hp : 1 ≤ 10 ^ k := Nat.pow_pos (by decide)
    rw [Nat.pow_succ] at h ⊢
    rw [numL_step (by omega), show (10 ^ k * 10 + r) / 10 = 10 ^ k + r / 10 by omega, show (10 ^ k * 10 + r) % 10 = r % 10 by omega, numL_pad (k := k) (by omega), padL]
    rfl
theorem numL_head (n : Nat) (h0 : 0 < n) : (numL n)[0]? ≠ some 48 := by
  induction n using Nat.strongRecOn with
  | _ n ih =>
    by_cases h : n < 10
    · rw [numL_lt h]
      intro e
      have e : 48 + n = 48 := Option.some.inj e
      omega
    · rw [numL_step (by omega), List.getElem?_append_left (List.length_pos_iff.mpr (numL_ne _))]
      exact ih (n / 10) (by omega) (by omega)
theorem numL_first (n : Nat) : ∃ c, (numL n)[0]? = some c ∧ isD c = true := by
  have hl := List.length_pos_iff.mpr (numL_ne n)
  refine ⟨_, List.getElem?_eq_getElem hl, ?_⟩
  exact isD_iff.mpr (numL_digits n _ (List.getElem_mem hl))
/-! ### where digits stand -/
theorem seg_at {l ds r : List Nat} {a : Nat} (ha : l.length = a) : segV (l ++ ds ++ r) a (a + ds.length) = digitsVal ds := by
  unfold segV
  rw [List.append_assoc, List.drop_append_of_le_length (by omega), List.drop_eq_nil_of_le (by omega), List.nil_append, show a + ds.length - a = ds.length by omega, List.take_left']
  rfl
theorem dg_at {l ds r : List Nat} {a : Nat} (ha : l.length = a) (h : AllDigits ds) : Dg (l ++ ds ++ r) a (a + ds.length) := fun j j1 j2 => by
  refine ⟨ds[j - a]'(by omega), ?_, isD_iff.mpr (h _ (List.getElem_mem _))⟩
  rw [List.append_assoc, List.getElem?_append_right (by omega), ha, List.getElem?_append_left (by omega), List.getElem?_eq_getElem (by omega)]
theorem after_at {l ds r : List Nat} {a : Nat} (ha : l.length = a) : (l ++ ds ++ r)[a + ds.length]? = r[0]? := by
  rw [List.getElem?_append_right (by rw [List.length_append]; omega), List.length_append, ha, Nat.sub_self]
theorem first_at {l ds r : List Nat} {a : Nat} (ha : l.length = a) (h : ds ≠ []) : (l ++ ds ++ r)[a]? = ds[0]? := by
  have := List.length_pos_iff.mpr h
  rw [List.append_assoc, List.getElem?_append_right (by omega), ha, Nat.sub_self, List.getElem?_append_left (by omega)]
/-- the sign that stands ahead -/
def SgL (sg : List Nat) (s : Int) : Prop := (sg = [] ∧ s = 1) ∨ (sg = [45] ∧ s = -1)
theorem hd_at {sg r : List Nat} {s : Int} (h : SgL sg s) (n : Nat) : Hd (sg ++ numL n ++ r) s sg.length := by
  rcases h with ⟨rfl, rfl⟩ | ⟨rfl, rfl⟩
  · refine .inl ⟨rfl, rfl, ?_⟩
    obtain ⟨c, h1, h2⟩ := numL_first n
    have := first_at (l := []) (ds := numL n) (r := r) rfl (numL_ne n)
    have this : ([] ++ numL n ++ r)[0]? = (numL n)[0]? := this
    rw [this, h1]
    intro e
    rw [Option.some.inj e] at h2
    exact absurd h2 (by decide)
  · exact .inr ⟨rfl, rfl, rfl⟩
theorem wh_at {sg r : List Nat} (n : Nat) (hr : ∀ c, r[0]? = some c → isD c = false) : Wh (sg ++ numL n ++ r) sg.length (sg.length + (numL n).length) := by
  by_cases h : n = 0
  · subst h
    have e : numL 0 = [48] := numL_lt (by decide)
    refine .inl ⟨?_, by rw [e]; rfl⟩
    rw [first_at rfl (numL_ne 0), e]
    rfl
  · have hl := List.length_pos_iff.mpr (numL_ne n)
    refine .inr ⟨?_, digEnd_eq (fun c hc => ?_) (numL n).length sg.length rfl (dg_at rfl (numL_digits n)), by omega⟩
    · rw [first_at rfl (numL_ne n)]
      exact numL_head n (by omega)
    · rw [after_at rfl] at hc
      exact hr c hc
/-! ### told back -/
theorem tell_whole {sg : List Nat} {s : Int} (h : SgL sg s) {A : Nat} (hA : sg ≠ [] → 0 < A) : tell (sg ++ numL A) = .tup [.int (s * A), .int 1] := by
  have e : sg ++ numL A = sg ++ numL A ++ [] := by simp
  have hh := hd_at (r := []) h A
  have hw := wh_at (sg := sg) (r := []) A (fun c z => nomatch z)
  have ha := after_at (l := sg) (ds := numL A) (r := []) rfl
  have hs := seg_at (l := sg) (ds := numL A) (r := []) rfl
  rw [numL_val] at hs
  have f := first_at (l := sg) (ds := numL A) (r := []) rfl (numL_ne A)
  rw [e, tell_end hh hw (by rw [ha]; exact fun z => nomatch z) (fun z => by rw [ha] at z; exact nomatch z.1), hs, if_neg]
  rintro (z | z)
  · simp at z
  · rw [f] at z
    refine numL_head A (hA fun e => ?_) z.2
    rw [e] at z
    exact absurd z.1 (by decide)
theorem tell_quo {sg : List Nat} {s : Int} (h : SgL sg s) {A b : Nat} (hA : 0 < A) (hb : 0 < b) (hg : Int.gcd A b = 1) (hT : ¬ TF b) : tell (sg ++ numL A ++ 47 :: numL b) = .tup [.int (s * A), .int b] := by
  have hh := hd_at (r := 47 :: numL b) h A
  have hw := wh_at (sg := sg) (r := 47 :: numL b) A (fun c z => by
    cases z
    rfl)
  have ha := after_at (l := sg) (ds := numL A) (r := 47 :: numL b) rfl
  have hs := seg_at (l := sg) (ds := numL A) (r := 47 :: numL b) rfl
  have f := first_at (l := sg) (ds := numL A) (r := 47 :: numL b) rfl (numL_ne A)
  have e : sg ++ numL A ++ 47 :: numL b = (sg ++ numL A ++ [47]) ++ numL b ++ [] := by simp
  have el : (sg ++ numL A ++ [47]).length = sg.length + (numL A).length + 1 := by
    simp
    omega
  have d2 := dg_at (l := sg ++ numL A ++ [47]) (ds := numL b) (r := []) el (numL_digits b)
  have s2 := seg_at (l := sg ++ numL A ++ [47]) (ds := numL b) (r := []) el
  have a2 := after_at (l := sg ++ numL A ++ [47]) (ds := numL b) (r := []) el
  have f2 := first_at (l := sg ++ numL A ++ [47]) (ds := numL b) (r := []) el (numL_ne b)
  rw [← e] at d2 s2 a2 f2
  rw [numL_val] at hs s2
  have hl := List.length_pos_iff.mpr (numL_ne b)
  have ln : (sg ++ numL A ++ 47 :: numL b).length = sg.length + (numL A).length + 1 + (numL b).length := by
    simp
    omega
  rw [tell_stroke hh hw (by rw [ha]; rfl) (by rw [f]; exact numL_head A hA) (digEnd_eq (fun c hc => by rw [a2] at hc; cases hc) (numL b).length _ rfl d2), if_neg (by rw [f2]; exact numL_head b hb), if_neg (by omega), hs, s2, if_neg]
  rintro (z | z)
  · exact z hg
  · exact hT z
theorem tell_dec {sg : List Nat} {s : Int} (h : SgL sg s) {W k r : Nat} (hk : 1 ≤ k) (hr : r < 10 ^ k) (hne : r % 10 ≠ 0) : tell (sg ++ numL W ++ 46 :: padL k r) = fr (rat (s * (W * tenP k + r)) (tenP k)) := by
  have hh := hd_at (r := 46 :: padL k r) h W
  have hw := wh_at (sg := sg) (r := 46 :: padL k r) W (fun c z => by
    cases z
    rfl)
  have ha := after_at (l := sg) (ds := numL W) (r := 46 :: padL k r) rfl
  have hs := seg_at (l := sg) (ds := numL W) (r := 46 :: padL k r) rfl
  have e : sg ++ numL W ++ 46 :: padL k r = (sg ++ numL W ++ [46]) ++ padL k r ++ [] := by simp
  have el : (sg ++ numL W ++ [46]).length = sg.length + (numL W).length + 1 := by
    simp
    omega
  have d2 := dg_at (l := sg ++ numL W ++ [46]) (ds := padL k r) (r := []) el (padL_digits k r)
  have s2 := seg_at (l := sg ++ numL W ++ [46]) (ds := padL k r) (r := []) el
  have a2 := after_at (l := sg ++ numL W ++ [46]) (ds := padL k r) (r := []) el
  rw [← e] at d2 s2 a2
  rw [numL_val] at hs
  rw [padL_val hr] at s2
  rw [padL_len] at d2 s2 a2
  have ln : (sg ++ numL W ++ 46 :: padL k r).length = sg.length + (numL W).length + 1 + k := by
    simp [padL_len]
    omega
  have last : (sg ++ numL W ++ 46 :: padL k r)[sg.length + (numL W).length + 1 + k - 1]? = some (48 + r % 10) := by
    obtain ⟨k, rfl⟩ : ∃ m, k = m + 1 := ⟨k - 1, by omega⟩
    rw [padL, show sg ++ numL W ++ 46 :: (padL k (r / 10) ++ [48 + r % 10]) = (sg ++ numL W ++ 46 :: padL k (r / 10)) ++ [48 + r % 10] by simp, List.getElem?_append_right (by simp [padL_len]; omega)]
    simp [padL_len]
    rw [show sg.length + (numL W).length + 1 + k - (sg.length + ((numL W).length + (k + 1))) = 0 by omega]
    rfl
  rw [tell_point hh hw (by rw [ha]; rfl) (digEnd_eq (fun c hc => by rw [a2] at hc; cases hc) k _ rfl d2), if_neg, hs, s2, show sg.length + (numL W).length + 1 + k - (sg.length + (numL W).length + 1) = k by omega]
  rintro (z | z | z)
  · omega
  · omega
  · rw [last] at z
    have := Option.some.inj z
    omega
/-! ### places -/
open Classical in
/-- how many digits behind the point tell fractions of this bottom -/
noncomputable def plc (b : Nat) : Nat := if h : TF b then max h.choose h.choose_spec.choose else 0
theorem plc_spec {b : Nat} (h : TF b) : ∃ i j, b = 2 ^ i * 5 ^ j ∧ plc b = max i j := by
  refine ⟨h.choose, h.choose_spec.choose, h.choose_spec.choose_spec, ?_⟩
  unfold plc
  rw [dif_pos h]
theorem two_five (i j : Nat) : Nat.Coprime (2 ^ i) (5 ^ j) := Nat.Coprime.pow i j (by decide)
theorem ten_pow (m : Nat) : 10 ^ m = 2 ^ m * 5 ^ m := by
  rw [← Nat.mul_pow]
theorem plc_dvd {b R m : Nat} (h : TF b) (hR : Nat.Coprime b R) : R * 10 ^ m % b = 0 ↔ plc b ≤ m := by
  obtain ⟨i, j, e, ep⟩ := plc_spec h
  rw [ep]
  constructor
  · intro z
    have z1 : b ∣ R * 10 ^ m := Nat.dvd_of_mod_eq_zero z
    have z2 : b ∣ 10 ^ m := hR.dvd_of_dvd_mul_left z1
    rw [ten_pow, e] at z2
    have a1 : 2 ^ i ∣ 2 ^ m * 5 ^ m := Nat.dvd_trans (Nat.dvd_mul_right _ _) z2
    have a2 : 5 ^ j ∣ 2 ^ m * 5 ^ m := Nat.dvd_trans (Nat.dvd_mul_left _ _) z2
    have b1 := (Nat.pow_dvd_pow_iff_le_right (by decide)).mp ((two_five i m).dvd_of_dvd_mul_right a1)
    have b2 := (Nat.pow_dvd_pow_iff_le_right (by decide)).mp ((two_five m j).symm.dvd_of_dvd_mul_left a2)
    omega
  · intro z
    refine Nat.mod_eq_zero_of_dvd ?_
    rw [ten_pow, e]
    exact Nat.dvd_trans (Nat.mul_dvd_mul (Nat.pow_dvd_pow 2 (by omega)) (Nat.pow_dvd_pow 5 (by omega))) (Nat.dvd_mul_left _ _)
theorem plc_lt {b n : Nat} (h : TF b) (hb : b < 2 ^ n) : plc b < n := by
  obtain ⟨i, j, e, ep⟩ := plc_spec h
  rw [ep]
  have p2 : 1 ≤ 2 ^ i := Nat.pow_pos (by decide)
  have p5 : 1 ≤ 5 ^ j := Nat.pow_pos (by decide)
  have a1 : 2 ^ i ≤ b := by
    rw [e]
    exact Nat.le_mul_of_pos_right _ p5
  have a2 : 2 ^ j ≤ b := by
    have : 2 ^ j ≤ 5 ^ j := Nat.pow_le_pow_left (by decide) j
    rw [e]
    exact Nat.le_trans this (Nat.le_mul_of_pos_left _ p2)
  have b1 := (Nat.pow_lt_pow_iff_right (a := 2) (by decide)).mp (Nat.lt_of_le_of_lt a1 hb)
  have b2 := (Nat.pow_lt_pow_iff_right (a := 2) (by decide)).mp (Nat.lt_of_le_of_lt a2 hb)
  omega
theorem plc_zero {b : Nat} (h : TF b) : plc b = 0 ↔ b = 1 := by
  have := plc_dvd (m := 0) (R := 1) h (Nat.coprime_one_right b)
  rw [Nat.pow_zero, Nat.mul_one] at this
  constructor
  · intro z
    have h2 := this.mpr (by omega)
    exact Nat.dvd_one.mp (Nat.dvd_of_mod_eq_zero h2)
  · intro z
    subst z
    have := this.mp (by decide)
    omega
/-! ### the text -/
open Classical in
noncomputable def textL (p : Rat) : List Nat :=
  (if p.num < 0 then [45] else []) ++ (if TF p.den then (if p.den = 1 then numL p.num.natAbs else numL (p.num.natAbs / p.den) ++ 46 :: padL (plc p.den) (p.num.natAbs % p.den * 10 ^ plc p.den / p.den)) else numL p.num.natAbs ++ 47 :: numL p.den)
noncomputable def textOf (p : Rat) : Str := ⟨(textL p).toArray⟩
theorem str_eq {z : Str} {l : List Nat} (h : z.cps.toList = l) : z = ⟨l.toArray⟩ := by
  subst h
  rfl
theorem num_abs (p : Rat) : p.num = (if p.num < 0 then -1 else 1) * (p.num.natAbs : Int) := by
  split <;> omega
theorem sg_num (p : Rat) : SgL (if p.num < 0 then [45] else []) (if p.num < 0 then -1 else 1) := by
  split
  · exact .inr ⟨rfl, rfl⟩
  · exact .inl ⟨rfl, rfl⟩
theorem dec_cop (p : Rat) : Nat.Coprime p.den (p.num.natAbs % p.den) := by
  have h := p.reduced
  unfold Nat.Coprime at h ⊢
  rw [Nat.gcd_comm, ← Nat.gcd_rec, Nat.gcd_comm]
  exact h
theorem dec_val {A b k : Nat} (hb : 0 < b) (h : A % b * 10 ^ k % b = 0) : (A / b * 10 ^ k + A % b * 10 ^ k / b) * b = A * 10 ^ k := by
  have e1 := Nat.div_add_mod A b
  have e2 := Nat.div_add_mod (A % b * 10 ^ k) b
  rw [h, Nat.add_zero] at e2
  rw [Nat.add_mul, Nat.mul_comm (A % b * 10 ^ k / b) b, e2, Nat.mul_right_comm, ← Nat.add_mul, Nat.mul_comm (A / b) b, e1]
theorem dec_last {p : Rat} (h : TF p.den) (h1 : p.den ≠ 1) : (p.num.natAbs % p.den * 10 ^ plc p.den / p.den) % 10 ≠ 0 := fun z => by
  have hb := p.den_pos
  have c := dec_cop p
  have h0 : p.num.natAbs % p.den * 10 ^ plc p.den % p.den = 0 := (plc_dvd h c).mpr (Nat.le_refl _)
  have hk : plc p.den ≠ 0 := fun e => h1 ((plc_zero h).mp e)
  obtain ⟨k, ek⟩ : ∃ k, plc p.den = k + 1 := ⟨plc p.den - 1, by omega⟩
  rw [ek] at z h0
  have e2 := Nat.div_add_mod (p.num.natAbs % p.den * 10 ^ (k + 1)) p.den
  rw [h0, Nat.add_zero] at e2
  have e3 : p.num.natAbs % p.den * 10 ^ k % p.den = 0 := by
    refine Nat.mod_eq_zero_of_dvd ⟨p.num.natAbs % p.den * 10 ^ (k + 1) / p.den / 10, ?_⟩
    have e4 : p.num.natAbs % p.den * 10 ^ (k + 1) / p.den = 10 * (p.num.natAbs % p.den * 10 ^ (k + 1) / p.den / 10) := by omega
    have e5 : p.num.natAbs % p.den * 10 ^ (k + 1) = 10 * (p.num.natAbs % p.den * 10 ^ k) := by
      rw [Nat.pow_succ, ← Nat.mul_assoc, Nat.mul_comm 10]
    generalize p.num.natAbs % p.den * 10 ^ (k + 1) / p.den / 10 = u at e4 ⊢
    rw [e4, e5, Nat.mul_left_comm] at e2
    omega
  have := (plc_dvd h c).mp e3
  omega
theorem rest_lt {A b k : Nat} (hb : 0 < b) : A % b * 10 ^ k / b < 10 ^ k := by
  rw [Nat.div_lt_iff_lt_mul hb, Nat.mul_comm (10 ^ k)]
  exact Nat.mul_lt_mul_of_pos_right (Nat.mod_lt A hb) (Nat.pow_pos (by decide))
theorem tell_text (p : Rat) : tell (textL p) = fr p := by
  have hb := p.den_pos
  have e0 : fr p = .tup [.int ((if p.num < 0 then -1 else 1) * (p.num.natAbs : Int)), .int p.den] := by
    unfold fr
    rw [← num_abs p]
  unfold textL
  by_cases h : TF p.den
  · rw [if_pos h]
    by_cases h1 : p.den = 1
    · rw [if_pos h1, e0, h1]
      refine tell_whole (sg_num p) fun hne => ?_
      by_cases z : p.num < 0
      · omega
      · rw [if_neg z] at hne
        exact absurd rfl hne
    · rw [if_neg h1]
      have hk : plc p.den ≠ 0 := fun e => h1 ((plc_zero h).mp e)
      have c := dec_cop p
      have h0 : p.num.natAbs % p.den * 10 ^ plc p.den % p.den = 0 := (plc_dvd h c).mpr (Nat.le_refl _)
      have := tell_dec (sg_num p) (W := p.num.natAbs / p.den) (k := plc p.den) (r := p.num.natAbs % p.den * 10 ^ plc p.den / p.den) (by omega) (rest_lt hb) (dec_last h h1)
      rw [List.append_assoc] at this
      rw [this]
      have v := dec_val (A := p.num.natAbs) hb h0
      congr 1
      have tp := tenP_pos (plc p.den)
      have te : tenP (plc p.den) = ((10 ^ plc p.den : Nat) : Int) := by
        unfold tenP
        simp
      conv => rhs; rw [← rat_self p]
      unfold rat
      rw [Rat.divInt_eq_divInt_iff (by omega) (by omega), te]
      have v2 : (((p.num.natAbs / p.den : Nat) : Int) * ((10 ^ plc p.den : Nat) : Int) + ((p.num.natAbs % p.den * 10 ^ plc p.den / p.den : Nat) : Int)) * (p.den : Int) = (p.num.natAbs : Int) * ((10 ^ plc p.den : Nat) : Int) := by
        rw [← Int.natCast_mul, ← Int.natCast_add, ← Int.natCast_mul, v, Int.natCast_mul]
      rw [Int.mul_assoc, v2, ← Int.mul_assoc, ← num_abs p]
  · rw [if_neg h, ← List.append_assoc]
    have hA : 0 < p.num.natAbs := by
      rcases Nat.eq_zero_or_pos p.num.natAbs with z | z
      · exfalso
        have r := p.reduced
        unfold Nat.Coprime at r
        rw [z, Nat.gcd_zero_left] at r
        exact h (by rw [r]; exact TF_one)
      · exact z
    rw [e0]
    refine tell_quo (sg_num p) hA hb ?_ h
    exact p.reduced
/-! ### sizes, signs -/
def SzT (p : Rat) : Prop := p.num.natAbs < 2 ^ 640 ∧ p.den < 2 ^ 200
theorem szT_rat {a b : Int} (hb : b ≠ 0) (h1 : a.natAbs < 2 ^ 640) (h2 : b.natAbs < 2 ^ 200) : SzT (rat a b) := by
  have hm : (2 : Nat) ^ 200 ≤ 2 ^ 640 := Nat.pow_le_pow_right (by decide) (by decide)
  refine ⟨(sz_rat hb h1 (Nat.lt_of_lt_of_le h2 hm)).1, ?_⟩
  unfold rat
  rw [Rat.den_divInt, if_neg hb]
  exact Nat.lt_of_le_of_lt (Nat.div_le_self _ _) h2
theorem szT_of {p : Rat} {n : Nat} (h : Sz n p) (hn : n ≤ 200) : SzT p :=
  ⟨Nat.lt_of_lt_of_le h.1 (Nat.pow_le_pow_right (by decide) (by omega)), Nat.lt_of_lt_of_le h.2 (Nat.pow_le_pow_right (by decide) hn)⟩
theorem textL_sign {p : Rat} {c : Nat} (h : c ∈ textL p) : 45 ≤ c ∧ c ≤ 57 := by
  have d : ∀ n : Nat, c ∈ numL n → 45 ≤ c ∧ c ≤ 57 := fun n h => by
    have := numL_digits n c h
    omega
  unfold textL at h
  rcases List.mem_append.mp h with h | h
  · split at h
    · rw [List.mem_singleton.mp h]
      decide
    · cases h
  · split at h
    · split at h
      · exact d _ h
      · rcases List.mem_append.mp h with h | h
        · exact d _ h
        · rcases List.mem_cons.mp h with h | h
          · rw [h]
            decide
          · have := padL_digits _ _ c h
            omega
    · rcases List.mem_append.mp h with h | h
      · exact d _ h
      · rcases List.mem_cons.mp h with h | h
        · rw [h]
          decide
        · exact d _ h
theorem numL_193 {n : Nat} (h : n < 2 ^ 640) : (numL n).length ≤ 193 := numL_len (by decide) (Nat.lt_trans h (by decide +kernel))
theorem textL_len {p : Rat} (h : SzT p) : (textL p).length ≤ 397 := by
  have hd : p.den < 2 ^ 640 := Nat.lt_of_lt_of_le h.2 (Nat.pow_le_pow_right (by decide) (by decide))
  have h1 := numL_193 h.1
  have h2 := numL_193 hd
  have h3 := numL_193 (Nat.lt_of_le_of_lt (Nat.div_le_self p.num.natAbs p.den) h.1)
  have hs : (if p.num < 0 then [45] else []).length ≤ 1 := by
    split
    · exact Nat.le_refl 1
    · exact Nat.zero_le 1
  unfold textL
  generalize (if p.num < 0 then [45] else []) = sg at hs
  rw [List.length_append]
  by_cases ht : TF p.den
  · have h4 := plc_lt ht h.2
    rw [if_pos ht]
    by_cases hd1 : p.den = 1
    · rw [if_pos hd1]
      omega
    · rw [if_neg hd1, List.length_append, List.length_cons, padL_len]
      omega
  · rw [if_neg ht, List.length_append, List.length_cons]
    omega
theorem ok_text {p : Rat} (h : SzT p) : OkT (textOf p) := by
  refine ⟨strOk_iff.mpr fun c m => ?_, ?_⟩
  · have := textL_sign (p := p) m
    omega
  · show (textL p).length ≤ 400
    have := textL_len h
    omega
theorem read_text (p : Rat) : readD (.str (textOf p)) = fr p := tell_text p
/-! ### str of numbers -/
theorem tl_int (i : Int) : tl (Str.ofString (toString i)) = (if i < 0 then [45] else []) ++ numL i.natAbs := by
  cases i with
  | ofNat n =>
    rw [if_neg (by simp)]
    exact tl_num n
  | negSucc m =>
    rw [if_pos (by omega)]
    have e : toString (Int.negSucc m) = "-" ++ Nat.repr (m + 1) := rfl
    have h := tl_num (m + 1)
    have e2 : toString ((m + 1 : Nat) : Int) = Nat.repr (m + 1) := rfl
    rw [e2, tl_ofString] at h
    rw [e, tl_ofString, String.toList_append, List.map_append, h]
    rfl
theorem tl_nat (n : Nat) : tl (Str.ofString (toString (n : Int))) = numL n := tl_num n
theorem len_num {n : Nat} {k : Nat} (hk : 0 < k) (h : n < 10 ^ k) : (Str.ofString (toString (n : Int))).length ≤ k := by
  rw [len_tl, tl_nat]
  exact numL_len hk h
theorem len_int {i : Int} (h : i.natAbs < 2 ^ 640) : (Str.ofString (toString i)).length ≤ 194 := by
  have := numL_193 h
  rw [len_tl, tl_int, List.length_append]
  split
  · rw [List.length_singleton]
    omega
  · rw [List.length_nil]
    omega
/-! ### the program's sum, and long division -/
theorem frac_split {A b k f : Nat} (hf : 0 < f) (e : 10 ^ k = b * f) : A * f / 10 ^ k = A / b ∧ A * f % 10 ^ k = A % b * f := by
  rw [e]
  exact ⟨Nat.mul_div_mul_right _ _ hf, Nat.mul_mod_mul_right _ _ _⟩
theorem ten_div {b k : Nat} (hb : 0 < b) (h : 10 ^ k % b = 0) : 10 ^ k = b * (10 ^ k / b) ∧ 0 < 10 ^ k / b := by
  have e := Nat.div_add_mod (10 ^ k) b
  rw [h, Nat.add_zero] at e
  refine ⟨e.symm, ?_⟩
  rcases Nat.eq_zero_or_pos (10 ^ k / b) with z | z
  · rw [z, Nat.mul_zero] at e
    have : 0 < 10 ^ k := Nat.pow_pos (by decide)
    omega
  · exact z
theorem rest_eq {R b k : Nat} (hb : 0 < b) (h : 10 ^ k % b = 0) : R * 10 ^ k / b = R * (10 ^ k / b) := by
  obtain ⟨e, _⟩ := ten_div hb h
  generalize 10 ^ k / b = f at e
  rw [e, ← Nat.mul_assoc, Nat.mul_right_comm, Nat.mul_div_cancel _ hb]
theorem ld_step (R b j : Nat) (hb : 0 < b) : R * 10 ^ (j + 1) / b = (R * 10 ^ j / b) * 10 + (R * 10 ^ j % b) * 10 / b ∧ R * 10 ^ (j + 1) % b = (R * 10 ^ j % b) * 10 % b ∧ (R * 10 ^ j % b) * 10 / b < 10 := by
  have e := Nat.div_add_mod (R * 10 ^ j) b
  have hl := Nat.mod_lt (R * 10 ^ j) hb
  generalize R * 10 ^ j / b = q at *
  generalize R * 10 ^ j % b = r at *
  have e2 : R * 10 ^ (j + 1) = b * (q * 10) + r * 10 := by
    rw [Nat.pow_succ, ← Nat.mul_assoc, ← e, Nat.add_mul, Nat.mul_assoc]
  rw [e2]
  refine ⟨Nat.mul_add_div hb _ _, Nat.mul_add_mod _ _ _, ?_⟩
  rw [Nat.div_lt_iff_lt_mul hb]
  omega
theorem plc_ten {b : Nat} (h : TF b) : 10 ^ plc b % b = 0 := by
  have := (plc_dvd (m := plc b) (R := 1) h (Nat.coprime_one_right b)).mpr (Nat.le_refl _)
  rw [Nat.one_mul] at this
  exact this
theorem int_log {i : Int} (h : i.natAbs < 2 ^ 640) : i.natAbs.log2 < 1920 := log_lt h (by decide)
theorem s_s1 : (Str.ofString "/").length = 1 := by decide +kernel
theorem s_p1 : (Str.ofString ".").length = 1 := by decide +kernel
theorem tl_s : TL.tl (Str.ofString "/") = [47] := by decide +kernel
theorem tl_p : TL.tl (Str.ofString ".") = [46] := by decide +kernel
end DL
set_option linter.all false
set_option autoImplicit false
set_option maxHeartbeats 4000000
set_option maxRecDepth 100000
namespace DL
open PySem PySem.Spec PyProof.Rows L2
def topS (i : Nat) : Stmt := PySem.Challenge.pw_fastestalong_k02_texts_of_fractions.main.body.getD i (.Pass ⟨0, 0, 0, 0⟩)
abbrev s__law_spring : Stmt := topS 19
abbrev s__law_drop : Stmt := topS 20
abbrev s__law_low : Stmt := topS 23
abbrev s__law_number : Stmt := topS 28
abbrev s__law_drawn : Stmt := topS 31
abbrev s__law_text : Stmt := topS 30
abbrev s__law_kinds : Stmt := topS 21
abbrev s__law_alike : Stmt := topS 22
abbrev s_is_integer : Stmt := topS 5
abbrev s_common : Stmt := topS 6
abbrev s_is_fraction : Stmt := topS 10
abbrev s_check_fractions : Stmt := topS 11
abbrev s_places_of : Stmt := topS 12
abbrev s_fraction_text : Stmt := topS 13
abbrev s_digits_end : Stmt := topS 14
abbrev s_lowest : Stmt := topS 9
abbrev s_decimal_told : Stmt := topS 15
abbrev s_quotient_told : Stmt := topS 16
abbrev s_fraction_told : Stmt := topS 17
abbrev s_law : Stmt := topS 32
structure Bn (mg : Str → Option Value) : Prop where
  abs : mg "abs" = none
  all : mg "all" = none
  bool : mg "bool" = none
  int : mg "int" = none
  isinstance : mg "isinstance" = none
  len : mg "len" = none
  list : mg "list" = none
  range : mg "range" = none
  str : mg "str" = none
  tuple : mg "tuple" = none
def c_DIGITS : D := (.str "0123456789")
structure Cn (K : PySem.W.Frag) (mg : Str → Option Value) : Prop where
  DIGITS : Gc K mg "DIGITS" c_DIGITS
def errL : List Str := ["InvalidText"]
structure Xn (P : Program) (K : PySem.W.Frag) (mg : Str → Option Value) : Prop where
  InvalidText : Er1 P K mg "InvalidText" "index"
  subs : ErS K mg errL
abbrev kws__law_spring : List (List Str × List Nat) := []
abbrev kws__law_drop : List (List Str × List Nat) := []
abbrev kws__law_low : List (List Str × List Nat) := []
abbrev kws__law_number : List (List Str × List Nat) := []
abbrev kws__law_drawn : List (List Str × List Nat) := []
abbrev kws__law_text : List (List Str × List Nat) := []
abbrev kws__law_kinds : List (List Str × List Nat) := []
abbrev kws__law_alike : List (List Str × List Nat) := []
abbrev kws_is_integer : List (List Str × List Nat) := []
abbrev kws_common : List (List Str × List Nat) := []
abbrev kws_is_fraction : List (List Str × List Nat) := []
abbrev kws_check_fractions : List (List Str × List Nat) := []
abbrev kws_places_of : List (List Str × List Nat) := []
abbrev kws_fraction_text : List (List Str × List Nat) := [(["number"], [0])]
abbrev kws_digits_end : List (List Str × List Nat) := []
abbrev kws_lowest : List (List Str × List Nat) := []
abbrev kws_decimal_told : List (List Str × List Nat) := []
abbrev kws_quotient_told : List (List Str × List Nat) := []
abbrev kws_fraction_told : List (List Str × List Nat) := [(["text"], [0])]
abbrev kws_law : List (List Str × List Nat) := []
end DL
set_option linter.all false
set_option autoImplicit false
set_option maxHeartbeats 4000000
set_option maxRecDepth 100000
set_option exponentiation.threshold 20000
namespace DL
open PySem PySem.Spec PyProof.Rows L2

abbrev spec__law_drop : Spec := spec_draw
abbrev spec__law_low : Spec := sp_low
theorem len__law_low : ∀ ss Q Xe, spec__law_low ss Q Xe → ss.length = 2 := len_S2
def spec__law_number : Spec := G1 fun Q => ∀ q : Rat, Sz 22 q → Q (.d (fr q))
theorem len__law_number : ∀ ss Q Xe, spec__law_number ss Q Xe → ss.length = 1 := len_G1
def spec__law_drawn : Spec := G1 fun Q => ∀ p : Rat, SzT p → Q (.d (fr p))
theorem len__law_drawn : ∀ ss Q Xe, spec__law_drawn ss Q Xe → ss.length = 1 := len_G1
def spec__law_text : Spec := S1 fun x Q => ∃ p, x = fr p ∧ SzT p ∧ Q (.d (.str (textOf p)))
theorem len__law_text : ∀ ss Q Xe, spec__law_text ss Q Xe → ss.length = 1 := len_S1
def kinds (d : D) : D := .lst [.bl (tyOf d == some "bool"), .bl (tyOf d == some "int" || tyOf d == some "bool"), .bl (tyOf d == some "str"), .bl (tyOf d == some "tuple"), .bl (tyOf d == some "list"), .bl (tyOf d == some "NoneType")]
def spec__law_kinds : Spec := S1 fun d Q => (tyOf d).isSome = true ∧ Q (.d (kinds d))
theorem len__law_kinds : ∀ ss Q Xe, spec__law_kinds ss Q Xe → ss.length = 1 := len_S1
def spec__law_alike (n : Nat) : Spec := S2 fun x y Q => x = y ∧ short n x = true ∧ Q (.d (.bl true))
theorem len__law_alike (n : Nat) : ∀ ss Q Xe, spec__law_alike n ss Q Xe → ss.length = 2 := len_S2
abbrev spec_is_integer : Spec := sp_isint
theorem len_is_integer : ∀ ss Q Xe, spec_is_integer ss Q Xe → ss.length = 1 := len_S1
abbrev spec_common : Spec := sp_gcd
theorem len_common : ∀ ss Q Xe, spec_common ss Q Xe → ss.length = 2 := len_S2
abbrev spec_is_fraction : Spec := sp_isfr
theorem len_is_fraction : ∀ ss Q Xe, spec_is_fraction ss Q Xe → ss.length = 1 := len_S1
def spec_check_fractions : Spec := S1 fun x Q => ∃ ds : List D, x = .tup ds ∧ ds.length ≤ 1000 ∧ (∀ d ∈ ds, plain 40 d = true) ∧ ds.all isFr = true ∧ Q (.d .non)
theorem len_check_fractions : ∀ ss Q Xe, spec_check_fractions ss Q Xe → ss.length = 1 := len_S1
def spec_places_of : Spec := S1 fun x Q => ∃ b : Nat, x = .int b ∧ 1 ≤ b ∧ b < 2 ^ 1600 ∧ (¬ TF b → Q (.d .non)) ∧ ∀ i j : Nat, b = 2 ^ i * 5 ^ j → Q (.d (.int (max i j : Nat)))
theorem len_places_of : ∀ ss Q Xe, spec_places_of ss Q Xe → ss.length = 1 := len_S1
def spec_fraction_text : Spec := S1 fun x Q => ∃ p, x = fr p ∧ SzT p ∧ Q (.d (.str (textOf p)))
theorem len_fraction_text : ∀ ss Q Xe, spec_fraction_text ss Q Xe → ss.length = 1 := len_S1
def spec_digits_end : Spec := fun ss Q _ => ∃ (z : Str) (a : Nat), ss = [.d (.str z), .d (.int a)] ∧ OkT z ∧ a ≤ z.cps.toList.length ∧ Q (.d (.int (digEnd z.cps.toList a : Nat)))
theorem len_digits_end : ∀ ss Q Xe, spec_digits_end ss Q Xe → ss.length = 2 := by
  rintro ss Q Xe ⟨z, a, rfl, _⟩
  rfl
abbrev spec_lowest : Spec := sp_low
theorem len_lowest : ∀ ss Q Xe, spec_lowest ss Q Xe → ss.length = 2 := len_S2
def spec_decimal_told : Spec := fun ss Q Xe => ∃ (z : Str) (s : Int) (a e : Nat), ss = [.d (.str z), .d (.int a), .d (.int e)] ∧ OkT z ∧ Hd z.cps.toList s a ∧ Wh z.cps.toList a e ∧ z.cps.toList[e]? = some 46 ∧ TellQ z.cps.toList Q Xe
theorem len_decimal_told : ∀ ss Q Xe, spec_decimal_told ss Q Xe → ss.length = 3 := by
  rintro ss Q Xe ⟨z, s, a, e, rfl, _⟩
  rfl
def spec_quotient_told : Spec := fun ss Q Xe => ∃ (z : Str) (s : Int) (a e : Nat), ss = [.d (.str z), .d (.int a), .d (.int e)] ∧ OkT z ∧ Hd z.cps.toList s a ∧ Wh z.cps.toList a e ∧ z.cps.toList[a]? ≠ some 48 ∧ z.cps.toList[e]? = some 47 ∧ TellQ z.cps.toList Q Xe
theorem len_quotient_told : ∀ ss Q Xe, spec_quotient_told ss Q Xe → ss.length = 3 := by
  rintro ss Q Xe ⟨z, s, a, e, rfl, _⟩
  rfl
def spec_fraction_told : Spec := fun ss Q Xe => ∃ x : D, ss = [.d x] ∧ (((tyOf x).isSome = true ∧ (∀ z, x ≠ .str z) ∧ Xe ⟨"InvalidText", some ("index", .int 0)⟩) ∨ ∃ z, x = .str z ∧ OkT z ∧ TellQ z.cps.toList Q Xe)
theorem len_fraction_told : ∀ ss Q Xe, spec_fraction_told ss Q Xe → ss.length = 1 := by
  rintro ss Q Xe ⟨x, rfl, _⟩
  rfl
end DL
set_option linter.all false
set_option autoImplicit false
set_option maxHeartbeats 4000000
set_option maxRecDepth 100000
namespace DL
open PySem PySem.Spec PyProof.Rows L2
def w__law_low_2 : SW := (sSeq (sAsg (wIf (tB (wBin bGt (wVar 1) (wC (.int 0)))) (wVar 2) (wUn bNeg (wVar 2))) (gNm 2))
  (sRet (wTup (wCons (wBin bFdivN (wVar 0) (wVar 2)) (wCons (wBin bFdivN (wVar 1) (wVar 2)) wNil)))))
def w__law_low_1 : SW := (sSeq (sWhile (tB (wBin bGt (wVar 3) (wC (.int 0))))
  (sPar [2, 3] (wCons (wVar 3) (wCons (wBin bMod (wCB bInt (wCons (wVar 2) wNil)) (wVar 3)) wNil))))
  w__law_low_2)
def w__law_low : SW := (sSeq (sPar [2, 3] (wCons (wCB bAbs (wCons (wVar 0) wNil)) (wCons (wCB bAbs (wCons (wVar 1) wNil)) wNil)))
  w__law_low_1)

def w__law_number_3 : SW := (sSeq (sIf (tB (wBin bLt (wVar 1) (wC (.int 5))))
  (sRet (wCall spec__law_low (wCons (wBin bSub (wCall spec__law_drop (wConsS 0 (wCons (wC (.int 41)) wNil))) (wC (.int 20))) (wCons (wBin bAdd (wC (.int 1)) (wCall spec__law_drop (wConsS 0 (wCons (wC (.int 12)) wNil)))) wNil))))
  sNext)
  (sRet (wCall spec__law_low (wCons (wBin bSub (wCall spec__law_drop (wConsS 0 (wCons (wC (.int 2000001)) wNil))) (wC (.int 1000000))) (wCons (wBin bAdd (wC (.int 1)) (wCall spec__law_drop (wConsS 0 (wCons (wC (.int 1000)) wNil)))) wNil)))))
def w__law_number_2 : SW := (sSeq (sIf (tB (wBin bLt (wVar 1) (wC (.int 3))))
  (sRet (wCall spec__law_low (wCons (wBin bSub (wCall spec__law_drop (wConsS 0 (wCons (wC (.int 2000001)) wNil))) (wC (.int 1000000))) (wCons (wBin bIx (wLst (wCons (wC (.int 100)) (wCons (wC (.int 1000)) (wCons (wC (.int 8)) (wCons (wC (.int 20)) wNil))))) (wCall spec__law_drop (wConsS 0 (wCons (wC (.int 4)) wNil)))) wNil))))
  sNext)
  w__law_number_3)
def w__law_number_1 : SW := (sSeq (sIf (tB (wBin bEq (wVar 1) (wC (.int 0))))
  (sRet (wTup (wCons (wBin bSub (wCall spec__law_drop (wConsS 0 (wCons (wC (.int 2001)) wNil))) (wC (.int 1000))) (wCons (wC (.int 1)) wNil))))
  sNext)
  w__law_number_2)
def w__law_number : SW := (sSeq (sAsg (wCall spec__law_drop (wConsS 0 (wCons (wC (.int 6)) wNil))) (gNm 1))
  w__law_number_1)

def w__law_drawn_L4 : SW := (sSeq (sFor (iRange1 (wC (.int 2))) (gNm 3)
  (sAsg (wBin bMul (wVar 2) (wBin bPow (wC (.int 10)) (wC (.int 63)))) (gNm 2)))
  (sRet (wCall spec__law_low (wCons (wBin bSub (wCall spec__law_drop (wConsS 0 (wCons (wVar 2) wNil))) (wBin bFdivN (wVar 2) (wC (.int 2)))) (wCons (wBin bAdd (wC (.int 1)) (wCall spec__law_drop (wConsS 0 (wCons (wBin bIx (wLst (wCons (wBin bPow (wC (.int 10)) (wC (.int 60))) (wCons (wC (.int 1)) wNil))) (wCall spec__law_drop (wConsS 0 (wCons (wC (.int 2)) wNil)))) wNil)))) wNil)))))
def w__law_drawn_L9 : SW := (sSeq (sFor (iRange1 (wCall spec__law_drop (wConsS 0 (wCons (wC (.int 40)) wNil)))) (gNm 3)
  (sAsg (wBin bMul (wVar 4) (wBin bIx (wLst (wCons (wC (.int 2)) (wCons (wC (.int 5)) (wCons (wC (.int 10)) wNil)))) (wCall spec__law_drop (wConsS 0 (wCons (wC (.int 3)) wNil))))) (gNm 4)))
  (sRet (wCall spec__law_low (wCons (wBin bSub (wCall spec__law_drop (wConsS 0 (wCons (wBin bPow (wC (.int 10)) (wC (.int 50))) wNil))) (wBin bPow (wC (.int 10)) (wC (.int 49)))) (wCons (wVar 4) wNil)))))
def w__law_drawn_3 : SW := (sSeq (sIf (tB (wBin bEq (wVar 1) (wC (.int 1))))
  (sRet (wCall spec__law_low (wCons (wBin bSub (wCall spec__law_drop (wConsS 0 (wCons (wBin bPow (wC (.int 10)) (wC (.int 40))) wNil))) (wBin bPow (wC (.int 10)) (wC (.int 39)))) (wCons (wBin bAdd (wC (.int 1)) (wCall spec__law_drop (wConsS 0 (wCons (wBin bPow (wC (.int 10)) (wC (.int 20))) wNil)))) wNil))))
  sNext)
  (sRet (wCall spec__law_number (wConsS 0 wNil))))
def w__law_drawn_2 : SW := (sSeq (sIf (tB (wBin bEq (wVar 1) (wC (.int 0))))
  (sSeq (sAsg (wC (.int 1)) (gNm 4))
  w__law_drawn_L9)
  sNext)
  w__law_drawn_3)
def w__law_drawn_1 : SW := (sSeq (sIf (tB (wBin bEq (wVar 1) (wC (.int 5))))
  (sSeq (sAsg (wBin bPow (wC (.int 10)) (wC (.int 64))) (gNm 2))
  w__law_drawn_L4)
  sNext)
  w__law_drawn_2)
def w__law_drawn : SW := (sSeq (sAsg (wCall spec__law_drop (wConsS 0 (wCons (wC (.int 6)) wNil))) (gNm 1))
  w__law_drawn_1)

def w__law_text_6 : SW := (sSeq (sWhile (tB (wBin bGt (wVar 7) (wC (.int 0))))
  (sPar [6, 7] (wCons (wBin bAdd (wVar 6) (wCB bStr (wCons (wBin bFdivN (wBin bMul (wVar 7) (wC (.int 10))) (wVar 3)) wNil))) (wCons (wBin bMod (wCB bInt (wCons (wBin bMul (wVar 7) (wC (.int 10))) wNil)) (wVar 3)) wNil))))
  (sRet (wVar 6)))
def w__law_text_5 : SW := (sSeq (sIf (tB (wBin bGt (wVar 7) (wC (.int 0))))
  (sAsg (wBin bAdd (wVar 6) (wC (.str "."))) (gNm 6))
  sNext)
  w__law_text_6)
def w__law_text_4 : SW := (sSeq (sPar [6, 7] (wCons (wBin bAdd (wVar 4) (wCB bStr (wCons (wBin bFdivN (wVar 2) (wVar 3)) wNil))) (wCons (wBin bMod (wCB bInt (wCons (wVar 2) wNil)) (wVar 3)) wNil)))
  w__law_text_5)
def w__law_text_3 : SW := (sSeq (sIf (tB (wBin bGt (wVar 5) (wC (.int 1))))
  (sRet (wBin bAdd (wBin bAdd (wBin bAdd (wVar 4) (wCB bStr (wCons (wVar 2) wNil))) (wC (.str "/"))) (wCB bStr (wCons (wVar 3) wNil))))
  sNext)
  w__law_text_4)
def w__law_text_2 : SW := (sSeq (sFor (iRange1 (wC (.int 400))) (gNm 1)
  (sAsg (wIf (tB (wBin bEq (wBin bMod (wCB bInt (wCons (wVar 5) wNil)) (wC (.int 2))) (wC (.int 0)))) (wBin bFdivN (wVar 5) (wC (.int 2))) (wIf (tB (wBin bEq (wBin bMod (wCB bInt (wCons (wVar 5) wNil)) (wC (.int 5))) (wC (.int 0)))) (wBin bFdivN (wVar 5) (wC (.int 5))) (wVar 5))) (gNm 5)))
  w__law_text_3)
def w__law_text_1 : SW := (sSeq (sPar [4, 5] (wCons (wBin bIx (wLst (wCons (wC (.str "")) (wCons (wC (.str "-")) wNil))) (wCB bInt (wCons (wBin bLt (wBin bIx (wVar 0) (wC (.int 0))) (wC (.int 0))) wNil))) (wCons (wVar 3) wNil)))
  w__law_text_2)
def w__law_text : SW := (sSeq (sPar [2, 3] (wCons (wCB bAbs (wCons (wBin bIx (wVar 0) (wC (.int 0))) wNil)) (wCons (wBin bIx (wVar 0) (wC (.int 1))) wNil)))
  w__law_text_1)

def w__law_kinds : SW := (sSeq (sAsg (wLst (wCons (wUn (bIsi "bool") (wVar 0)) (wCons (wUn (bIsi "int") (wVar 0)) (wCons (wUn (bIsi "str") (wVar 0)) wNil)))) (gNm 1))
  (sRet (wBin bAdd (wVar 1) (wLst (wCons (wUn (bIsi "tuple") (wVar 0)) (wCons (wUn (bIsi "list") (wVar 0)) (wCons (wUn bIsN (wVar 0)) wNil)))))))

def w__law_alike (n : Nat) : SW := (sSeq (sIf (tB (wBin bNe (wCall spec__law_kinds (wCons (wVar 0) wNil)) (wCall spec__law_kinds (wCons (wVar 1) wNil))))
  (sRet (wC (.bl false)))
  sNext)
  (sSeq (sIf (tB (wUn (bIsi2 "tuple" "list") (wVar 1)))
  (sRet (wAnd (wBin bEq (wCB bLen (wCons (wVar 0) wNil)) (wCB bLen (wCons (wVar 1) wNil))) (wCB bAll (wCons (wOfL (lComp (iRange1 (wCB bLen (wCons (wVar 1) wNil))) (gNm 2) tYesW (wCall (spec__law_alike n) (wCons (wBin bIx (wVar 0) (wVar 2)) (wCons (wBin bIx (wVar 1) (wVar 2)) wNil))) [2])) wNil))))
  sNext)
  (sRet (wBin bEq (wVar 0) (wVar 1)))))

def w_is_integer : SW := (sRet (wAnd (wUn (bIsi "int") (wVar 0)) (wNot (wUn (bIsi "bool") (wVar 0)))))

def w_common : SW := (sSeq (sWhile (tB (wBin bGt (wVar 1) (wC (.int 0))))
  (sPar [0, 1] (wCons (wVar 1) (wCons (wBin bMod (wVar 0) (wVar 1)) wNil))))
  (sRet (wVar 0)))

def w_is_fraction : SW := (sSeq (sIf (tOrW (tNotW (tB (wUn (bIsi "tuple") (wVar 0)))) (tOrW (tB (wBin bNe (wCB bLen (wCons (wVar 0) wNil)) (wC (.int 2)))) (tOrW (tNotW (tB (wCall spec_is_integer (wCons (wBin bIx (wVar 0) (wC (.int 0))) wNil)))) (tNotW (tB (wCall spec_is_integer (wCons (wBin bIx (wVar 0) (wC (.int 1))) wNil)))))))
  (sRet (wC (.bl false)))
  sNext)
  (sRet (wAnd (wBin bGt (wBin bIx (wVar 0) (wC (.int 1))) (wC (.int 0))) (wBin bEq (wCall spec_common (wCons (wCB bAbs (wCons (wBin bIx (wVar 0) (wC (.int 0))) wNil)) (wCons (wBin bIx (wVar 0) (wC (.int 1))) wNil))) (wC (.int 1))))))

def w_check_fractions : SW := (sIf (tNotW (tB (wCB bAll (wCons (wOfL (lComp (iSeq (wVar 0)) (gNm 1) tYesW (wCall spec_is_fraction (wCons (wVar 1) wNil)) [1])) wNil))))
  sNever
  sNext)

def w_places_of_2 : SW := (sSeq (sWhile (tAndW (tB (wBin bGt (wVar 2) (wC (.int 1)))) (tOrW (tB (wBin bEq (wBin bMod (wVar 2) (wC (.int 2))) (wC (.int 0)))) (tB (wBin bEq (wBin bMod (wVar 2) (wC (.int 5))) (wC (.int 0))))))
  (sSeq (sFor (iSeq (wTup (wCons (wC (.int 2)) (wCons (wC (.int 5)) wNil)))) (gNm 3)
  (sIf (tB (wBin bEq (wBin bMod (wVar 2) (wVar 3)) (wC (.int 0))))
  (sAsg (wBin bFdivN (wVar 2) (wVar 3)) (gNm 2))
  sNext))
  (sAugI 1 (fun i j => i + j) (wC (.int 1)))))
  (sRet (wIf (tB (wBin bEq (wVar 2) (wC (.int 1)))) (wVar 1) (wC .non))))
def w_places_of_1 : SW := (sSeq (sAsg (wVar 0) (gNm 2))
  w_places_of_2)
def w_places_of : SW := (sSeq (sAsg (wC (.int 0)) (gNm 1))
  w_places_of_1)

def w_fraction_text_6 : SW := (sSeq (sPar [6, 7] (wCons (wBin bFdivN (wBin bMul (wCB bAbs (wCons (wVar 4) wNil)) (wBin bFdivN (wVar 2) (wVar 5))) (wVar 2)) (wCons (wBin bMod (wBin bMul (wCB bAbs (wCons (wVar 4) wNil)) (wBin bFdivN (wVar 2) (wVar 5))) (wVar 2)) wNil)))
  (sRet (wBin bAdd (wBin bAdd (wBin bAdd (wIf (tB (wBin bLt (wVar 4) (wC (.int 0)))) (wC (.str "-")) (wC (.str ""))) (wCB bStr (wCons (wVar 6) wNil))) (wC (.str "."))) (wSl (wCB bStr (wCons (wBin bAdd (wVar 2) (wVar 7)) wNil)) (oSome (wC (.int 1))) oNone))))
def w_fraction_text_5 : SW := (sSeq (sFor (iRange1 (wVar 1)) (gNm 3)
  (sAsg (wBin bMul (wVar 2) (wC (.int 10))) (gNm 2)))
  w_fraction_text_6)
def w_fraction_text_4 : SW := (sSeq (sAsg (wC (.int 1)) (gNm 2))
  w_fraction_text_5)
def w_fraction_text_3 : SW := (sSeq (sIf (tOrW (tB (wUn bIsN (wVar 1))) (tB (wBin bEq (wVar 1) (wC (.int 0)))))
  (sRet (wIf (tB (wBin bEq (wVar 1) (wC (.int 0)))) (wCB bStr (wCons (wVar 4) wNil)) (wBin bAdd (wBin bAdd (wCB bStr (wCons (wVar 4) wNil)) (wC (.str "/"))) (wCB bStr (wCons (wVar 5) wNil)))))
  sNext)
  w_fraction_text_4)
def w_fraction_text_2 : SW := (sSeq (sAsg (wCall spec_places_of (wCons (wVar 5) wNil)) (gNm 1))
  w_fraction_text_3)
def w_fraction_text_1 : SW := (sSeq (sAsg (wVar 0) (gTupW (gConsW (gNm 4) (gConsW (gNm 5) gNilW))))
  w_fraction_text_2)
def w_fraction_text : SW := (sSeq (sDrop (wCall spec_check_fractions (wCons (wTup (wCons (wVar 0) wNil)) wNil)))
  w_fraction_text_1)

def w_digits_end : SW := (sSeq (sWhile (tAndW (tB (wBin bNe (wSl (wVar 0) (oSome (wVar 1)) (oSome (wBin bAdd (wVar 1) (wC (.int 1))))) (wC (.str "")))) (tB (wBin bInC (wBin bIx (wVar 0) (wVar 1)) (wC c_DIGITS))))
  (sAugI 1 (fun i j => i + j) (wC (.int 1))))
  (sRet (wVar 1)))

def w_lowest : SW := (sSeq (sAsg (wBin bMul (wCall spec_common (wCons (wCB bAbs (wCons (wVar 0) wNil)) (wCons (wCB bAbs (wCons (wVar 1) wNil)) wNil))) (wIf (tB (wBin bGt (wVar 1) (wC (.int 0)))) (wC (.int 1)) (wUn bNeg (wC (.int 1))))) (gNm 2))
  (sRet (wTup (wCons (wBin bFdivN (wVar 0) (wVar 2)) (wCons (wBin bFdivN (wVar 1) (wVar 2)) wNil)))))

def w_decimal_told_4 : SW := (sSeq (sAsg (wBin bAdd (wBin bMul (wCB bIntS (wCons (wSl (wVar 0) (oSome (wVar 1)) (oSome (wVar 2))) wNil)) (wVar 4)) (wCB bIntS (wCons (wSl (wVar 0) (oSome (wBin bAdd (wVar 2) (wC (.int 1)))) (oSome (wVar 3))) wNil))) (gNm 6))
  (sRet (wCall spec_lowest (wCons (wIf (tB (wBin bEq (wVar 1) (wC (.int 1)))) (wUn bNeg (wVar 6)) (wVar 6)) (wCons (wVar 4) wNil)))))
def w_decimal_told_3 : SW := (sSeq (sFor (iRange1 (wBin bSub (wBin bSub (wVar 3) (wVar 2)) (wC (.int 1)))) (gNm 5)
  (sAsg (wBin bMul (wVar 4) (wC (.int 10))) (gNm 4)))
  w_decimal_told_4)
def w_decimal_told_2 : SW := (sSeq (sAsg (wC (.int 1)) (gNm 4))
  w_decimal_told_3)
def w_decimal_told_1 : SW := (sSeq (sIf (tOrW (tB (wBin bLt (wVar 3) (wCB bLen (wCons (wVar 0) wNil)))) (tOrW (tB (wBin bEq (wVar 3) (wBin bAdd (wVar 2) (wC (.int 1))))) (tB (wBin bEq (wBin bIx (wVar 0) (wBin bSub (wVar 3) (wC (.int 1)))) (wC (.str "0"))))))
  (sRaise1 "InvalidText" "index" (wVar 3))
  sNext)
  w_decimal_told_2)
def w_decimal_told : SW := (sSeq (sAsg (wCall spec_digits_end (wCons (wVar 0) (wCons (wBin bAdd (wVar 2) (wC (.int 1))) wNil))) (gNm 3))
  w_decimal_told_1)

def w_quotient_told_4 : SW := (sSeq (sIf (tOrW (tB (wBin bGt (wCall spec_common (wCons (wCB bAbs (wCons (wVar 4) wNil)) (wCons (wVar 5) wNil))) (wC (.int 1)))) (tB (wUn bNotN (wCall spec_places_of (wCons (wVar 5) wNil)))))
  (sRaise1 "InvalidText" "index" (wVar 3))
  sNext)
  (sRet (wTup (wCons (wVar 4) (wCons (wVar 5) wNil)))))
def w_quotient_told_3 : SW := (sSeq (sPar [4, 5] (wCons (wCB bIntS (wCons (wSl (wVar 0) oNone (oSome (wVar 2))) wNil)) (wCons (wCB bIntS (wCons (wSl (wVar 0) (oSome (wBin bAdd (wVar 2) (wC (.int 1)))) oNone) wNil)) wNil)))
  w_quotient_told_4)
def w_quotient_told_2 : SW := (sSeq (sIf (tOrW (tB (wBin bLt (wVar 3) (wCB bLen (wCons (wVar 0) wNil)))) (tB (wBin bEq (wVar 3) (wBin bAdd (wVar 2) (wC (.int 1))))))
  (sRaise1 "InvalidText" "index" (wVar 3))
  sNext)
  w_quotient_told_3)
def w_quotient_told_1 : SW := (sSeq (sAsg (wCall spec_digits_end (wCons (wVar 0) (wCons (wBin bAdd (wVar 2) (wC (.int 1))) wNil))) (gNm 3))
  w_quotient_told_2)
def w_quotient_told : SW := (sSeq (sIf (tB (wBin bEq (wSl (wVar 0) (oSome (wBin bAdd (wVar 2) (wC (.int 1)))) (oSome (wBin bAdd (wVar 2) (wC (.int 2))))) (wC (.str "0"))))
  (sRaise1 "InvalidText" "index" (wBin bAdd (wVar 2) (wC (.int 1))))
  sNext)
  w_quotient_told_1)

def w_fraction_told_6 : SW := (sSeq (sIf (tOrW (tB (wBin bLt (wVar 2) (wCB bLen (wCons (wVar 0) wNil)))) (tAndW (tB (wBin bEq (wVar 1) (wC (.int 1)))) (tB (wBin bEq (wBin bIx (wVar 0) (wVar 1)) (wC (.str "0"))))))
  (sRaise1 "InvalidText" "index" (wVar 2))
  sNext)
  (sRet (wTup (wCons (wCB bIntS (wCons (wVar 0) wNil)) (wCons (wC (.int 1)) wNil)))))
def w_fraction_told_5 : SW := (sSeq (sIf (tAndW (tB (wBin bEq (wSl (wVar 0) (oSome (wVar 2)) (oSome (wBin bAdd (wVar 2) (wC (.int 1))))) (wC (.str "/")))) (tB (wBin bNe (wBin bIx (wVar 0) (wVar 1)) (wC (.str "0")))))
  (sRet (wCall spec_quotient_told (wCons (wVar 0) (wCons (wVar 1) (wCons (wVar 2) wNil)))))
  sNext)
  w_fraction_told_6)
def w_fraction_told_4 : SW := (sSeq (sIf (tB (wBin bEq (wSl (wVar 0) (oSome (wVar 2)) (oSome (wBin bAdd (wVar 2) (wC (.int 1))))) (wC (.str "."))))
  (sRet (wCall spec_decimal_told (wCons (wVar 0) (wCons (wVar 1) (wCons (wVar 2) wNil)))))
  sNext)
  w_fraction_told_5)
def w_fraction_told_3 : SW := (sSeq (sIf (tB (wBin bEq (wVar 2) (wVar 1)))
  (sRaise1 "InvalidText" "index" (wVar 1))
  sNext)
  w_fraction_told_4)
def w_fraction_told_2 : SW := (sSeq (sAsg (wIf (tB (wBin bEq (wSl (wVar 0) (oSome (wVar 1)) (oSome (wBin bAdd (wVar 1) (wC (.int 1))))) (wC (.str "0")))) (wBin bAdd (wVar 1) (wC (.int 1))) (wCall spec_digits_end (wCons (wVar 0) (wCons (wVar 1) wNil)))) (gNm 2))
  w_fraction_told_3)
def w_fraction_told_1 : SW := (sSeq (sAsg (wCB bInt (wCons (wBin bEq (wSl (wVar 0) oNone (oSome (wC (.int 1)))) (wC (.str "-"))) wNil)) (gNm 1))
  w_fraction_told_2)
def w_fraction_told : SW := (sSeq (sIf (tNotW (tB (wUn (bIsi "str") (wVar 0))))
  (sRaise1 "InvalidText" "index" (wC (.int 0)))
  sNext)
  w_fraction_told_1)

def w_law_L8 : SW := (sSeq (sIf (tOrW (tNotW (tB (wCall (spec__law_alike 6) (wCons (wLst (wCons (wCall spec_fraction_told (wCons (wVar 5) wNil)) (wCons (wCallK spec_fraction_told [0] (wCons (wVar 5) wNil)) wNil))) (wCons (wLst (wCons (wVar 4) (wCons (wVar 4) wNil))) wNil))))) (tB (wBin bNe (wDicGet 2 (wVar 5) (wVar 4)) (wVar 4))))
  (sRet (wC (.bl false)))
  sNext)
  (sDicPut 2 (wVar 5) (wVar 4)))
def w_law_L6 : SW := (sSeq (sIf (tNotW (tB (wCall (spec__law_alike 6) (wCons (wLst (wCons (wCall spec_fraction_text (wCons (wVar 4) wNil)) (wCons (wCallK spec_fraction_text [0] (wCons (wVar 4) wNil)) wNil))) (wCons (wLst (wCons (wVar 5) (wCons (wVar 5) wNil))) wNil)))))
  (sRet (wC (.bl false)))
  sNext)
  w_law_L8)
def w_law_L5 : SW := (sSeq (sAsg (wCall spec__law_text (wCons (wVar 4) wNil)) (gNm 5))
  w_law_L6)
def w_law_2 : SW := (sSeq (sFor (iRange1 (wC (.int 12))) (gNm 3)
  (sSeq (sAsg (wCall spec__law_drawn (wConsS 1 wNil)) (gNm 4))
  w_law_L5))
  (sRet (wC (.bl true))))
def w_law : SW := (sSeq (sDicNew 2)
  w_law_2)
end DL
set_option linter.all false
set_option autoImplicit false
set_option maxHeartbeats 4000000
set_option maxRecDepth 100000
set_option exponentiation.threshold 20000
namespace DL
open PySem PySem.Spec PyProof.Rows L2
theorem vc__law_low : VC w__law_low 4 spec__law_low := by
  rintro ss Q Xe ⟨x, y, rfl, a, b, rfl, rfl, hb, hlog, q⟩
  refine low_loop (if a < 0 then -a else a) (if b < 0 then -b else b) (by split <;> omega) (by split <;> omega) fun r hr => ?_
  have e1 : (if a < 0 then -a else a) = (a.natAbs : Int) := by split <;> omega
  have e2 : (if b < 0 then -b else b) = (b.natAbs : Int) := by split <;> omega
  rw [e1, e2] at hr
  have eg : Int.gcd (a.natAbs : Int) (b.natAbs : Int) = Int.gcd a b := rfl
  rw [eg] at hr
  refine ite2 (fun z => ?_) fun z => ?_
  · have hp : 0 < b := of_decide_eq_true z
    exact low_fin hb hlog q _ (by rw [if_pos hp]; omega)
  · have hp : ¬ 0 < b := fun k => z (decide_eq_true k)
    exact low_fin hb hlog q _ (by rw [if_neg hp]; omega)
theorem vc__law_number : VC w__law_number 2 spec__law_number := by
  rintro ss Q Xe ⟨rfl, q⟩
  have two : (2 : Nat) ^ 22 = 4194304 := by decide
  refine ⟨6, rfl, by decide, by decide, fun way h0 h1 => ⟨rfl, rfl, ?_⟩⟩
  refine ite2 (fun z => ?_) fun z => ?_
  · refine ⟨2001, rfl, by decide, by decide, fun r r0 r1 => ⟨(show 2 ≤ 100000 by decide), ?_⟩⟩
    exact q ((r - 1000 : Int) : Rat) ⟨by show (r - 1000).natAbs < _; omega, (show 1 < 2 ^ 22 by decide)⟩
  · refine ite2 (fun z => ?_) fun z => ?_
    · refine ⟨2000001, rfl, by decide, by decide, fun r r0 r1 => ⟨(show 4 ≤ 100000 by decide), 4, rfl, by decide, by decide, fun k k0 k1 => ?_⟩⟩
      have key : ∀ b : Int, 0 < b → b ≤ 1000 → spec__law_low [.d (.int (r - 1000000)), .d (.int b)] (fun r => Q (.d r.toD)) Xe := fun b b0 b1 =>
        ⟨_, _, rfl, _, _, rfl, rfl, by omega, log_lt (n := 22) (by omega) (by decide), q _ (sz_rat (by omega) (by omega) (by omega))⟩
      have hk : k = 0 ∨ k = 1 ∨ k = 2 ∨ k = 3 := by omega
      rcases hk with rfl | rfl | rfl | rfl
      · exact key 100 (by decide) (by decide)
      · exact key 1000 (by decide) (by decide)
      · exact key 8 (by decide) (by decide)
      · exact key 20 (by decide) (by decide)
    · refine ite2 (fun z => ?_) fun z => ?_
      · refine ⟨41, rfl, by decide, by decide, fun r r0 r1 => ⟨12, rfl, by decide, by decide, fun k k0 k1 => ?_⟩⟩
        exact ⟨_, _, rfl, _, _, rfl, rfl, by omega, log_lt (n := 22) (by omega) (by decide), q _ (sz_rat (by omega) (by omega) (by omega))⟩
      · refine ⟨2000001, rfl, by decide, by decide, fun r r0 r1 => ⟨1000, rfl, by decide, by decide, fun k k0 k1 => ?_⟩⟩
        exact ⟨_, _, rfl, _, _, rfl, rfl, by omega, log_lt (n := 22) (by omega) (by decide), q _ (sz_rat (by omega) (by omega) (by omega))⟩
theorem low_q {Q : RV → Prop} {Xe : Exc → Prop} (q : ∀ p : Rat, SzT p → Q (.d (fr p))) {a b : Int} (hb : b ≠ 0) (h1 : a.natAbs < 2 ^ 640) (h2 : b.natAbs < 2 ^ 200) : spec__law_low [.d (.int a), .d (.int b)] (fun r => Q (.d r.toD)) Xe :=
  ⟨_, _, rfl, _, _, rfl, rfl, hb, log_lt (n := 200) h2 (by decide), q _ (szT_rat hb h1 h2)⟩
theorem vc__law_drawn_3 {Q : RV → Prop} {Xe : Exc → Prop} {w a b c : SV} (q : ∀ p : Rat, SzT p → Q (.d (fr p))) {way : Int} : w__law_drawn_3 (fun _ => Xe) { nx := fun _ => Q (.d .non), rt := Q } [.src, .d (.int way), a, b, c] := by
  refine ⟨rfl, rfl, ?_⟩
  have p40 : ((10 : Int) ^ 40).natAbs < 2 ^ 200 := by decide +kernel
  have p39 : (10 : Int) ^ 39 < 10 ^ 40 := by decide +kernel
  have p390 : (0 : Int) < 10 ^ 39 := by decide +kernel
  have p20 : ((10 : Int) ^ 20).natAbs < 2 ^ 80 := by decide +kernel
  have m1 : (2 : Nat) ^ 200 ≤ 2 ^ 640 := Nat.pow_le_pow_right (by decide) (by decide)
  have m2 : (2 : Nat) ^ 80 < 2 ^ 200 := Nat.pow_lt_pow_right (by decide) (by decide)
  refine ite2 (fun _ => ?_) fun _ => ?_
  · refine ⟨⟨by decide, by decide, by decide⟩, (10 : Int) ^ 40, rfl, by decide +kernel, log_lt (n := 200) p40 (by decide), fun r r0 r1 => ⟨⟨by decide, by decide, by decide⟩, ⟨by decide, by decide, by decide⟩, (10 : Int) ^ 20, rfl, by decide +kernel, log_lt (n := 80) p20 (by decide), fun k k0 k1 => ?_⟩⟩
    refine low_q (Xe := Xe) q ?_ ?_ ?_
    · show (1 : Int) + k ≠ 0
      omega
    · show (r - (10 : Int) ^ 39).natAbs < 2 ^ 640
      generalize (10 : Int) ^ 40 = A at *
      generalize (10 : Int) ^ 39 = B at *
      omega
    · show ((1 : Int) + k).natAbs < 2 ^ 200
      generalize (10 : Int) ^ 20 = A at *
      omega
  · exact ⟨rfl, fun p hp => q p (szT_of hp (by decide))⟩
theorem vc__law_drawn_L9 {Q : RV → Prop} {Xe : Exc → Prop} {w a b : SV} (q : ∀ p : Rat, SzT p → Q (.d (fr p))) : w__law_drawn_L9 (fun _ => Xe) { nx := fun _ => Q (.d .non), rt := Q } [.src, w, a, b, .d (.int 1)] := by
  refine ⟨40, rfl, by decide, by decide, fun n n0 n1 => ⟨⟨by omega, by omega⟩, ?_⟩⟩
  obtain ⟨m, hm, em⟩ : ∃ m : Nat, m ≤ 39 ∧ n.toNat = m := ⟨_, by omega, rfl⟩
  rw [em]
  refine forGo_range (lo := 0) (n := m) (fun k ρ => ∃ (x : Int) (b : SV), ρ = [.src, w, a, b, .d (.int x)] ∧ 0 < x ∧ x ≤ 10 ^ k) (fun k ρ hk h M hM => ?_) (fun ρ h => ?_) ⟨1, b, rfl, by decide, by decide⟩
  · obtain ⟨x, b, rfl, h0, h1⟩ := h
    refine ⟨(show 3 ≤ 100000 by decide), 3, rfl, by decide, by decide, fun t t0 t1 => ?_⟩
    obtain ⟨f, hf, f0, f1⟩ : ∃ f : Int, atI [D.int 2, .int 5, .int 10] t = some (.int f) ∧ 0 < f ∧ f ≤ 10 := by
      have ht : t = 0 ∨ t = 1 ∨ t = 2 := by omega
      rcases ht with rfl | rfl | rfl
      · exact ⟨2, atI0, by decide, by decide⟩
      · exact ⟨5, atI1, by decide, by decide⟩
      · exact ⟨10, atI2, by decide, by decide⟩
    refine mAt hf ⟨.inr (.inl (by omega)), hM _ ⟨x * f, _, rfl, Int.mul_pos h0 f0, ?_⟩⟩
    rw [Int.pow_succ]
    exact Int.mul_le_mul h1 f1 (by omega) (by omega)
  · obtain ⟨x, b, rfl, h0, h1⟩ := h
    have p50 : ((10 : Int) ^ 50).natAbs < 2 ^ 200 := by decide +kernel
    have p49 : (10 : Int) ^ 49 < 10 ^ 50 := by decide +kernel
    have p490 : (0 : Int) < 10 ^ 49 := by decide +kernel
    have m1 : (2 : Nat) ^ 200 ≤ 2 ^ 640 := Nat.pow_le_pow_right (by decide) (by decide)
    have p39 : (10 : Int) ^ m ≤ 10 ^ 39 := by
      have : (10 : Nat) ^ m ≤ 10 ^ 39 := Nat.pow_le_pow_right (by decide) hm
      exact_mod_cast this
    have p39b : (10 : Int) ^ 39 < 10 ^ 49 := by decide +kernel
    refine ⟨⟨by decide, by decide, by decide⟩, (10 : Int) ^ 50, rfl, by decide +kernel, log_lt (n := 200) p50 (by decide), fun r r0 r1 => ⟨⟨by decide, by decide, by decide⟩, ?_⟩⟩
    refine low_q (Xe := Xe) q ?_ ?_ ?_
    · omega
    · show (r - (10 : Int) ^ 49).natAbs < 2 ^ 640
      generalize (10 : Int) ^ 50 = A at *
      generalize (10 : Int) ^ 49 = B at *
      omega
    · generalize (10 : Int) ^ 50 = A at *
      generalize (10 : Int) ^ 49 = B at *
      generalize (10 : Int) ^ 39 = C at *
      omega
theorem vc__law_drawn_L4 {Q : RV → Prop} {Xe : Exc → Prop} {w b c : SV} (q : ∀ p : Rat, SzT p → Q (.d (fr p))) : w__law_drawn_L4 (fun _ => Xe) { nx := fun _ => Q (.d .non), rt := Q } [.src, w, .d (.int (10 ^ 64)), b, c] := by
  refine ⟨⟨by decide, by decide⟩, ?_⟩
  have pA : ((10 : Int) ^ 190).natAbs < 2 ^ 639 := by decide +kernel
  have p64 : (10 : Int) ^ 64 * (10 ^ 63) ^ 2 = 10 ^ 190 := by decide +kernel
  refine forGo_range (lo := 0) (n := 2) (fun k ρ => ∃ (b : SV), ρ = [.src, w, .d (.int ((10 : Int) ^ 64 * (10 ^ 63) ^ k)), b, c] ∧ k ≤ 2) (fun k ρ hk h M hM => ?_) (fun ρ h => ?_) ⟨b, by rw [Int.pow_zero, Int.mul_one], by decide⟩
  · obtain ⟨b, rfl, h0⟩ := h
    have hk2 : k = 0 ∨ k = 1 := by omega
    have fin : M [.src, w, .d (.int ((10 : Int) ^ 64 * (10 ^ 63) ^ k * 10 ^ 63)), .d (.int (0 + (k : Int))), c] := hM _ ⟨_, by rw [Int.pow_succ ((10 : Int) ^ 63) k, ← Int.mul_assoc], by omega⟩
    refine ⟨⟨by decide, by decide, by decide⟩, .inr (.inr ?_), fin⟩
    rcases hk2 with rfl | rfl
    · decide +kernel
    · decide +kernel
  · obtain ⟨b, rfl, _⟩ := h
    rw [p64]
    have m1 : (2 : Nat) ^ 639 * 2 = 2 ^ 640 := (Nat.pow_succ 2 639).symm
    have p60 : ((10 : Int) ^ 60).natAbs < 2 ^ 200 := by decide +kernel
    have pos : (0 : Int) < 10 ^ 190 := by decide +kernel
    have e2 : ((10 : Int) ^ 190).fdiv 2 = 10 ^ 190 / 2 := Int.fdiv_eq_ediv_of_nonneg _ (by decide)
    refine ⟨(10 : Int) ^ 190, rfl, pos, log_lt (n := 639) pA (by decide), fun r r0 r1 => ⟨⟨by decide, by decide⟩, ⟨by decide, by decide, by decide⟩, (show 2 ≤ 100000 by decide), 2, rfl, by decide, by decide, fun t t0 t1 => ?_⟩⟩
    have key : ∀ B : Int, 0 < B → B ≤ 10 ^ 60 → spec__law_drop [.src, .d (.int B)] (fun u => (fun x => bAdd (.int 1) x fun y => spec__law_low [.d (.int (r - ((10 : Int) ^ 190).fdiv 2)), .d y] (fun r => Q (.d r.toD)) Xe) u.toD) Xe := fun B h0 h1 => by
      refine ⟨B, rfl, h0, log_lt (n := 200) (by generalize (10 : Int) ^ 60 = C at *; omega) (by decide), fun k k0 k1 => ?_⟩
      refine low_q (Xe := Xe) q ?_ ?_ ?_
      · show (1 : Int) + k ≠ 0
        omega
      · rw [e2]
        generalize (10 : Int) ^ 190 = A at *
        omega
      · show ((1 : Int) + k).natAbs < 2 ^ 200
        generalize (10 : Int) ^ 60 = C at *
        omega
    have ht : t = 0 ∨ t = 1 := by omega
    rcases ht with rfl | rfl
    · exact key (10 ^ 60) (by decide +kernel) (Int.le_refl _)
    · exact key 1 (by decide) (by decide +kernel)
theorem vc__law_drawn : VC w__law_drawn 5 spec__law_drawn := by
  rintro ss Q Xe ⟨rfl, q⟩
  refine ⟨6, rfl, by decide, by decide, fun way h0 h1 => ⟨rfl, rfl, ?_⟩⟩
  refine ite2 (fun z => ?_) fun z => ⟨rfl, rfl, ite2 (fun z => ?_) fun z => ?_⟩
  · exact ⟨⟨by decide, by decide, by decide⟩, vc__law_drawn_L4 q⟩
  · exact vc__law_drawn_L9 q
  · exact vc__law_drawn_3 (w := .un) q
def sgS (p : Rat) : Str := if p.num < 0 then Str.ofString "-" else Str.ofString ""
theorem tl_sg (p : Rat) : TL.tl (sgS p) = if p.num < 0 then [45] else [] := by
  unfold sgS
  split <;> decide +kernel
theorem sg_len (p : Rat) : (sgS p).length ≤ 1 := by
  unfold sgS
  split <;> decide +kernel
theorem law_quo {p : Rat} (h : ¬ TF p.den) : sgS p ++ Str.ofString (toString (p.num.natAbs : Int)) ++ Str.ofString "/" ++ Str.ofString (toString (p.den : Int)) = textOf p := by
  refine TL.ext_tl ?_
  show _ = textL p
  unfold textL
  rw [if_neg h, TL.tl_append, TL.tl_append, TL.tl_append, tl_sg, tl_nat, tl_nat, tl_s]
  simp
abbrev LTx (p : Rat) (u l t r : SV) : Env := [.d (fr p), u, .d (.int (p.num.natAbs : Int)), .d (.int p.den), .d (.str (sgS p)), l, t, r]
/-- what the law has written after j signs behind the point -/
def mid (p : Rat) (j : Nat) : List Nat := (if p.num < 0 then [45] else []) ++ TL.numL (p.num.natAbs / p.den) ++ (if p.den = 1 then [] else [46]) ++ padL j (p.num.natAbs % p.den * 10 ^ j / p.den)
theorem mid_end {p : Rat} (h : TF p.den) : mid p (plc p.den) = textL p := by
  unfold mid textL
  rw [if_pos h]
  by_cases h1 : p.den = 1
  · rw [if_pos h1, if_pos h1, (plc_zero h).mpr h1, h1, Nat.div_one]
    simp [padL]
  · rw [if_neg h1, if_neg h1]
    simp
theorem mid_len {p : Rat} {j : Nat} (hp : SzT p) : (mid p j).length ≤ 195 + j := by
  have h3 := numL_193 (Nat.lt_of_le_of_lt (Nat.div_le_self p.num.natAbs p.den) hp.1)
  have hs : (if p.num < 0 then [45] else []).length ≤ 1 := by
    split
    · exact Nat.le_refl 1
    · exact Nat.zero_le 1
  have ht : (if p.den = 1 then [] else [46]).length ≤ 1 := by
    split
    · exact Nat.zero_le 1
    · exact Nat.le_refl 1
  unfold mid
  rw [List.length_append, List.length_append, List.length_append, padL_len]
  omega
theorem vc__law_text_6 {p : Rat} {Q : RV → Prop} {Xe : Exc → Prop} {u l : SV} {t : Str} (hp : SzT p) (h : TF p.den) (ht : TL.tl t = mid p 0) (q : Q (.d (.str (textOf p)))) :
    w__law_text_6 (fun _ => Xe) { nx := fun _ => Q (.d .non), rt := Q } (LTx p u l (.d (.str t)) (.d (.int ((p.num.natAbs % p.den : Nat) : Int)))) := by
  have hb := p.den_pos
  have hk := plc_lt h hp.2
  have cop := dec_cop p
  have ld9 : (p.den : Int).natAbs.log2 < 9000 := log_lt (n := 200) hp.2 (by decide)
  refine ⟨fun m ρ => ∃ (j : Nat) (t : Str), ρ = LTx p u l (.d (.str t)) (.d (.int ((p.num.natAbs % p.den * 10 ^ j % p.den : Nat) : Int))) ∧ j + m = plc p.den ∧ TL.tl t = mid p j, ⟨plc p.den, 0, t, ?_, by omega, ht⟩, ?_⟩
  · rw [Nat.pow_zero, Nat.mul_one, Nat.mod_mod]
  · rintro m ρ ⟨j, t, rfl, hj, ht⟩
    obtain ⟨l1, l2, l3⟩ := ld_step (p.num.natAbs % p.den) p.den j hb
    have pd := plc_dvd (m := j) h cop
    have hml := mid_len (j := j) hp
    refine ite2 (fun z => ?_) fun z => ?_
    · have z := of_decide_eq_true z
      have hjk : j < plc p.den := by
        have : ¬ plc p.den ≤ j := fun e => by
          have := pd.mpr e
          omega
        omega
      generalize hr : p.num.natAbs % p.den * 10 ^ j % p.den = r at *
      have eM : (r : Int) * 10 = ((r * 10 : Nat) : Int) := by omega
      have eD : ((r : Int) * 10).fdiv (p.den : Int) = ((r * 10 / p.den : Nat) : Int) := by
        rw [eM, Int.fdiv_eq_ediv_of_nonneg _ (by omega)]
        rfl
      have eR : ((r : Int) * 10) % (p.den : Int) = ((r * 10 % p.den : Nat) : Int) := by
        rw [eM]
        rfl
      have tn : TL.tl (Str.ofString (toString ((r * 10 / p.den : Nat) : Int))) = [48 + r * 10 / p.den] := by rw [tl_nat, TL.numL_lt l3]
      have nl : (Str.ofString (toString ((r * 10 / p.den : Nat) : Int))).length = 1 := by
        rw [TL.len_tl, tn]
        rfl
      have tl' : TL.tl (t ++ Str.ofString (toString ((r * 10 / p.den : Nat) : Int))) = mid p (j + 1) := by
        rw [TL.tl_append, tn, ht]
        unfold mid
        rw [l1, padL_step l3, ← List.append_assoc]
      have lt : t.length ≤ 500 := by
        rw [TL.len_tl, ht]
        omega
      have fin : ∃ m', m' < m ∧ ∃ (j' : Nat) (t' : Str), LTx p u l (.d (.str (t ++ Str.ofString (toString ((r * 10 / p.den : Nat) : Int))))) (.d (.int ((r * 10 % p.den : Nat) : Int))) = LTx p u l (.d (.str t')) (.d (.int ((p.num.natAbs % p.den * 10 ^ j' % p.den : Nat) : Int))) ∧ j' + m' = plc p.den ∧ TL.tl t' = mid p j' :=
        ⟨m - 1, by omega, j + 1, _, by rw [l2], by omega, tl'⟩
      have logd : (((r : Int) * 10).fdiv (p.den : Int)).natAbs.log2 < 1920 := by
        rw [eD]
        exact log_lt (n := 4) (by show r * 10 / p.den < 2 ^ 4; exact Nat.lt_trans l3 (by decide)) (by decide)
      have ln2 : t.length + (Str.ofString (toString (((r : Int) * 10).fdiv (p.den : Int)))).length ≤ 100000 := by
        rw [eD]
        omega
      rw [← eD, ← eR] at fin
      exact ⟨.inr (.inl (by decide)), ⟨by omega, ld9⟩, logd, ln2, .inr (.inl (by decide)), (by omega : (0 : Int) < p.den), fin⟩
    · have e : p.num.natAbs % p.den * 10 ^ j % p.den = 0 := by
        have : ¬ (0 : Int) < ((p.num.natAbs % p.den * 10 ^ j % p.den : Nat) : Int) := fun h => z (decide_eq_true h)
        omega
      have hjk := pd.mp e
      have ejk : j = plc p.den := by omega
      subst ejk
      rw [mid_end h] at ht
      have : t = textOf p := TL.ext_tl ht
      subst this
      exact q
theorem vc__law_text_3 {p : Rat} {Q : RV → Prop} {Xe : Exc → Prop} {u : SV} {l : Nat} (hp : SzT p) (h1 : TF p.den → l = 1) (h2 : ¬ TF p.den → 1 < l) (q : Q (.d (.str (textOf p)))) :
    w__law_text_3 (fun _ => Xe) { nx := fun _ => Q (.d .non), rt := Q } (LTx p u (.d (.int l)) .un .un) := by
  have hb := p.den_pos
  have hd640 : (p.den : Int).natAbs < 2 ^ 640 := Nat.lt_of_lt_of_le hp.2 (Nat.pow_le_pow_right (by decide) (by decide))
  have hn640 : (p.num.natAbs : Int).natAbs < 2 ^ 640 := hp.1
  have ln := int_log hn640
  have ld := int_log hd640
  have sn := len_int hn640
  have sd := len_int hd640
  have ss1 := s_s1
  have sp1 := s_p1
  have sg1 := sg_len p
  have ld9 : (p.den : Int).natAbs.log2 < 9000 := log_lt (n := 200) hp.2 (by decide)
  refine ite2 (fun z => ?_) fun z => ?_
  · have z := of_decide_eq_true z
    have hT : ¬ TF p.den := fun h => by
      have := h1 h
      omega
    refine ⟨ln, ?_, ?_, ld, ?_, ?_⟩
    · show (sgS p).length + (Str.ofString (toString (p.num.natAbs : Int))).length ≤ 100000
      omega
    · show (sgS p ++ Str.ofString (toString (p.num.natAbs : Int))).length + (Str.ofString "/").length ≤ 100000
      rw [Str.length_append]
      omega
    · show (sgS p ++ Str.ofString (toString (p.num.natAbs : Int)) ++ Str.ofString "/").length + (Str.ofString (toString (p.den : Int))).length ≤ 100000
      rw [Str.length_append, Str.length_append]
      omega
    · rw [← law_quo hT] at q
      exact q
  · have hT : TF p.den := Classical.byContradiction fun h => by
      have := h2 h
      exact z (decide_eq_true (by omega))
    have eD : (p.num.natAbs : Int).fdiv (p.den : Int) = ((p.num.natAbs / p.den : Nat) : Int) := by
      rw [Int.fdiv_eq_ediv_of_nonneg _ (by omega)]
      rfl
    have eR : (p.num.natAbs : Int) % (p.den : Int) = ((p.num.natAbs % p.den : Nat) : Int) := rfl
    have hWn : ((p.num.natAbs / p.den : Nat) : Int).natAbs < 2 ^ 640 := Nat.lt_of_le_of_lt (Nat.div_le_self _ _) hp.1
    have lW := len_int hWn
    have logW := int_log hWn
    have fin : w__law_text_5 (fun _ => Xe) { nx := fun _ => Q (.d .non), rt := Q } (LTx p u (.d (.int l)) (.d (.str (sgS p ++ Str.ofString (toString ((p.num.natAbs / p.den : Nat) : Int))))) (.d (.int ((p.num.natAbs % p.den : Nat) : Int)))) := by
      have e0 : ∀ x : List Nat, x ++ padL 0 (p.num.natAbs % p.den * 10 ^ 0 / p.den) = x := fun x => List.append_nil x
      have c := dec_cop p
      refine ite2 (fun z => ?_) fun z => ?_
      · have z := of_decide_eq_true z
        have hd1 : p.den ≠ 1 := fun e => by
          rw [e, Nat.mod_one] at z
          omega
        refine ⟨?_, ?_⟩
        · show (sgS p ++ Str.ofString (toString ((p.num.natAbs / p.den : Nat) : Int))).length + (Str.ofString ".").length ≤ 100000
          rw [Str.length_append]
          omega
        · refine vc__law_text_6 hp hT ?_ q
          unfold mid
          rw [e0, if_neg hd1, TL.tl_append, TL.tl_append, tl_sg, tl_nat, tl_p]
      · have hz : p.num.natAbs % p.den = 0 := by
          have : ¬ (0 : Int) < ((p.num.natAbs % p.den : Nat) : Int) := fun h => z (decide_eq_true h)
          omega
        have hd1 : p.den = 1 := by
          unfold Nat.Coprime at c
          rw [hz, Nat.gcd_zero_right] at c
          exact c
        refine vc__law_text_6 hp hT ?_ q
        unfold mid
        rw [e0, if_pos hd1, List.append_nil, TL.tl_append, tl_sg, tl_nat]
    rw [← eD] at fin logW lW
    refine ⟨⟨by omega, ld9⟩, logW, ?_, (by omega : (0 : Int) < p.den), fin⟩
    show (sgS p).length + (Str.ofString (toString ((p.num.natAbs : Int).fdiv (p.den : Int)))).length ≤ 100000
    omega
theorem vc__law_text_2 {p : Rat} {Q : RV → Prop} {Xe : Exc → Prop} {u : SV} (hp : SzT p) (q : Q (.d (.str (textOf p)))) :
    w__law_text_2 (fun _ => Xe) { nx := fun _ => Q (.d .non), rt := Q } (LTx p u (.d (.int p.den)) .un .un) := by
  have hb := p.den_pos
  refine ⟨⟨by decide, by decide⟩, ?_⟩
  refine forGo_range (lo := 0) (n := 400) (fun j ρ => ∃ (l : Nat) (u : SV), ρ = LTx p u (.d (.int l)) .un .un ∧ 1 ≤ l ∧ (TF l ↔ TF p.den) ∧ (l * 2 ^ j ≤ p.den ∨ (¬ l % 2 = 0 ∧ ¬ l % 5 = 0))) (fun j ρ hj h M hM => ?_) (fun ρ h => ?_) ⟨p.den, u, rfl, hb, Iff.rfl, .inl (by simp)⟩
  · obtain ⟨l, u, rfl, hl, ht, hb⟩ := h
    refine ⟨(by decide : (0 : Int) < 2), rfl, rfl, ?_⟩
    show if peq (.int ((l : Int) % 2)) (.int 0) = true then _ else _
    rw [peq_int]
    refine ite2 (fun z2 => ?_) fun z2 => ?_
    · have z2 := of_decide_eq_true z2
      have m2 : l % 2 = 0 := by omega
      have e2 : (l : Int).fdiv 2 = ((l / 2 : Nat) : Int) := by
        rw [Int.fdiv_eq_ediv_of_nonneg _ (by decide)]
        omega
      refine ⟨⟨by decide, by decide⟩, ?_⟩
      rw [e2]
      refine hM _ ⟨l / 2, _, rfl, by omega, ?_, ?_⟩
      · have := TF_two (m := l / 2)
        rw [show 2 * (l / 2) = l by omega] at this
        exact this.symm.trans ht
      · rcases hb with hb | hb
        · refine .inl ?_
          rw [Nat.pow_succ, Nat.mul_comm (2 ^ j) 2, ← Nat.mul_assoc, show l / 2 * 2 = l by omega]
          exact hb
        · exact absurd m2 hb.1
    · have n2 : ¬ l % 2 = 0 := fun e => z2 (decide_eq_true (by omega))
      refine ⟨(by decide : (0 : Int) < 5), rfl, rfl, ?_⟩
      show if peq (.int ((l : Int) % 5)) (.int 0) = true then _ else _
      rw [peq_int]
      refine ite2 (fun z5 => ?_) fun z5 => ?_
      · have z5 := of_decide_eq_true z5
        have m5 : l % 5 = 0 := by omega
        have e5 : (l : Int).fdiv 5 = ((l / 5 : Nat) : Int) := by
          rw [Int.fdiv_eq_ediv_of_nonneg _ (by decide)]
          omega
        refine ⟨⟨by decide, by decide⟩, ?_⟩
        rw [e5]
        refine hM _ ⟨l / 5, _, rfl, by omega, ?_, ?_⟩
        · have := TF_five (m := l / 5)
          rw [show 5 * (l / 5) = l by omega] at this
          exact this.symm.trans ht
        · rcases hb with hb | hb
          · refine .inl ?_
            have a1 : l / 5 * 2 ≤ l := by omega
            rw [Nat.pow_succ, Nat.mul_comm (2 ^ j) 2, ← Nat.mul_assoc]
            exact Nat.le_trans (Nat.mul_le_mul_right _ a1) hb
          · exact absurd m5 hb.2
      · have n5 : ¬ l % 5 = 0 := fun e => z5 (decide_eq_true (by omega))
        exact hM _ ⟨l, _, rfl, hl, ht, .inr ⟨n2, n5⟩⟩
  · obtain ⟨l, u, rfl, hl, ht, hb⟩ := h
    have hn : ¬ l % 2 = 0 ∧ ¬ l % 5 = 0 := by
      rcases hb with hb | hb
      · exfalso
        have a1 : 2 ^ 400 ≤ l * 2 ^ 400 := Nat.le_mul_of_pos_left _ hl
        have a2 : (2 : Nat) ^ 200 ≤ 2 ^ 400 := Nat.pow_le_pow_right (by decide) (by decide)
        have := hp.2
        omega
      · exact hb
    refine vc__law_text_3 hp (fun h => TF_end (ht.mpr h) hn.1 hn.2) (fun h => ?_) q
    have : l ≠ 1 := fun e => h (ht.mp (by rw [e]; exact TF_one))
    omega
theorem vc__law_text : VC w__law_text 8 spec__law_text := by
  rintro ss Q Xe ⟨_, rfl, p, rfl, hp, q⟩
  have fin := vc__law_text_2 (u := .un) (Xe := Xe) hp q
  have ab : (if p.num < 0 then -p.num else p.num) = (p.num.natAbs : Int) := by split <;> omega
  have key : ∀ z : Str, sgS p = z → w__law_text_2 (fun _ => Xe) { nx := fun _ => Q (.d .non), rt := Q } [.d (fr p), .un, .d (.int (if p.num < 0 then -p.num else p.num)), .d (.int p.den), .d (.str z), .d (.int p.den), .un, .un] := fun z hz => by
    rw [ab, ← hz]
    exact fin
  clear fin
  refine ⟨(show 2 ≤ 100000 by decide), ?_⟩
  by_cases hn : p.num < 0
  · have k := key (Str.ofString "-") (by unfold sgS; rw [if_pos hn])
    refine mAt (d := .str (Str.ofString "-")) ?_ k
    show atI [D.str (Str.ofString ""), .str (Str.ofString "-")] (if decide (p.num < 0) = true then 1 else 0) = _
    rw [if_pos (decide_eq_true hn)]
    exact atI1
  · have k := key (Str.ofString "") (by unfold sgS; rw [if_neg hn])
    refine mAt (d := .str (Str.ofString "")) ?_ k
    show atI [D.str (Str.ofString ""), .str (Str.ofString "-")] (if decide (p.num < 0) = true then 1 else 0) = _
    rw [if_neg (fun z => hn (of_decide_eq_true z))]
    exact atI0
theorem vc__law_kinds : VC w__law_kinds 2 spec__law_kinds := by
  rintro ss Q Xe ⟨d, rfl, h, q⟩
  cases d with
  | ins _ _ _ => cases h
  | _ => exact ⟨(show 3 ≤ 100000 by decide), (show 3 ≤ 100000 by decide), (show 6 ≤ 100000 by decide), q⟩
theorem vc0__law_alike : VC sNever 3 (spec__law_alike 0) := by
  rintro ss Q Xe ⟨x, y, rfl, rfl, h, q⟩
  simp [short] at h
theorem alike_seq {n : Nat} {xs : List D} {d : D} (hd : seqD d = some xs) (h : shortL n xs = true) {X : XD} {Q : D → Prop} (hl : xs.length ≤ 1000) (q : Q (.bl true)) :
    wCB bAll (wCons (wOfL (lComp (iRange1 (wCB bLen (wCons (wVar 1) wNil))) (gNm 2) tYesW (wCall (spec__law_alike n) (wCons (wBin bIx (wVar 0) (wVar 2)) (wCons (wBin bIx (wVar 1) (wVar 2)) wNil))) [2])) wNil) X [.d d, .d d, .un] Q := by
  have key : compGo (gNm 2) tYesW (wCall (spec__law_alike n) (wCons (wBin bIx (wVar 0) (wVar 2)) (wCons (wBin bIx (wVar 1) (wVar 2)) wNil))) [.d d, .d d, .un] (fun ys => bAll [.lst ys] Q) (rangeD 0 (xs.length : Int).toNat) [] := by
    refine compGo_map (fun _ y => y = D.bl true) _ _ (fun x hx Q' q1 => ?_) (by rw [rangeD_len]; simp; omega) fun ys hys => ?_
    · obtain ⟨k, hk, rfl⟩ := mem_range hx
      have hk : k < xs.length := by omega
      have hat : atI xs (0 + (k : Int)) = some xs[k] := by
        rw [Int.zero_add]
        exact atI_nat (List.getElem?_eq_getElem hk)
      have hs := shortL_at h xs[k] (List.getElem_mem hk)
      have fin : spec__law_alike n [.d xs[k], .d xs[k]] (fun r => Q' r.toD) (fun _ => False) := ⟨_, _, rfl, rfl, hs, q1 _ rfl⟩
      cases d with
      | tup zs =>
        cases hd
        show match atI xs (0 + (k : Int)) with
          | some x => match atI xs (0 + (k : Int)) with
            | some y => spec__law_alike n [.d x, .d y] (fun r => Q' r.toD) (fun _ => False)
            | none => False
          | none => False
        rw [hat]
        exact fin
      | lst zs =>
        cases hd
        show match atI xs (0 + (k : Int)) with
          | some x => match atI xs (0 + (k : Int)) with
            | some y => spec__law_alike n [.d x, .d y] (fun r => Q' r.toD) (fun _ => False)
            | none => False
          | none => False
        rw [hat]
        exact fin
      | _ => cases hd
    · rw [List.nil_append]
      exact bAll_true (fun y hy => (all2_mem hys y hy).elim fun x hx => hx.2) q
  cases d with
  | tup zs =>
    cases hd
    exact ⟨⟨by omega, by omega⟩, key⟩
  | lst zs =>
    cases hd
    exact ⟨⟨by omega, by omega⟩, key⟩
  | _ => cases hd
theorem kinds_plain (d : D) : plain 40 (kinds d) = true := by simp [kinds, plain, plainL]
theorem vc__law_alike (n : Nat) : VC (w__law_alike n) 3 (spec__law_alike (n + 1)) := by
  rintro ss Q Xe ⟨x, y, rfl, rfl, h, q⟩
  have hp : ∀ z : D, short (n + 1) z = true → plain (n + 1) z = true := fun z => short_plain _ _ z (Nat.le_refl _)
  have ht := plain_ty (hp x h)
  refine ⟨_, rfl, ht, _, rfl, ht, kinds_plain x, kinds_plain x, ?_⟩
  have e1 : peq (kinds x) (kinds x) = true := peq_refl _ 40 (kinds_plain x)
  dsimp only [RV.toD]
  rw [e1]
  have one : ∀ m : Int, peq (.int m) (.int m) = true := fun m => by
    rw [peq_int]
    exact decide_eq_true rfl
  cases x with
  | ins _ _ _ => cases ht
  | tup xs =>
    simp only [short, Bool.and_eq_true, decide_eq_true_eq] at h
    refine ⟨rfl, rfl, ?_⟩
    rw [one]
    exact alike_seq rfl h.2 h.1 q
  | lst xs =>
    simp only [short, Bool.and_eq_true, decide_eq_true_eq] at h
    refine ⟨rfl, rfl, ?_⟩
    rw [one]
    exact alike_seq rfl h.2 h.1 q
  | non => exact ⟨rfl, rfl, q⟩
  | bl b =>
    refine ⟨rfl, rfl, ?_⟩
    rw [peq_refl _ 1 rfl]
    exact q
  | int b =>
    refine ⟨rfl, rfl, ?_⟩
    rw [one]
    exact q
  | str b =>
    have hb : plain 40 (.str b) = true := by
      simp only [short] at h
      simp only [plain]
      exact h
    refine ⟨hb, hb, ?_⟩
    rw [peq_refl _ 40 hb]
    exact q
theorem vc_is_integer : VC w_is_integer 1 spec_is_integer := by
  rintro ss Q Xe ⟨d, rfl, h, q⟩
  show w_is_integer _ _ [.d d]
  cases d with
  | ins _ _ _ => cases h
  | _ => exact q
theorem vc_common : VC w_common 2 spec_common := by
  rintro ss Q Xe ⟨x, y, rfl, a, b, rfl, rfl, ha, hb, q⟩
  exact gcd_loop (wr := 0) a b ha hb fun u e => by
    subst e
    exact q
theorem vc_is_fraction : VC w_is_fraction 1 spec_is_fraction := by
  rintro ss Q Xe ⟨d, rfl, h, q⟩
  show w_is_fraction _ _ [.d d]
  cases d with
  | ins _ _ _ => simp [plain] at h
  | tup xs =>
    refine ⟨rfl, rfl, ?_⟩
    rw [peq_int]
    rcases bcases (decide ((xs.length : Int) = 2)) with e | e
    · have hl : xs.length = 2 := by
        have := of_decide_eq_true e
        omega
      obtain ⟨x, y, rfl⟩ := len2 hl
      have hx : plain 39 x = true := plain_at (by simpa only [plain] using h) x (by simp)
      have hy : plain 39 y = true := plain_at (by simpa only [plain] using h) y (by simp)
      refine ⟨x, rfl, plain_ty hx, ?_⟩
      rcases bcases (isInt x) with e1 | e1
      · obtain ⟨i, rfl⟩ := isInt_of e1
        refine ⟨y, rfl, plain_ty hy, ?_⟩
        rcases bcases (isInt y) with e2 | e2
        · obtain ⟨j, rfl⟩ := isInt_of e2
          show if decide (0 < j) = true then _ else _
          refine ite2 (fun z => ?_) fun z => ?_
          · have hj : 0 < j := of_decide_eq_true z
            refine ⟨_, _, rfl, _, _, rfl, rfl, by split <;> omega, by omega, rfl, rfl, ?_⟩
            have e3 : (if i < 0 then -i else i) = (i.natAbs : Int) := by split <;> omega
            rw [e3]
            show Q (.d (.bl (peq (.int (Int.gcd (i.natAbs : Int) j : Int)) (.int 1))))
            rw [peq_int]
            have e4 : decide ((Int.gcd (i.natAbs : Int) j : Int) = 1) = isFr (.tup [.int i, .int j]) := by
              show _ = decide _
              have : Int.gcd (i.natAbs : Int) j = Int.gcd i j := rfl
              rw [this]
              by_cases hg : Int.gcd i j = 1
              · simp [hg, hj]
              · rw [decide_eq_false (show ¬ ((Int.gcd i j : Int) = 1) by omega), decide_eq_false (fun k => hg k.2)]
            rw [e4]
            exact q
          · have e4 : isFr (.tup [.int i, .int j]) = false := by
              show decide _ = false
              have hj : ¬ 0 < j := fun k => z (decide_eq_true k)
              simp [hj]
            rw [e4] at q
            exact q
        · rw [isFr_no2 e2] at q
          rw [e2]
          exact q
      · rw [isFr_no1 e1] at q
        rw [e1]
        exact q
    · rw [isFr_len (fun k => of_decide_eq_false e (by omega))] at q
      rw [e]
      exact q
  | _ => exact q
theorem all_isFr : ∀ {xs ys : List D}, All2 (fun x y => y = D.bl (isFr x)) xs ys → ∃ bs, bools ys = some bs ∧ bs.all id = xs.all isFr := fun {xs ys} h => by
  induction h with
  | nil => exact ⟨[], rfl, rfl⟩
  | cons r _ ih =>
    obtain ⟨bs, e1, e2⟩ := ih
    subst r
    refine ⟨_ :: bs, by rw [bools, e1]; rfl, ?_⟩
    rw [List.all_cons, List.all_cons, e2]
    rfl
theorem vc_check_fractions : VC w_check_fractions 2 spec_check_fractions := by
  rintro ss Q Xe ⟨_, rfl, ds, rfl, hl, hp, ha, q⟩
  show compGo _ _ _ _ _ ds []
  refine compGo_map (fun x y => y = D.bl (isFr x)) _ _ (fun x hx Q' q => ⟨_, rfl, hp x hx, q _ rfl⟩) (by simp; omega) fun ys hys => ?_
  rw [List.nil_append]
  obtain ⟨bs, e1, e2⟩ := all_isFr hys
  show match bools ys with
    | some bs => if (!(bs.all id)) = true then _ else _
    | none => False
  rw [e1]
  show if (!(bs.all id)) = true then _ else _
  rw [e2, ha]
  exact q
theorem tf_half {i j l : Nat} (h : l = 2 ^ i * 5 ^ j) (h2 : l % 2 = 0) : 0 < i ∧ l / 2 = 2 ^ (i - 1) * 5 ^ j := by
  cases i with
  | zero =>
    have := pow5_odd j
    rw [Nat.pow_zero, Nat.one_mul] at h
    omega
  | succ i =>
    refine ⟨by omega, ?_⟩
    rw [Nat.pow_succ, Nat.mul_comm (2 ^ i) 2, Nat.mul_assoc] at h
    show _ = 2 ^ i * 5 ^ j
    omega
theorem tf_odd {i j l : Nat} (h : l = 2 ^ i * 5 ^ j) (h2 : ¬ l % 2 = 0) : i = 0 := by
  cases i with
  | zero => rfl
  | succ i =>
    rw [Nat.pow_succ, Nat.mul_comm (2 ^ i) 2, Nat.mul_assoc] at h
    omega
theorem tf_fifth {i j l : Nat} (h : l = 2 ^ i * 5 ^ j) (h5 : l % 5 = 0) : 0 < j ∧ l / 5 = 2 ^ i * 5 ^ (j - 1) := by
  cases j with
  | zero =>
    have := pow2_five i
    rw [Nat.pow_zero, Nat.mul_one] at h
    omega
  | succ j =>
    refine ⟨by omega, ?_⟩
    rw [Nat.pow_succ, Nat.mul_comm (5 ^ j) 5, ← Nat.mul_assoc, Nat.mul_comm (2 ^ i) 5, Nat.mul_assoc] at h
    show _ = 2 ^ i * 5 ^ j
    omega
theorem tf_no5 {i j l : Nat} (h : l = 2 ^ i * 5 ^ j) (h5 : ¬ l % 5 = 0) : j = 0 := by
  cases j with
  | zero => rfl
  | succ j =>
    rw [Nat.pow_succ, Nat.mul_comm (5 ^ j) 5, ← Nat.mul_assoc, Nat.mul_comm (2 ^ i) 5, Nat.mul_assoc] at h
    omega
theorem vc_places_of : VC w_places_of 4 spec_places_of := by
  rintro ss Q Xe ⟨_, rfl, b, rfl, h1, h2, q1, q2⟩
  refine ⟨fun m ρ => ∃ (k l : Nat) (u : SV), ρ = [.d (.int b), .d (.int k), .d (.int l), u] ∧ 1 ≤ l ∧ l = m ∧ (TF l ↔ TF b) ∧ ∀ i j, b = 2 ^ i * 5 ^ j → l = 2 ^ (i - k) * 5 ^ (j - k) ∧ k ≤ max i j, ⟨b, 0, b, _, rfl, h1, rfl, Iff.rfl, fun i j e => ⟨e, Nat.zero_le _⟩⟩, ?_⟩
  rintro m ρ ⟨k, l, u, rfl, hl, rfl, ht, hk⟩
  have fin : (1 < l → ¬ l % 2 = 0 ∧ ¬ l % 5 = 0) → Q (.d (if peq (.int l) (.int 1) = true then .int k else .non)) := fun no => by
    rw [peq_int]
    by_cases e : l = 1
    · rw [if_pos (decide_eq_true (by omega))]
      subst e
      obtain ⟨i, j, hb⟩ := ht.mp TF_one
      obtain ⟨e1, e2⟩ := hk i j hb
      have := q2 i j hb
      have i0 := tf_odd e1 (by decide)
      have j0 := tf_no5 e1 (by decide)
      rw [show k = max i j by omega]
      exact this
    · rw [if_neg (fun e2 => e (by have := of_decide_eq_true e2; omega))]
      refine q1 fun hb => e ?_
      obtain ⟨n2, n5⟩ := no (by omega)
      exact TF_end (ht.mpr hb) n2 n5
  have done : (1 < l → ¬ l % 2 = 0 ∧ ¬ l % 5 = 0) → sRet (wIf (DL.tB (wBin bEq (wVar 2) (wC (.int 1)))) (wVar 1) (wC .non)) (fun _ => Xe) { nx := fun _ => Q (.d .non), rt := Q } [.d (.int b), .d (.int k), .d (.int l), u] := fun no => by
    have fin := fin no
    refine ⟨rfl, rfl, ?_⟩
    show if peq (.int l) (.int 1) = true then _ else _
    split at fin <;> rename_i z
    · rw [if_pos z]
      exact fin
    · rw [if_neg z]
      exact fin
  refine ite2 (fun z => ?_) fun z => done fun h => absurd (decide_eq_true (by omega)) z
  have hl1 : 1 < l := by
    have := of_decide_eq_true z
    omega
  have step : ∀ (l2 : Nat) (u2 : SV), 1 ≤ l2 → l2 < l → (TF l2 ↔ TF b) → (∀ i j, b = 2 ^ i * 5 ^ j → l2 = 2 ^ (i - (k + 1)) * 5 ^ (j - (k + 1)) ∧ k + 1 ≤ max i j) → (∃ m', m' < l ∧ ∃ (k' l' : Nat) (u' : SV), [SV.d (.int b), .d (.int ((k : Int) + 1)), .d (.int l2), u2] = [.d (.int b), .d (.int k'), .d (.int l'), u'] ∧ 1 ≤ l' ∧ l' = m' ∧ (TF l' ↔ TF b) ∧ ∀ i j, b = 2 ^ i * 5 ^ j → l' = 2 ^ (i - k') * 5 ^ (j - k') ∧ k' ≤ max i j) := fun l2 u2 a1 a2 a3 a4 => ⟨l2, a2, k + 1, l2, u2, rfl, a1, rfl, a3, a4⟩
  have t2 : l % 2 = 0 → (TF (l / 2) ↔ TF l) := fun h => by
    have := TF_two (m := l / 2)
    rw [show 2 * (l / 2) = l by omega] at this
    exact this.symm
  have t5 : ∀ l : Nat, l % 5 = 0 → (TF (l / 5) ↔ TF l) := fun l h => by
    have := TF_five (m := l / 5)
    rw [show 5 * (l / 5) = l by omega] at this
    exact this.symm
  have body : ∀ u0 : SV, (l % 2 = 0 ∨ l % 5 = 0) → (sSeq (sFor (iSeq (wTup (wCons (wC (.int 2)) (wCons (wC (.int 5)) wNil)))) (gNm 3)
  (sIf (DL.tB (wBin bEq (wBin bMod (wVar 2) (wVar 3)) (wC (.int 0))))
  (sAsg (wBin bFdivN (wVar 2) (wVar 3)) (gNm 2))
  sNext))
  (sAugI 1 (fun i j => i + j) (wC (.int 1)))) (fun _ => Xe) { nx := fun ρ' => ∃ m', m' < l ∧ ∃ (k' l' : Nat) (u' : SV), ρ' = [.d (.int b), .d (.int k'), .d (.int l'), u'] ∧ 1 ≤ l' ∧ l' = m' ∧ (TF l' ↔ TF b) ∧ ∀ i j, b = 2 ^ i * 5 ^ j → l' = 2 ^ (i - k') * 5 ^ (j - k') ∧ k' ≤ max i j, rt := Q } [.d (.int b), .d (.int k), .d (.int l), u0] := fun u0 hd => by
    refine ⟨(show 2 ≤ 100000 by decide), ?_⟩
    refine ⟨(by decide : (0 : Int) < 2), rfl, rfl, ?_⟩
    show if peq (.int ((l : Int) % 2)) (.int 0) = true then _ else _
    rw [peq_int]
    refine ite2 (fun z2 => ?_) fun z2 => ?_
    · have z2 := of_decide_eq_true z2
      have m2 : l % 2 = 0 := by omega
      have e2 : (l : Int).fdiv 2 = ((l / 2 : Nat) : Int) := by
        rw [Int.fdiv_eq_ediv_of_nonneg _ (by decide)]
        omega
      refine ⟨⟨by decide, by decide⟩, ?_⟩
      rw [e2]
      refine ⟨(by decide : (0 : Int) < 5), rfl, rfl, ?_⟩
      show if peq (.int (((l / 2 : Nat) : Int) % 5)) (.int 0) = true then _ else _
      rw [peq_int]
      refine ite2 (fun z5 => ?_) fun z5 => ?_
      · have z5 := of_decide_eq_true z5
        have m5 : (l / 2) % 5 = 0 := by omega
        have e5 : ((l / 2 : Nat) : Int).fdiv 5 = ((l / 2 / 5 : Nat) : Int) := by
          rw [Int.fdiv_eq_ediv_of_nonneg _ (by decide)]
          omega
        refine ⟨⟨by decide, by decide⟩, ?_⟩
        rw [e5]
        refine step _ _ (by omega) (by omega) ((t5 _ m5).trans ((t2 m2).trans ht)) fun i j hb => ?_
        obtain ⟨c1, c2⟩ := hk i j hb
        obtain ⟨d1, d2⟩ := tf_half c1 m2
        obtain ⟨f1, f2⟩ := tf_fifth d2 m5
        exact ⟨f2, by omega⟩
      · have m5 : ¬ (l / 2) % 5 = 0 := fun e => z5 (decide_eq_true (by omega))
        refine step _ _ (by omega) (by omega) ((t2 m2).trans ht) fun i j hb => ?_
        obtain ⟨c1, c2⟩ := hk i j hb
        obtain ⟨d1, d2⟩ := tf_half c1 m2
        have j0 := tf_no5 d2 m5
        rw [j0] at d2
        rw [show j - (k + 1) = 0 by omega]
        exact ⟨d2, by omega⟩
    · refine ⟨(by decide : (0 : Int) < 5), rfl, rfl, ?_⟩
      have n2 : ¬ l % 2 = 0 := fun e => z2 (decide_eq_true (by omega))
      have m5 : l % 5 = 0 := by omega
      show if peq (.int ((l : Int) % 5)) (.int 0) = true then _ else _
      rw [peq_int]
      refine ite2 (fun z5 => ?_) fun z5 => absurd (decide_eq_true (by omega)) z5
      have e5 : (l : Int).fdiv 5 = ((l / 5 : Nat) : Int) := by
        rw [Int.fdiv_eq_ediv_of_nonneg _ (by decide)]
        omega
      refine ⟨⟨by decide, by decide⟩, ?_⟩
      rw [e5]
      refine step _ _ (by omega) (by omega) ((t5 _ m5).trans ht) fun i j hb => ?_
      obtain ⟨c1, c2⟩ := hk i j hb
      obtain ⟨d1, d2⟩ := tf_fifth c1 m5
      have i0 := tf_odd c1 n2
      rw [i0] at d2
      rw [show i - (k + 1) = 0 by omega]
      exact ⟨d2, by omega⟩
  refine ⟨(by decide : (0 : Int) < 2), rfl, rfl, ?_⟩
  show if peq (.int ((l : Int) % 2)) (.int 0) = true then _ else _
  rw [peq_int]
  refine ite2 (fun z2 => ?_) fun z2 => ?_
  · have z2 := of_decide_eq_true z2
    exact body u (.inl (by omega))
  · have n2 : ¬ l % 2 = 0 := fun e => z2 (decide_eq_true (by omega))
    refine ⟨(by decide : (0 : Int) < 5), rfl, rfl, ?_⟩
    show if peq (.int ((l : Int) % 5)) (.int 0) = true then _ else _
    rw [peq_int]
    refine ite2 (fun z5 => ?_) fun z5 => ?_
    · have z5 := of_decide_eq_true z5
      exact body u (.inr (by omega))
    · exact done fun _ => ⟨n2, fun e => z5 (decide_eq_true (by omega))⟩
theorem all_one (p : Rat) : [fr p].all isFr = true := by
  simp [isFr_fr]
theorem txt_whole {p : Rat} (h : p.den = 1) : Str.ofString (toString p.num) = textOf p := by
  refine TL.ext_tl ?_
  show _ = textL p
  unfold textL
  rw [if_pos (show TF p.den by rw [h]; exact TF_one), if_pos h, tl_int]
theorem txt_quo {p : Rat} (h : ¬ TF p.den) : Str.ofString (toString p.num) ++ Str.ofString "/" ++ Str.ofString (toString (p.den : Int)) = textOf p := by
  refine TL.ext_tl ?_
  show _ = textL p
  unfold textL
  rw [if_neg h, TL.tl_append, TL.tl_append, tl_int, tl_nat, tl_s]
  simp
theorem txt_dec {p : Rat} (h : TF p.den) (h1 : p.den ≠ 1) : (if p.num < 0 then Str.ofString "-" else Str.ofString "") ++ Str.ofString (toString ((p.num.natAbs / p.den : Nat) : Int)) ++ Str.ofString "." ++ cutS (Str.ofString (toString ((10 ^ plc p.den + p.num.natAbs % p.den * 10 ^ plc p.den / p.den : Nat) : Int))) (some 1) none = textOf p := by
  refine TL.ext_tl ?_
  show _ = textL p
  have e1 : TL.tl (cutS (Str.ofString (toString ((10 ^ plc p.den + p.num.natAbs % p.den * 10 ^ plc p.den / p.den : Nat) : Int))) (some 1) none) = padL (plc p.den) (p.num.natAbs % p.den * 10 ^ plc p.den / p.den) := by
    have := cut_tail_any (Str.ofString (toString ((10 ^ plc p.den + p.num.natAbs % p.den * 10 ^ plc p.den / p.den : Nat) : Int))) 1
    rw [show ((1 : Nat) : Int) = 1 from rfl] at this
    rw [this]
    show ((TL.tl (Str.ofString (toString ((10 ^ plc p.den + p.num.natAbs % p.den * 10 ^ plc p.den / p.den : Nat) : Int)))).drop 1) = _
    rw [tl_nat, numL_pad (rest_lt p.den_pos)]
    rfl
  have e2 : TL.tl (if p.num < 0 then Str.ofString "-" else Str.ofString "") = if p.num < 0 then [45] else [] := by
    split <;> decide +kernel
  unfold textL
  rw [if_pos h, if_neg h1, TL.tl_append, TL.tl_append, TL.tl_append, e1, e2, tl_nat, tl_p]
  simp
theorem vc_fraction_text_6 {p : Rat} {Q : RV → Prop} {Xe : Exc → Prop} {u v w pl : SV} (hp : SzT p) (h : TF p.den) (h1 : p.den ≠ 1) (q : Q (.d (.str (textOf p)))) :
    w_fraction_text_6 (fun _ => Xe) { nx := fun _ => Q (.d .non), rt := Q } [.d (fr p), pl, .d (.int (tenP (plc p.den))), u, .d (.int p.num), .d (.int p.den), v, w] := by
  have hb := p.den_pos
  have hk := plc_lt h hp.2
  obtain ⟨et, fp⟩ := ten_div hb (plc_ten h)
  obtain ⟨s1, s2⟩ := frac_split (A := p.num.natAbs) fp et
  have re := rest_eq (R := p.num.natAbs % p.den) hb (plc_ten h)
  have te : tenP (plc p.den) = ((10 ^ plc p.den : Nat) : Int) := by
    unfold tenP
    simp
  have ab : (if p.num < 0 then -p.num else p.num) = (p.num.natAbs : Int) := by split <;> omega
  have rl := rest_lt (A := p.num.natAbs) (k := plc p.den) hb
  have tx := txt_dec h h1
  have eF : ((10 ^ plc p.den : Nat) : Int).fdiv (p.den : Int) = ((10 ^ plc p.den / p.den : Nat) : Int) := by
    rw [Int.fdiv_eq_ediv_of_nonneg _ (by omega)]
    rfl
  have eM : ∀ A f : Nat, (A : Int) * (f : Int) = ((A * f : Nat) : Int) := fun A f => (Int.natCast_mul A f).symm
  have eW : ((p.num.natAbs : Int) * ((10 ^ plc p.den / p.den : Nat) : Int)).fdiv ((10 ^ plc p.den : Nat) : Int) = ((p.num.natAbs / p.den : Nat) : Int) := by
    rw [eM, Int.fdiv_eq_ediv_of_nonneg _ (by omega), ← s1]
    rfl
  have eR : ((p.num.natAbs : Int) * ((10 ^ plc p.den / p.den : Nat) : Int)) % ((10 ^ plc p.den : Nat) : Int) = ((p.num.natAbs % p.den * 10 ^ plc p.den / p.den : Nat) : Int) := by
    rw [eM, re, ← s2]
    rfl
  have hPs : 10 ^ plc p.den < 10 ^ 200 := Nat.pow_lt_pow_right (by decide) hk
  have P0 : 0 < 10 ^ plc p.den := Nat.pow_pos (by decide)
  have hP : 10 ^ plc p.den < 2 ^ 800 := Nat.lt_trans hPs (by decide +kernel)
  have hWn : p.num.natAbs / p.den < 2 ^ 640 := Nat.lt_of_le_of_lt (Nat.div_le_self _ _) hp.1
  have lW := len_int (i := ((p.num.natAbs / p.den : Nat) : Int)) hWn
  have logW := int_log (i := ((p.num.natAbs / p.den : Nat) : Int)) hWn
  have lR : (Str.ofString (toString ((10 ^ plc p.den + p.num.natAbs % p.den * 10 ^ plc p.den / p.den : Nat) : Int))).length ≤ 201 := len_num (by decide) (by
    rw [show (201 : Nat) = 200 + 1 from rfl, Nat.pow_succ]
    omega)
  have logR : ((10 ^ plc p.den + p.num.natAbs % p.den * 10 ^ plc p.den / p.den : Nat) : Int).natAbs.log2 < 1920 := log_lt (n := 801) (by
    rw [show (801 : Nat) = 800 + 1 from rfl, Nat.pow_succ]
    omega) (by decide)
  have lc := cutS_length (Str.ofString (toString ((10 ^ plc p.den + p.num.natAbs % p.den * 10 ^ plc p.den / p.den : Nat) : Int))) (some 1) none
  have eS : ((10 ^ plc p.den : Nat) : Int) + ((p.num.natAbs % p.den * 10 ^ plc p.den / p.den : Nat) : Int) = ((10 ^ plc p.den + p.num.natAbs % p.den * 10 ^ plc p.den / p.den : Nat) : Int) := (Int.natCast_add _ _).symm
  rw [te]
  have ld9 : (p.den : Int).natAbs.log2 < 9000 := log_lt (n := 200) hp.2 (by decide)
  have lP9 : ((10 ^ plc p.den : Nat) : Int).natAbs.log2 < 9000 := log_lt (n := 800) hP (by decide)
  have lA9 : (p.num.natAbs : Int).natAbs.log2 < 9000 := log_lt (n := 640) hp.1 (by decide)
  have lF9 : ((10 ^ plc p.den / p.den : Nat) : Int).natAbs.log2 < 9000 := log_lt (n := 800) (Nat.lt_of_le_of_lt (Nat.div_le_self _ _) hP) (by decide)
  have dl : (if p.num < 0 then Str.ofString "-" else Str.ofString "").length ≤ 1 := by
    split <;> decide +kernel
  have fin : sRet (wBin bAdd (wBin bAdd (wBin bAdd (wIf (DL.tB (wBin bLt (wVar 4) (wC (.int 0)))) (wC (.str "-")) (wC (.str ""))) (wCB bStr (wCons (wVar 6) wNil))) (wC (.str "."))) (wSl (wCB bStr (wCons (wBin bAdd (wVar 2) (wVar 7)) wNil)) (oSome (wC (.int 1))) oNone))
      (fun _ => Xe) { nx := fun _ => Q (.d .non), rt := Q } [.d (fr p), pl, .d (.int ((10 ^ plc p.den : Nat) : Int)), u, .d (.int p.num), .d (.int p.den), .d (.int ((p.num.natAbs / p.den : Nat) : Int)), .d (.int ((p.num.natAbs % p.den * 10 ^ plc p.den / p.den : Nat) : Int))] := by
    generalize 10 ^ plc p.den = P at *
    generalize p.num.natAbs % p.den * P / p.den = R at *
    generalize p.num.natAbs / p.den = W at *
    have two : ∀ z : Str, z.length ≤ 1 → z ++ Str.ofString (toString (W : Int)) ++ Str.ofString "." ++ cutS (Str.ofString (toString ((P + R : Nat) : Int))) (some 1) none = textOf p → (W : Int).natAbs.log2 < 1920 ∧ z.length + (Str.ofString (toString (W : Int))).length ≤ 100000 ∧ (z ++ Str.ofString (toString (W : Int))).length + (Str.ofString ".").length ≤ 100000 ∧
        ((P : Int) + (R : Int)).natAbs.log2 < 1920 ∧ (Str.ofString (toString ((P : Int) + (R : Int)))).length ≤ 100000 ∧ (z ++ Str.ofString (toString (W : Int)) ++ Str.ofString ".").length + (cutS (Str.ofString (toString ((P : Int) + (R : Int)))) (some 1) none).length ≤ 100000 ∧ Q (.d (.str (z ++ Str.ofString (toString (W : Int)) ++ Str.ofString "." ++ cutS (Str.ofString (toString ((P : Int) + (R : Int)))) (some 1) none))) := fun z hz e => by
      rw [eS, e]
      have sp1 := s_p1
      refine ⟨logW, by omega, ?_, logR, by omega, ?_, q⟩
      · rw [Str.length_append]
        omega
      · rw [Str.length_append, Str.length_append]
        omega
    by_cases hn : p.num < 0
    · rw [if_pos hn] at tx
      refine ite2 (fun _ => ?_) fun z => absurd (decide_eq_true hn) z
      exact two (Str.ofString "-") (by decide +kernel) tx
    · rw [if_neg hn] at tx
      refine ite2 (fun z => absurd (of_decide_eq_true z) hn) fun _ => ?_
      exact two (Str.ofString "") (by decide +kernel) tx
  rw [← eW, ← eR, ← eF, ← ab] at fin
  have hdn : (p.den : Int) ≠ 0 := by omega
  have iAB : IMul (if p.num < 0 then -p.num else p.num) (((10 ^ plc p.den : Nat) : Int).fdiv p.den) := by
    rw [ab, eF]
    exact .inr (.inr (by omega))
  have P1 : (0 : Int) < ((10 ^ plc p.den : Nat) : Int) := by omega
  exact ⟨⟨hdn, ld9⟩, iAB, ⟨by omega, lP9⟩, ⟨hdn, ld9⟩, iAB, P1, fin⟩
theorem vc_fraction_text : VC w_fraction_text 8 spec_fraction_text := by
  rintro ss Q Xe ⟨_, rfl, p, rfl, hp, q⟩
  have hb := p.den_pos
  have hd16 : p.den < 2 ^ 1600 := Nat.lt_of_lt_of_le hp.2 (Nat.pow_le_pow_right (by decide) (by decide))
  have hd640 : (p.den : Int).natAbs < 2 ^ 640 := Nat.lt_of_lt_of_le hp.2 (Nat.pow_le_pow_right (by decide) (by decide))
  have ln := int_log hp.1
  have ld := int_log hd640
  have sn := len_int hp.1
  have sd := len_int hd640
  have ss1 := s_s1
  refine ⟨(show 1 ≤ 100000 by decide), _, rfl, _, rfl, (show 1 ≤ 1000 by decide), fun d m => ?_, all_one p, ?_⟩
  · simp only [List.mem_cons, List.not_mem_nil, or_false] at m
    rw [m]
    exact plain_fr 38 p
  refine ⟨rfl, ?_⟩
  refine ⟨_, rfl, p.den, rfl, by omega, hd16, fun hT => ?_, fun i j e => ?_⟩
  · refine ⟨rfl, rfl, ln, ?_, ld, ?_, ?_⟩
    · show (Str.ofString (toString p.num)).length + (Str.ofString "/").length ≤ 100000
      omega
    · show ((Str.ofString (toString p.num)) ++ (Str.ofString "/")).length + (Str.ofString (toString (p.den : Int))).length ≤ 100000
      rw [Str.length_append]
      omega
    · rw [← txt_quo hT] at q
      exact q
  · have hT : TF p.den := ⟨i, j, e⟩
    obtain ⟨i', j', e', ep⟩ := plc_spec hT
    have ek : max i j = plc p.den := by
      have a1 : plc p.den ≤ max i j := by
        refine (plc_dvd (R := 1) hT (Nat.coprime_one_right _)).mp ?_
        rw [Nat.one_mul, ten_pow]
        refine Nat.mod_eq_zero_of_dvd ?_
        conv => lhs; rw [e]
        exact Nat.mul_dvd_mul (Nat.pow_dvd_pow 2 (by omega)) (Nat.pow_dvd_pow 5 (by omega))
      have a2 := Nat.dvd_of_mod_eq_zero (plc_ten hT)
      rw [ten_pow] at a2
      have b1 : 2 ^ i ∣ p.den := ⟨5 ^ j, e⟩
      have b2 : 5 ^ j ∣ p.den := ⟨2 ^ i, by rw [Nat.mul_comm]; exact e⟩
      have c1 := (Nat.pow_dvd_pow_iff_le_right (by decide)).mp ((two_five i (plc p.den)).dvd_of_dvd_mul_right (Nat.dvd_trans b1 a2))
      have c2 := (Nat.pow_dvd_pow_iff_le_right (by decide)).mp ((two_five (plc p.den) j).symm.dvd_of_dvd_mul_left (Nat.dvd_trans b2 a2))
      omega
    rw [ek]
    have hk := plc_lt hT hp.2
    refine ⟨rfl, rfl, ?_⟩
    show if peq (.int (plc p.den : Nat)) (.int 0) = true then _ else _
    rw [peq_int]
    refine ite2 (fun z => ?_) fun z => ?_
    · have z := of_decide_eq_true z
      refine ⟨rfl, rfl, ?_⟩
      show if peq (.int (plc p.den : Nat)) (.int 0) = true then _ else _
      rw [peq_int]
      refine ite2 (fun _ => ⟨ln, ?_⟩) fun z2 => absurd (decide_eq_true z) z2
      rw [← txt_whole ((plc_zero hT).mp (by omega))] at q
      exact q
    · have hk0 : plc p.den ≠ 0 := fun e => z (decide_eq_true (by omega))
      refine ⟨⟨by omega, by omega⟩, ?_⟩
      have en : ((plc p.den : Nat) : Int).toNat = plc p.den := by omega
      rw [en]
      refine forGo_range (lo := 0) (n := plc p.den) (fun j ρ => ∃ u : SV, ρ = [.d (fr p), .d (.int (plc p.den : Nat)), .d (.int (tenP j)), u, .d (.int p.num), .d (.int p.den), .un, .un]) (fun j ρ hj h M hM => ?_) (fun ρ h => ?_) ⟨_, rfl⟩
      · obtain ⟨u, rfl⟩ := h
        refine ⟨.inr (.inl (by decide)), ?_⟩
        rw [← tenP_succ]
        exact hM _ ⟨_, rfl⟩
      · obtain ⟨u, rfl⟩ := h
        exact vc_fraction_text_6 hp hT (fun e => hk0 ((plc_zero hT).mpr e)) q
theorem vc_digits_end : VC w_digits_end 2 spec_digits_end := by
  rintro ss Q Xe ⟨z, a, rfl, hz, ha, q⟩
  have hl := hz.lim
  refine ⟨fun m ρ => ∃ k : Nat, ρ = [.d (.str z), .d (.int k)] ∧ k ≤ z.cps.toList.length ∧ m + k = z.cps.toList.length ∧ digEnd z.cps.toList k = digEnd z.cps.toList a, ⟨_, a, rfl, ha, Nat.sub_add_cancel ha, rfl⟩, ?_⟩
  rintro m ρ ⟨k, rfl, hk, hm, he⟩
  have stop : (∀ c, z.cps.toList[k]? = some c → isD c = false) → Q (.d (.int k)) := fun h => by
    rw [digEnd_stop h] at he
    rw [he]
    exact q
  refine ⟨hl, pl_one hz k, by decide +kernel, ?_⟩
  show if (!peq (.str (cutS z (some (k : Int)) (some ((k : Int) + 1)))) (.str "")) = true then _ else _
  rw [cut_one, peq_sgn s_n]
  refine ite2 (fun h => ?_) fun h => ?_
  · cases hc : z.cps.toList[k]? with
    | none =>
      rw [hc] at h
      exact absurd h (by decide)
    | some c =>
      have hlt := lt_of_at hc
      refine ⟨hl, ?_⟩
      rw [atI_nat hc]
      refine ⟨c, rfl, ?_⟩
      show if decide (c ∈ (Str.ofString "0123456789").cps.toList) = true then _ else _
      rw [in_digits]
      refine ite2 (fun hd => ?_) fun hd => ?_
      · refine ⟨m - 1, by omega, k + 1, rfl, by omega, by omega, ?_⟩
        rw [← digEnd_step hc hd, he]
      · refine stop fun d e => ?_
        rw [hc] at e
        cases e
        simpa using hd
  · refine stop fun d e => ?_
    rw [e] at h
    exact absurd rfl h
theorem vc_lowest : VC w_lowest 3 spec_lowest := by
  rintro ss Q Xe ⟨x, y, rfl, a, b, rfl, rfl, hb, hlog, q⟩
  refine ⟨_, _, rfl, (if a < 0 then -a else a), (if b < 0 then -b else b), rfl, rfl, by split <;> omega, by split <;> omega, ?_⟩
  have e1 : (if a < 0 then -a else a) = (a.natAbs : Int) := by split <;> omega
  have e2 : (if b < 0 then -b else b) = (b.natAbs : Int) := by split <;> omega
  rw [e1, e2]
  have eg : Int.gcd (a.natAbs : Int) (b.natAbs : Int) = Int.gcd a b := rfl
  rw [eg]
  have fin : ∀ f : Int, f = (Int.gcd a b : Int) * (if 0 < b then 1 else -1) → (f ≠ 0 ∧ f.natAbs.log2 < 9000) ∧ (f ≠ 0 ∧ f.natAbs.log2 < 9000) ∧ 2 ≤ 100000 ∧ Q (.d (.tup [.int (a.fdiv f), .int (b.fdiv f)])) := fun f hf => by
    obtain ⟨h1, h2, h3⟩ := low_parts (top := a) hb hf
    have hn : f.natAbs = Int.gcd a b := by
      rw [hf]
      split <;> omega
    have hl : f.natAbs.log2 < 9000 := by
      rw [hn]
      refine Nat.lt_of_le_of_lt ?_ hlog
      rw [Nat.le_log2 (by omega)]
      exact Nat.le_trans (Nat.log2_self_le (Nat.pos_iff_ne_zero.mp (gcd_pos hb))) (gcd_le hb)
    rw [h2, h3]
    exact ⟨⟨h1, hl⟩, ⟨h1, hl⟩, by decide, q⟩
  refine ite2 (fun z => ?_) fun z => ?_
  · have hp : 0 < b := of_decide_eq_true z
    exact ⟨.inr (.inl (by decide)), fin _ (by rw [if_pos hp])⟩
  · have hp : ¬ 0 < b := fun k => z (decide_eq_true k)
    exact ⟨.inr (.inl (by decide)), fin _ (by rw [if_neg hp])⟩
theorem vc_decimal_told_2 {z : Str} {s : Int} {a e l : Nat} {Q : RV → Prop} {Xe : Exc → Prop} {u v w : SV} (hz : OkT z) (hh : Hd z.cps.toList s a) (hw : Wh z.cps.toList a e) (hd : Dg z.cps.toList (e + 1) l) (hel : e + 1 < l)
    (q : Q (.d (fr (rat (s * ((segV z.cps.toList a e : Nat) * tenP (l - (e + 1)) + (segV z.cps.toList (e + 1) l : Nat))) (tenP (l - (e + 1))))))) :
    w_decimal_told_2 (fun _ => Xe) { nx := fun _ => Q (.d .non), rt := Q } [.d (.str z), .d (.int a), .d (.int e), .d (.int l), u, v, w] := by
  have hl := hz.lim
  have hl2 := hd.le hel
  have hz2 := hz.2
  obtain ⟨wd, wlt⟩ := hw.dg
  have ht : (tenP (l - (e + 1))).natAbs < 2 ^ 1700 := Nat.lt_of_lt_of_le (tenP_lt _) (Nat.pow_le_pow_right (by decide) (by omega))
  have htp := tenP_pos (l - (e + 1))
  have lt9 := log_lt (m := 9000) ht (by decide)
  have lf := log_lt (m := 9000) (i := (segV z.cps.toList a e : Nat)) (segB hz wd (by omega)) (by decide)
  refine ⟨⟨by omega, by omega⟩, ?_⟩
  have en : ((l : Int) - e - 1).toNat = l - (e + 1) := by omega
  rw [en]
  refine forGo_range (lo := 0) (n := l - (e + 1)) (fun j ρ => ∃ u : SV, ρ = [.d (.str z), .d (.int a), .d (.int e), .d (.int l), .d (.int (tenP j)), u, w]) (fun j ρ hj h M hM => ?_) (fun ρ h => ?_) ⟨_, rfl⟩
  · obtain ⟨u, rfl⟩ := h
    refine ⟨.inr (.inl (by decide)), ?_⟩
    rw [← tenP_succ]
    exact hM _ ⟨_, rfl⟩
  · obtain ⟨u, rfl⟩ := h
    generalize tenP (l - (e + 1)) = P at *
    refine ⟨hl, ?_⟩
    dsimp only [wNil, datas]
    rw [cut_part z (by omega : a ≤ e)]
    refine int_seg hz wd wlt ⟨.inr (.inr (by omega)), hl, ?_⟩
    dsimp only [wNil, datas]
    rw [show (e : Int) + 1 = ((e + 1 : Nat) : Int) by omega, cut_part z (by omega : e + 1 ≤ l)]
    refine int_seg hz hd (by omega) ?_
    refine ⟨rfl, rfl, ?_⟩
    show if peq (.int a) (.int 1) = true then _ else _
    rw [peq_int]
    rcases hh with ⟨rfl, rfl, _⟩ | ⟨rfl, rfl, _⟩
    · refine ite2 (fun k => absurd k (by decide)) fun _ => ?_
      refine ⟨_, _, rfl, _, _, rfl, rfl, by omega, lt9, ?_⟩
      rw [Int.one_mul] at q
      exact q
    · refine ite2 (fun _ => ?_) fun k => absurd rfl k
      refine ⟨_, _, rfl, _, _, rfl, rfl, by omega, lt9, ?_⟩
      rw [Int.neg_mul, Int.one_mul] at q
      exact q
theorem vc_decimal_told : VC w_decimal_told 7 spec_decimal_told := by
  rintro ss Q Xe ⟨z, s, a, e, rfl, hz, hh, hw, hp, q⟩
  have hl := hz.lim
  have hel := lt_of_at hp
  have tp := tell_point hh hw hp rfl
  unfold TellQ at q
  have hd := digEnd_all z.cps.toList (e + 1)
  have hge := digEnd_ge z.cps.toList (e + 1)
  have hle := digEnd_le (cs := z.cps.toList) (a := e + 1) (by omega)
  have stop := fun c => digEnd_at (cs := z.cps.toList) (a := e + 1) (c := c)
  refine ⟨z, e + 1, rfl, hz, hel, ?_⟩
  show w_decimal_told_1 (fun _ => Xe) _ [.d (.str z), .d (.int a), .d (.int e), .d (.int (digEnd z.cps.toList (e + 1) : Nat)), .un, .un, .un]
  generalize digEnd z.cps.toList (e + 1) = l at *
  have raise : (l < z.cps.toList.length ∨ l = e + 1 ∨ z.cps.toList[l - 1]? = some 48) → Xe ⟨"InvalidText", some ("index", .int l)⟩ := fun h => by
    rw [tp, if_pos h, TQ_l] at q
    exact q
  refine ⟨hl, ite2 (fun k => ?_) fun k => ⟨rfl, rfl, ?_⟩⟩
  · have k := of_decide_eq_true k
    rw [len_eq] at k
    exact raise (.inl (by omega))
  · have k1 : ¬ l < z.cps.toList.length := fun h => k (decide_eq_true (by rw [len_eq]; omega))
    show if peq (.int l) (.int ((e : Int) + 1)) = true then _ else _
    rw [peq_int]
    refine ite2 (fun k => ?_) fun k => ?_
    · have k := of_decide_eq_true k
      exact raise (.inr (.inl (by omega)))
    · have k2 : ¬ l = e + 1 := fun h => k (decide_eq_true (by omega))
      obtain ⟨c, c1, c2⟩ := hd (l - 1) (by omega) (by omega)
      refine ⟨hl, ?_⟩
      show match atI z.cps.toList ((l : Int) - 1) with
        | some c => _
        | none => False
      rw [show (l : Int) - 1 = ((l - 1 : Nat) : Int) by omega, atI_nat c1]
      refine ⟨pl_at hz c1, by decide +kernel, ?_⟩
      show if peq (.str ⟨#[c]⟩) (.str "0") = true then _ else _
      rw [peq_at s_0]
      refine ite2 (fun k => ?_) fun k => ?_
      · have k := of_decide_eq_true k
        subst k
        exact raise (.inr (.inr c1))
      · have k3 : ¬ z.cps.toList[l - 1]? = some 48 := fun h => k (decide_eq_true (by rw [c1] at h; exact Option.some.inj h))
        rw [tp, if_neg (by rintro (h | h | h); exact k1 h; exact k2 h; exact k3 h), TQ_fr] at q
        exact vc_decimal_told_2 hz hh hw hd (by omega) q
theorem vc_quotient_told : VC w_quotient_told 6 spec_quotient_told := by
  rintro ss Q Xe ⟨z, s, a, e, rfl, hz, hh, hw, h48, hp, q⟩
  have hl := hz.lim
  have hel := lt_of_at hp
  have tp := tell_stroke hh hw hp h48 rfl
  unfold TellQ at q
  have hd := digEnd_all z.cps.toList (e + 1)
  have hge := digEnd_ge z.cps.toList (e + 1)
  have hle := digEnd_le (cs := z.cps.toList) (a := e + 1) (by omega)
  obtain ⟨wd, wlt⟩ := hw.dg
  refine ⟨hl, ?_⟩
  show _ ∧ _ ∧ if peq (.str (cutS z (some ((e : Int) + 1)) (some ((e : Int) + 2)))) (.str "0") = true then _ else _
  rw [show (e : Int) + 2 = ((e + 1 : Nat) : Int) + 1 by omega, show (e : Int) + 1 = ((e + 1 : Nat) : Int) by omega]
  refine ⟨pl_one hz (e + 1), by decide +kernel, ?_⟩
  rw [cut_one, peq_sg s_0]
  refine ite2 (fun k => ?_) fun k => ?_
  · rw [tp, if_pos (of_decide_eq_true k), TQ_l] at q
    exact q
  have k0 : z.cps.toList[e + 1]? ≠ some 48 := fun h => k (decide_eq_true h)
  rw [tp, if_neg k0] at q
  refine ⟨z, e + 1, rfl, hz, hel, ?_⟩
  show w_quotient_told_2 (fun _ => Xe) _ [.d (.str z), .d (.int a), .d (.int e), .d (.int (digEnd z.cps.toList (e + 1) : Nat)), .un, .un]
  clear tp
  generalize digEnd z.cps.toList (e + 1) = l at *
  refine ⟨hl, ite2 (fun k => ?_) fun k => ⟨rfl, rfl, ?_⟩⟩
  · have k := of_decide_eq_true k
    rw [len_eq] at k
    rw [if_pos (.inl (by omega)), TQ_l] at q
    exact q
  have k1 : ¬ l < z.cps.toList.length := fun h => k (decide_eq_true (by rw [len_eq]; omega))
  show if peq (.int l) (.int ((e : Int) + 1)) = true then _ else _
  rw [peq_int]
  refine ite2 (fun k => ?_) fun k => ?_
  · have k := of_decide_eq_true k
    rw [if_pos (.inr (by omega)), TQ_l] at q
    exact q
  have k2 : ¬ l = e + 1 := fun h => k (decide_eq_true (by omega))
  rw [if_neg (by omega)] at q
  have fp := segV_p h48 wd wlt
  have op := segV_p k0 hd (by omega)
  have ob := segB hz hd (by omega)
  refine ⟨hl, ?_⟩
  dsimp only [wNil, datas]
  rw [cut_head]
  refine int_sign hz hh wd wlt ⟨hl, ?_⟩
  dsimp only [wNil, datas]
  rw [show (e : Int) + 1 = ((e + 1 : Nat) : Int) by omega, cut_tail_s z hel, show z.cps.toList.drop (e + 1) = (z.cps.toList.drop (e + 1)).take (l - (e + 1)) from (List.take_of_length_le (by rw [List.length_drop]; omega)).symm]
  refine int_seg hz hd (by omega) ?_
  have ab : (if s * (segV z.cps.toList a e : Nat) < 0 then -(s * (segV z.cps.toList a e : Nat)) else s * (segV z.cps.toList a e : Nat)) = (segV z.cps.toList a e : Nat) := by
    rcases hh with ⟨rfl, _⟩ | ⟨rfl, _⟩
    · rw [Int.one_mul, if_neg (by omega)]
    · rw [Int.neg_mul, Int.one_mul, if_pos (by omega), Int.neg_neg]
  generalize segV z.cps.toList (e + 1) l = o at *
  generalize segV z.cps.toList a e = f at *
  refine ⟨_, _, rfl, f, o, congrArg D.int ab, rfl, by omega, by omega, ?_⟩
  refine ite2 (fun k => ?_) fun k => ?_
  · have k := of_decide_eq_true k
    rw [if_pos (.inl (by omega)), TQ_l] at q
    exact q
  have g1 : Int.gcd f o = 1 := by
    have := gcd_pos (a := f) (b := o) (by omega)
    have : ¬ (1 : Int) < (Int.gcd f o : Nat) := fun h => k (decide_eq_true h)
    omega
  refine ⟨_, rfl, o, rfl, op, ob, fun h => ?_, fun i j h => ?_⟩
  · rw [if_neg (by rintro (h2 | h2); exact h2 g1; exact h h2), TQ_t] at q
    exact ⟨(show 2 ≤ 100000 by decide), q⟩
  · rw [if_pos (.inr ⟨i, j, h⟩), TQ_l] at q
    exact q
theorem vc_fraction_told : VC w_fraction_told 3 spec_fraction_told := by
  rintro ss Q Xe ⟨x, rfl, h⟩
  rcases h with ⟨h1, h2, q⟩ | ⟨z, rfl, hz, q⟩
  · cases x with
    | str z => exact absurd rfl (h2 z)
    | ins _ _ _ => cases h1
    | _ => exact q
  have hl := hz.lim
  have hh := hd_of z.cps.toList
  have ha : aOf z.cps.toList ≤ z.cps.toList.length := by
    rcases hh with ⟨_, h, _⟩ | ⟨_, h, h3⟩
    · omega
    · rw [h]
      exact lt_of_at h3
  have hav : (if decide (z.cps.toList[0]? = some 45) = true then (1 : Int) else 0) = (aOf z.cps.toList : Nat) := by
    unfold aOf
    by_cases h : z.cps.toList[0]? = some 45
    · rw [if_pos h, if_pos (decide_eq_true h)]
      rfl
    · rw [if_neg h, if_neg (fun e => h (of_decide_eq_true e))]
      rfl
  unfold TellQ at q
  refine ⟨hl, pl_first hz, by decide +kernel, ?_⟩
  show w_fraction_told_2 (fun _ => Xe) { nx := fun _ => Q (.d .non), rt := Q } [.d (.str z), .d (.int (if peq (.str (cutS z none (some 1))) (.str "-") = true then 1 else 0)), .un]
  rw [cut_first, peq_sg s_m, hav]
  generalize sOf z.cps.toList = s at hh
  generalize aOf z.cps.toList = a at hh ha
  clear hav
  refine ⟨hl, pl_one hz a, by decide +kernel, ?_⟩
  show if peq (.str (cutS z (some (a : Int)) (some ((a : Int) + 1)))) (.str "0") = true then _ else _
  rw [cut_one, peq_sg s_0]
  have key : ∀ e : Nat, e ≤ z.cps.toList.length → (e = a → ∀ c, z.cps.toList[a]? = some c → isD c = false) → (e ≠ a → Wh z.cps.toList a e) → w_fraction_told_3 (fun _ => Xe) { nx := fun _ => Q (.d .non), rt := Q } [.d (.str z), .d (.int a), .d (.int e)] := fun e he h1 h2 => by
    refine ⟨rfl, rfl, ?_⟩
    show if peq (.int e) (.int a) = true then _ else _
    rw [peq_int]
    refine ite2 (fun k => ?_) fun k => ?_
    · have k := of_decide_eq_true k
      have k : e = a := by omega
      subst k
      rw [tell_none hh (h1 rfl), TQ_l] at q
      exact q
    have ne : e ≠ a := fun h => k (decide_eq_true (by omega))
    have hw := h2 ne
    obtain ⟨wd, wlt⟩ := hw.dg
    obtain ⟨c, c1, c2⟩ := wd a (Nat.le_refl a) wlt
    refine ⟨hl, pl_one hz e, by decide +kernel, ?_⟩
    show if peq (.str (cutS z (some (e : Int)) (some ((e : Int) + 1)))) (.str ".") = true then _ else _
    rw [cut_one, peq_sg s_p]
    refine ite2 (fun k => ?_) fun k => ?_
    · exact ⟨z, s, a, e, rfl, hz, hh, hw, of_decide_eq_true k, q⟩
    have n46 : z.cps.toList[e]? ≠ some 46 := fun h => k (decide_eq_true h)
    refine ⟨hl, pl_one hz e, by decide +kernel, ?_⟩
    show if peq (.str (cutS z (some (e : Int)) (some ((e : Int) + 1)))) (.str "/") = true then _ else _
    rw [cut_one, peq_sg s_s]
    have fin : ¬ (z.cps.toList[e]? = some 47 ∧ z.cps.toList[a]? ≠ some 48) → w_fraction_told_6 (fun _ => Xe) { nx := fun _ => Q (.d .non), rt := Q } [.d (.str z), .d (.int a), .d (.int e)] := fun n47 => by
      rw [tell_end hh hw n46 n47] at q
      have last : e = z.cps.toList.length → ¬ (a = 1 ∧ z.cps.toList[a]? = some 48) → bIntS [.str z] fun x => 2 ≤ 100000 ∧ Q (.d (.tup [x, .int 1])) := fun h1 h2 => by
        rw [if_neg (by rintro (h | h); omega; exact h2 h), TQ_t] at q
        have := int_sign hz hh wd wlt (Q := fun x => 2 ≤ 100000 ∧ Q (.d (.tup [x, .int 1]))) ⟨by decide, q⟩
        rw [h1, List.take_length] at this
        exact this
      refine ⟨hl, ite2 (fun k => ?_) fun k => ⟨rfl, rfl, ?_⟩⟩
      · have k := of_decide_eq_true k
        rw [len_eq] at k
        rw [if_pos (.inl (by omega)), TQ_l] at q
        exact q
      have k1 : ¬ e < z.cps.toList.length := fun h => k (decide_eq_true (by rw [len_eq]; omega))
      show if peq (.int a) (.int 1) = true then _ else _
      rw [peq_int]
      refine ite2 (fun k => ?_) fun k => ?_
      · have k := of_decide_eq_true k
        refine ⟨hl, ?_⟩
        rw [atI_nat c1]
        refine ⟨pl_at hz c1, by decide +kernel, ?_⟩
        show if peq (.str ⟨#[c]⟩) (.str "0") = true then _ else _
        rw [peq_at s_0]
        refine ite2 (fun k2 => ?_) fun k2 => ?_
        · have k2 := of_decide_eq_true k2
          subst k2
          rw [if_pos (.inr ⟨by omega, c1⟩), TQ_l] at q
          exact q
        · exact last (by omega) fun h => k2 (decide_eq_true (by rw [c1] at h; exact Option.some.inj h.2))
      · exact last (by omega) fun h => k (decide_eq_true (by omega))
    refine ite2 (fun k => ?_) fun k => fin fun h => k (decide_eq_true h.1)
    have k47 := of_decide_eq_true k
    refine ⟨hl, ?_⟩
    rw [atI_nat c1]
    refine ⟨pl_at hz c1, by decide +kernel, ?_⟩
    show if (!peq (.str ⟨#[c]⟩) (.str "0")) = true then _ else _
    rw [peq_at s_0]
    refine ite2 (fun k2 => ?_) fun k2 => fin fun h => ?_
    · refine ⟨z, s, a, e, rfl, hz, hh, hw, fun h => ?_, k47, q⟩
      rw [c1] at h
      rw [Option.some.inj h] at k2
      exact absurd k2 (by decide)
    · by_cases h48 : c = 48
      · subst h48
        exact h.2 c1
      · exact k2 (by rw [decide_eq_false h48]; rfl)
  refine ite2 (fun k => ?_) fun k => ?_
  · have k := of_decide_eq_true k
    exact key (a + 1) (lt_of_at k) (fun h => by omega) fun _ => .inl ⟨k, rfl⟩
  · have n48 : z.cps.toList[a]? ≠ some 48 := fun h => k (decide_eq_true h)
    refine ⟨z, a, rfl, hz, ha, ?_⟩
    have hge := digEnd_ge z.cps.toList a
    refine key _ (digEnd_le ha) (fun h c hc => ?_) fun h => .inr ⟨n48, rfl, by omega⟩
    have := digEnd_at (cs := z.cps.toList) (a := a) (c := c)
    rw [h] at this
    exact this hc
abbrev K1 (s : D) (a : Addr) (fs : List (Str × D)) (a3 a4 a5 : SV) : Env := [.d s, .src, .obj a "{}" fs, a3, a4, a5]
theorem find_same {fs : List (Str × D)} (h : ∀ kv ∈ fs, kv.2 = readD (.str kv.1)) (p : Rat) : (findS fs (textOf p)).getD (fr p) = fr p := by
  cases e : findS fs (textOf p) with
  | none => rfl
  | some v =>
    have := h _ (findS_mem e)
    rw [read_text] at this
    exact this
theorem told_q {p : Rat} {Q : RV → Prop} {Xe : Exc → Prop} (q : Q (.d (fr p))) : TellQ (textOf p).cps.toList Q Xe := by
  unfold TellQ
  rw [show tell (textOf p).cps.toList = fr p from tell_text p, TQ_fr]
  exact q
theorem two_str {z : Str} (h : PyData.strOk z = true) : short 6 (.lst [.str z, .str z]) = true := by
  simp [short, shortL, h]
theorem two_fr (p : Rat) : short 6 (.lst [fr p, fr p]) = true := by
  simp [fr, short, shortL]
theorem lawL8 {s : D} {a : Addr} {fs : List (Str × D)} {DD : DEnds} {k : Int} {p : Rat} (hp : SzT p) (hf : ∀ kv ∈ fs, kv.2 = readD (.str kv.1)) (hl : fs.length ≤ 100)
    (q : ∀ gs, (∀ kv ∈ gs, kv.2 = readD (.str kv.1)) → gs.length ≤ fs.length + 1 → DD.nx (K1 s a gs (.d (.int k)) (.d (fr p)) (.d (.str (textOf p))))) : w_law_L8 (fun _ _ => False) DD (K1 s a fs (.d (.int k)) (.d (fr p)) (.d (.str (textOf p)))) := by
  have pf := plain_fr 38 p
  refine ⟨_, rfl, .inr ⟨_, rfl, ok_text hp, told_q ?_⟩⟩
  refine ⟨rfl, _, rfl, .inr ⟨_, rfl, ok_text hp, told_q ?_⟩⟩
  refine ⟨(show 2 ≤ 100000 by decide), (show 2 ≤ 100000 by decide), _, _, rfl, rfl, two_fr p, ?_⟩
  refine ⟨rfl, ?_⟩
  show plain 40 ((findS fs (textOf p)).getD (fr p)) = true ∧ plain 40 (fr p) = true ∧ if (!peq ((findS fs (textOf p)).getD (fr p)) (fr p)) = true then _ else _
  rw [find_same hf]
  refine ⟨pf, pf, ?_⟩
  rw [peq_refl _ 40 pf]
  refine ⟨rfl, rfl, Nat.ble_eq_true_of_le (by omega), q _ (fun kv m => ?_) (putS_len _ _ _)⟩
  rcases putS_mem m with e | m
  · rw [e]
    exact (read_text p).symm
  · exact hf kv m
theorem lawL5 {s : D} {a : Addr} {fs : List (Str × D)} {DD : DEnds} {k : Int} {a5 : SV} {p : Rat} (hp : SzT p) (hf : ∀ kv ∈ fs, kv.2 = readD (.str kv.1)) (hl : fs.length ≤ 100)
    (q : ∀ gs, (∀ kv ∈ gs, kv.2 = readD (.str kv.1)) → gs.length ≤ fs.length + 1 → DD.nx (K1 s a gs (.d (.int k)) (.d (fr p)) (.d (.str (textOf p))))) : w_law_L5 (fun _ _ => False) DD (K1 s a fs (.d (.int k)) (.d (fr p)) a5) := by
  refine ⟨_, rfl, p, rfl, hp, ?_⟩
  refine ⟨_, rfl, p, rfl, hp, rfl, _, rfl, p, rfl, hp, (show 2 ≤ 100000 by decide), (show 2 ≤ 100000 by decide), _, _, rfl, rfl, two_str (ok_text hp).1, ?_⟩
  exact lawL8 hp hf hl q
theorem vc_law : ∀ ns : List Int, ns.length ≤ 63 → w_law (fun _ _ => False) { nx := fun _ => False, rt := fun r => r = .d (.bl true) } ((.d (.lst (ns.map D.int)) :: List.replicate (["script", "spring", "seen", "turn", "number", "text"].length - 1) SV.un).set 1 .src) := by
  intro ns hn a
  refine ⟨⟨by decide, by decide⟩, ?_⟩
  refine forGo_range (lo := 0) (n := 12) (fun j ρ => ∃ (fs : List (Str × D)) (a3 a4 a5 : SV), ρ = K1 (.lst (ns.map D.int)) a fs a3 a4 a5 ∧ (∀ kv ∈ fs, kv.2 = readD (.str kv.1)) ∧ fs.length ≤ j) (fun j ρ hj h M hM => ?_) (fun ρ h => ?_) ⟨[], _, _, _, rfl, (fun kv m => nomatch m), Nat.le_refl _⟩
  · obtain ⟨fs, a3, a4, a5, rfl, hf, hl⟩ := h
    refine ⟨rfl, fun p hp => ?_⟩
    exact lawL5 hp hf (by omega) fun gs h1 h2 => hM _ ⟨gs, _, _, _, rfl, h1, by omega⟩
  · obtain ⟨fs, a3, a4, a5, rfl, hf, hl⟩ := h
    rfl
end DL
set_option linter.all false
set_option autoImplicit false
set_option maxHeartbeats 4000000
set_option maxRecDepth 100000
namespace DL
open PySem PySem.Spec PyProof.Rows L2
section
variable {P : Program} {w : World} {K : PySem.W.Frag} {mg : Str → Option Value} {base : Heap}
theorem sc__law_low : FnScope ["top", "bottom", "one", "other"] ["top", "bottom"] (defScope s__law_low) := ⟨rfl, rfl, rfl, by decide +kernel, rfl, by decide +kernel, by decide +kernel⟩
theorem fd__law_low (B : Bn mg) (C : Cn K mg)  (T : Xn P K mg) {fa : Addr} {fd : FuncData} (F : Fun K "_law_low" "_law_low" s__law_low fa fd) (hm : mg "_law_low" = some (.ref fa)) (hb : Binds K fd ["top", "bottom"] []) (hk : ∀ p ∈ kws__law_low, KwOk fd ["top", "bottom"] p.1 p.2) : Fd P w K mg base SrcA 1 "_law_low" ["top", "bottom"] kws__law_low spec__law_low :=
  fd_of (wb := w__law_low) F sc__law_low hm hb hk len__law_low (fun cdv A0 outer s0 H0 E0 hr => have A := at_cx (P := P) (w := w) (K := K) (mg := mg) (base := base) (N := ["top", "bottom", "one", "other"]) (outer := outer) (H := H0) (E := E0) hr
   (dss_cons (ds_par2 2 3 sc__law_low.nd (dao_cons (de_cb call_abs lcb_abs B.abs (by decide +kernel) (da_cons (de_var 0) da_nil)) (dao_cons (de_cb call_abs lcb_abs B.abs (by decide +kernel) (da_cons (de_var 1) da_nil)) dao_nil)))
    (dss_cons (ds_while PassesOwn.cx (dt_cmp op_gt lop_gt (de_var 3) de_int (nomark _))
    (dss_one (ds_par2 2 3 sc__law_low.nd (dao_cons (de_var 3) (dao_cons (de_bin op_mod lop_mod (de_cty call_int1 lcb_int B.int (by decide +kernel) (da_cons (de_var 2) da_nil)) (de_var 3)) dao_nil)))))
    (dss_cons (ds_set 2 sc__law_low.nd (de_if (dt_cmp op_gt lop_gt (de_var 1) de_int (nomark _)) (de_var 2) (de_un un_neg lun_neg (de_var 2))))
    (dss_one (ds_ret (de_tup (da_cons (de_bin op_fdivNW lop_fdivN (de_var 0) (de_var 2)) (da_cons (de_bin op_fdivNW lop_fdivN (de_var 1) (de_var 2)) da_nil))))))))) vc__law_low

theorem sc__law_number : FnScope ["spring", "way"] ["spring"] (defScope s__law_number) := ⟨rfl, rfl, rfl, by decide +kernel, rfl, by decide +kernel, by decide +kernel⟩
theorem fd__law_number (B : Bn mg) (C : Cn K mg) (G__law_drop : Fd P w K mg base SrcA 1 "_law_drop" ["spring", "many"] kws__law_drop spec__law_drop) (G__law_low : Fd P w K mg base SrcA 1 "_law_low" ["top", "bottom"] kws__law_low spec__law_low) (T : Xn P K mg) {fa : Addr} {fd : FuncData} (F : Fun K "_law_number" "_law_number" s__law_number fa fd) (hm : mg "_law_number" = some (.ref fa)) (hb : Binds K fd ["spring"] []) (hk : ∀ p ∈ kws__law_number, KwOk fd ["spring"] p.1 p.2) : Fd P w K mg base SrcA 2 "_law_number" ["spring"] kws__law_number spec__law_number :=
  fd_of (wb := w__law_number) F sc__law_number hm hb hk len__law_number (fun cdv A0 outer s0 H0 E0 hr => have A := at_cx (P := P) (w := w) (K := K) (mg := mg) (base := base) (N := ["spring", "way"]) (outer := outer) (H := H0) (E := E0) hr
   (dss_cons (ds_set 1 sc__law_number.nd (de_call A (by omega) G__law_drop (da_src 0 (da_cons de_int da_nil))))
    (dss_cons (ds_if (dt_cmp (op_eqD A.room.units) lop_eq (de_var 1) de_int (nomark _))
    (dss_one (ds_ret (de_tup (da_cons (de_bin op_sub lop_sub (de_call A (by omega) G__law_drop (da_src 0 (da_cons de_int da_nil))) de_int) (da_cons de_int da_nil)))))
    dss_nil)
    (dss_cons (ds_if (dt_cmp op_lt lop_lt (de_var 1) de_int (nomark _))
    (dss_one (ds_ret (de_call A (by omega) G__law_low (da_cons (de_bin op_sub lop_sub (de_call A (by omega) G__law_drop (da_src 0 (da_cons de_int da_nil))) de_int) (da_cons (de_ix (de_lst (da_cons de_int (da_cons de_int (da_cons de_int (da_cons de_int da_nil))))) (de_call A (by omega) G__law_drop (da_src 0 (da_cons de_int da_nil)))) da_nil)))))
    dss_nil)
    (dss_cons (ds_if (dt_cmp op_lt lop_lt (de_var 1) de_int (nomark _))
    (dss_one (ds_ret (de_call A (by omega) G__law_low (da_cons (de_bin op_sub lop_sub (de_call A (by omega) G__law_drop (da_src 0 (da_cons de_int da_nil))) de_int) (da_cons (de_bin op_addD lop_add de_int (de_call A (by omega) G__law_drop (da_src 0 (da_cons de_int da_nil)))) da_nil)))))
    dss_nil)
    (dss_one (ds_ret (de_call A (by omega) G__law_low (da_cons (de_bin op_sub lop_sub (de_call A (by omega) G__law_drop (da_src 0 (da_cons de_int da_nil))) de_int) (da_cons (de_bin op_addD lop_add de_int (de_call A (by omega) G__law_drop (da_src 0 (da_cons de_int da_nil)))) da_nil)))))))))) vc__law_number

theorem sc__law_drawn : FnScope ["spring", "way", "bound", "turn", "bottom"] ["spring"] (defScope s__law_drawn) := ⟨rfl, rfl, rfl, by decide +kernel, rfl, by decide +kernel, by decide +kernel⟩
theorem fd__law_drawn (B : Bn mg) (C : Cn K mg) (G__law_drop : Fd P w K mg base SrcA 1 "_law_drop" ["spring", "many"] kws__law_drop spec__law_drop) (G__law_low : Fd P w K mg base SrcA 1 "_law_low" ["top", "bottom"] kws__law_low spec__law_low) (G__law_number : Fd P w K mg base SrcA 2 "_law_number" ["spring"] kws__law_number spec__law_number) (T : Xn P K mg) {fa : Addr} {fd : FuncData} (F : Fun K "_law_drawn" "_law_drawn" s__law_drawn fa fd) (hm : mg "_law_drawn" = some (.ref fa)) (hb : Binds K fd ["spring"] []) (hk : ∀ p ∈ kws__law_drawn, KwOk fd ["spring"] p.1 p.2) : Fd P w K mg base SrcA 3 "_law_drawn" ["spring"] kws__law_drawn spec__law_drawn :=
  fd_of (wb := w__law_drawn) F sc__law_drawn hm hb hk len__law_drawn (fun cdv A0 outer s0 H0 E0 hr => have A := at_cx (P := P) (w := w) (K := K) (mg := mg) (base := base) (N := ["spring", "way", "bound", "turn", "bottom"]) (outer := outer) (H := H0) (E := E0) hr
   (dss_cons (ds_set 1 sc__law_drawn.nd (de_call A (by omega) G__law_drop (da_src 0 (da_cons de_int da_nil))))
    (dss_cons (ds_if (dt_cmp (op_eqD A.room.units) lop_eq (de_var 1) de_int (nomark _))
    (dss_cons (ds_set 2 sc__law_drawn.nd (de_bin op_pow lop_pow de_int de_int))
    (dss_cons (ds_for PassesOwn.cx (di_range1 B.range de_int) (dg_name 3 sc__law_drawn.nd)
    (dss_one (ds_set 2 sc__law_drawn.nd (de_bin op_mulD lop_mul (de_var 2) (de_bin op_pow lop_pow de_int de_int)))))
    (dss_one (ds_ret (de_call A (by omega) G__law_low (da_cons (de_bin op_sub lop_sub (de_call A (by omega) G__law_drop (da_src 0 (da_cons (de_var 2) da_nil))) (de_bin op_fdivNW lop_fdivN (de_var 2) de_int)) (da_cons (de_bin op_addD lop_add de_int (de_call A (by omega) G__law_drop (da_src 0 (da_cons (de_ix (de_lst (da_cons (de_bin op_pow lop_pow de_int de_int) (da_cons de_int da_nil))) (de_call A (by omega) G__law_drop (da_src 0 (da_cons de_int da_nil)))) da_nil)))) da_nil)))))))
    dss_nil)
    (dss_cons (ds_if (dt_cmp (op_eqD A.room.units) lop_eq (de_var 1) de_int (nomark _))
    (dss_cons (ds_set 4 sc__law_drawn.nd de_int)
    (dss_cons (ds_for PassesOwn.cx (di_range1 B.range (de_call A (by omega) G__law_drop (da_src 0 (da_cons de_int da_nil)))) (dg_name 3 sc__law_drawn.nd)
    (dss_one (ds_set 4 sc__law_drawn.nd (de_bin op_mulD lop_mul (de_var 4) (de_ix (de_lst (da_cons de_int (da_cons de_int (da_cons de_int da_nil)))) (de_call A (by omega) G__law_drop (da_src 0 (da_cons de_int da_nil))))))))
    (dss_one (ds_ret (de_call A (by omega) G__law_low (da_cons (de_bin op_sub lop_sub (de_call A (by omega) G__law_drop (da_src 0 (da_cons (de_bin op_pow lop_pow de_int de_int) da_nil))) (de_bin op_pow lop_pow de_int de_int)) (da_cons (de_var 4) da_nil)))))))
    dss_nil)
    (dss_cons (ds_if (dt_cmp (op_eqD A.room.units) lop_eq (de_var 1) de_int (nomark _))
    (dss_one (ds_ret (de_call A (by omega) G__law_low (da_cons (de_bin op_sub lop_sub (de_call A (by omega) G__law_drop (da_src 0 (da_cons (de_bin op_pow lop_pow de_int de_int) da_nil))) (de_bin op_pow lop_pow de_int de_int)) (da_cons (de_bin op_addD lop_add de_int (de_call A (by omega) G__law_drop (da_src 0 (da_cons (de_bin op_pow lop_pow de_int de_int) da_nil)))) da_nil)))))
    dss_nil)
    (dss_one (ds_ret (de_call A (by omega) G__law_number (da_src 0 da_nil))))))))) vc__law_drawn

theorem sc__law_text : FnScope ["number", "turn", "top", "bottom", "sign", "left", "text", "rest"] ["number"] (defScope s__law_text) := ⟨rfl, rfl, rfl, by decide +kernel, rfl, by decide +kernel, by decide +kernel⟩
theorem fd__law_text (B : Bn mg) (C : Cn K mg)  (T : Xn P K mg) {fa : Addr} {fd : FuncData} (F : Fun K "_law_text" "_law_text" s__law_text fa fd) (hm : mg "_law_text" = some (.ref fa)) (hb : Binds K fd ["number"] []) (hk : ∀ p ∈ kws__law_text, KwOk fd ["number"] p.1 p.2) : Fd P w K mg base SrcA 1 "_law_text" ["number"] kws__law_text spec__law_text :=
  fd_of (wb := w__law_text) F sc__law_text hm hb hk len__law_text (fun cdv A0 outer s0 H0 E0 hr => have A := at_cx (P := P) (w := w) (K := K) (mg := mg) (base := base) (N := ["number", "turn", "top", "bottom", "sign", "left", "text", "rest"]) (outer := outer) (H := H0) (E := E0) hr
   (dss_cons (ds_par2 2 3 sc__law_text.nd (dao_cons (de_cb call_abs lcb_abs B.abs (by decide +kernel) (da_cons (de_ix (de_var 0) de_int) da_nil)) (dao_cons (de_ix (de_var 0) de_int) dao_nil)))
    (dss_cons (ds_par2 4 5 sc__law_text.nd (dao_cons (de_ix (de_lst (da_cons de_str (da_cons de_str da_nil))) (de_cty call_int1 lcb_int B.int (by decide +kernel) (da_cons (de_cmp op_lt lop_lt (de_ix (de_var 0) de_int) de_int (nomark _)) da_nil))) (dao_cons (de_var 3) dao_nil)))
    (dss_cons (ds_for PassesOwn.cx (di_range1 B.range de_int) (dg_name 1 sc__law_text.nd)
    (dss_one (ds_set 5 sc__law_text.nd (de_if (dt_cmp (op_eqD A.room.units) lop_eq (de_bin op_mod lop_mod (de_cty call_int1 lcb_int B.int (by decide +kernel) (da_cons (de_var 5) da_nil)) de_int) de_int (nomark _)) (de_bin op_fdivNW lop_fdivN (de_var 5) de_int) (de_if (dt_cmp (op_eqD A.room.units) lop_eq (de_bin op_mod lop_mod (de_cty call_int1 lcb_int B.int (by decide +kernel) (da_cons (de_var 5) da_nil)) de_int) de_int (nomark _)) (de_bin op_fdivNW lop_fdivN (de_var 5) de_int) (de_var 5))))))
    (dss_cons (ds_if (dt_cmp op_gt lop_gt (de_var 5) de_int (nomark _))
    (dss_one (ds_ret (de_bin op_addD lop_add (de_bin op_addD lop_add (de_bin op_addD lop_add (de_var 4) (de_cty call_str_int lcb_str B.str (by decide +kernel) (da_cons (de_var 2) da_nil))) de_str) (de_cty call_str_int lcb_str B.str (by decide +kernel) (da_cons (de_var 3) da_nil)))))
    dss_nil)
    (dss_cons (ds_par2 6 7 sc__law_text.nd (dao_cons (de_bin op_addD lop_add (de_var 4) (de_cty call_str_int lcb_str B.str (by decide +kernel) (da_cons (de_bin op_fdivNW lop_fdivN (de_var 2) (de_var 3)) da_nil))) (dao_cons (de_bin op_mod lop_mod (de_cty call_int1 lcb_int B.int (by decide +kernel) (da_cons (de_var 2) da_nil)) (de_var 3)) dao_nil)))
    (dss_cons (ds_if (dt_cmp op_gt lop_gt (de_var 7) de_int (nomark _))
    (dss_one (ds_set 6 sc__law_text.nd (de_bin op_addD lop_add (de_var 6) de_str)))
    dss_nil)
    (dss_cons (ds_while PassesOwn.cx (dt_cmp op_gt lop_gt (de_var 7) de_int (nomark _))
    (dss_one (ds_par2 6 7 sc__law_text.nd (dao_cons (de_bin op_addD lop_add (de_var 6) (de_cty call_str_int lcb_str B.str (by decide +kernel) (da_cons (de_bin op_fdivNW lop_fdivN (de_bin op_mulD lop_mul (de_var 7) de_int) (de_var 3)) da_nil))) (dao_cons (de_bin op_mod lop_mod (de_cty call_int1 lcb_int B.int (by decide +kernel) (da_cons (de_bin op_mulD lop_mul (de_var 7) de_int) da_nil)) (de_var 3)) dao_nil)))))
    (dss_one (ds_ret (de_var 6))))))))))) vc__law_text

theorem sc__law_kinds : FnScope ["thing", "found"] ["thing"] (defScope s__law_kinds) := ⟨rfl, rfl, rfl, by decide +kernel, rfl, by decide +kernel, by decide +kernel⟩
theorem fd__law_kinds (B : Bn mg) (C : Cn K mg)  (T : Xn P K mg) {fa : Addr} {fd : FuncData} (F : Fun K "_law_kinds" "_law_kinds" s__law_kinds fa fd) (hm : mg "_law_kinds" = some (.ref fa)) (hb : Binds K fd ["thing"] []) (hk : ∀ p ∈ kws__law_kinds, KwOk fd ["thing"] p.1 p.2) : Fd P w K mg base SrcA 1 "_law_kinds" ["thing"] kws__law_kinds spec__law_kinds :=
  fd_of (wb := w__law_kinds) F sc__law_kinds hm hb hk len__law_kinds (fun cdv A0 outer s0 H0 E0 hr => have A := at_cx (P := P) (w := w) (K := K) (mg := mg) (base := base) (N := ["thing", "found"]) (outer := outer) (H := H0) (E := E0) hr
   (dss_cons (ds_set 1 sc__law_kinds.nd (de_lst (da_cons (de_isi good_bool B.isinstance B.bool (by decide +kernel) (de_var 0)) (da_cons (de_isi good_int B.isinstance B.int (by decide +kernel) (de_var 0)) (da_cons (de_isi good_str B.isinstance B.str (by decide +kernel) (de_var 0)) da_nil)))))
    (dss_one (ds_ret (de_bin op_addD lop_add (de_var 1) (de_lst (da_cons (de_isi good_tuple B.isinstance B.tuple (by decide +kernel) (de_var 0)) (da_cons (de_isi good_list B.isinstance B.list (by decide +kernel) (de_var 0)) (da_cons (de_isN (de_var 0)) da_nil))))))))) vc__law_kinds

theorem sc__law_alike : FnScope ["found", "due", "k"] ["found", "due"] (defScope s__law_alike) := ⟨rfl, rfl, rfl, by decide +kernel, rfl, by decide +kernel, by decide +kernel⟩
theorem fd__law_alike (B : Bn mg) (C : Cn K mg) (G__law_kinds : Fd P w K mg base SrcA 1 "_law_kinds" ["thing"] kws__law_kinds spec__law_kinds) (T : Xn P K mg) {fa : Addr} {fd : FuncData} (F : Fun K "_law_alike" "_law_alike" s__law_alike fa fd) (hm : mg "_law_alike" = some (.ref fa)) (hb : Binds K fd ["found", "due"] []) (hk : ∀ p ∈ kws__law_alike, KwOk fd ["found", "due"] p.1 p.2) : ∀ n : Nat, Fd P w K mg base SrcA (n + 2) "_law_alike" ["found", "due"] kws__law_alike (spec__law_alike n)
  | 0 => fd_of (wb := sNever) F sc__law_alike hm hb hk (len__law_alike 0) (fun cdv A0 outer s0 H0 E0 hr => dss_never) vc0__law_alike
  | n + 1 => have G__law_alike := fd__law_alike B C G__law_kinds T F hm hb hk n
    fd_of (wb := w__law_alike n) F sc__law_alike hm hb hk (len__law_alike (n + 1)) (fun cdv A0 outer s0 H0 E0 hr => have A := at_cx (P := P) (w := w) (K := K) (mg := mg) (base := base) (N := ["found", "due", "k"]) (outer := outer) (H := H0) (E := E0) hr
   (dss_cons (ds_if (dt_cmp (op_neD A.room.units) lop_ne (de_call A (by omega) G__law_kinds (da_cons (de_var 0) da_nil)) (de_call A (by omega) G__law_kinds (da_cons (de_var 1) da_nil)) (nomark _))
    (dss_one (ds_ret de_bl))
    dss_nil)
    (dss_cons (ds_if (dt_val (de_isi2 good_tuple good_list B.isinstance B.tuple (by decide +kernel) B.list (by decide +kernel) (de_var 1)))
    (dss_one (ds_ret (de_and (de_cmp (op_eqD A.room.units) lop_eq (de_cb call_lenE lcb_len B.len (by decide +kernel) (da_cons (de_var 0) da_nil)) (de_cb call_lenE lcb_len B.len (by decide +kernel) (da_cons (de_var 1) da_nil)) (nomark _)) (de_one (de_cb (cr_all rfl) lcb_all B.all (by decide +kernel) (da_cons (de_ofL (dl_comp (own := [("k", 2)]) rfl sc__law_alike.nd (di_range1 B.range (de_cb call_lenE lcb_len B.len (by decide +kernel) (da_cons (de_var 1) da_nil))) (blkOk_by (own := [("k", 2)]) rfl) (fun s H C cl fp => (dgw_name 2 sc__law_alike.nd (by decide))) (fun s H C cl fp => dts_nil) (fun s H C cl fp => (de_call (A.blk s H _ _ fp) (by omega) G__law_alike (da_cons (de_ix (de_var 0) (de_var 2)) (da_cons (de_ix (de_var 1) (de_var 2)) da_nil)))))) da_nil))))))
    dss_nil)
    (dss_one (ds_ret (de_cmp (op_eqD A.room.units) lop_eq (de_var 0) (de_var 1) (nomark _))))))) (vc__law_alike n)

theorem sc_is_integer : FnScope ["value"] ["value"] (defScope s_is_integer) := ⟨rfl, rfl, rfl, by decide +kernel, rfl, by decide +kernel, by decide +kernel⟩
theorem fd_is_integer (B : Bn mg) (C : Cn K mg)  (T : Xn P K mg) {fa : Addr} {fd : FuncData} (F : Fun K "is_integer" "is_integer" s_is_integer fa fd) (hm : mg "is_integer" = some (.ref fa)) (hb : Binds K fd ["value"] []) (hk : ∀ p ∈ kws_is_integer, KwOk fd ["value"] p.1 p.2) : Fd P w K mg base SrcA 1 "is_integer" ["value"] kws_is_integer spec_is_integer :=
  fd_of (wb := w_is_integer) F sc_is_integer hm hb hk len_is_integer (fun cdv A0 outer s0 H0 E0 hr => have A := at_cx (P := P) (w := w) (K := K) (mg := mg) (base := base) (N := ["value"]) (outer := outer) (H := H0) (E := E0) hr
   (dss_one (ds_ret (de_and (de_isi good_int B.isinstance B.int (by decide +kernel) (de_var 0)) (de_one (de_not (de_isi good_bool B.isinstance B.bool (by decide +kernel) (de_var 0)))))))) vc_is_integer

theorem sc_common : FnScope ["one", "other"] ["one", "other"] (defScope s_common) := ⟨rfl, rfl, rfl, by decide +kernel, rfl, by decide +kernel, by decide +kernel⟩
theorem fd_common (B : Bn mg) (C : Cn K mg)  (T : Xn P K mg) {fa : Addr} {fd : FuncData} (F : Fun K "common" "common" s_common fa fd) (hm : mg "common" = some (.ref fa)) (hb : Binds K fd ["one", "other"] []) (hk : ∀ p ∈ kws_common, KwOk fd ["one", "other"] p.1 p.2) : Fd P w K mg base SrcA 1 "common" ["one", "other"] kws_common spec_common :=
  fd_of (wb := w_common) F sc_common hm hb hk len_common (fun cdv A0 outer s0 H0 E0 hr => have A := at_cx (P := P) (w := w) (K := K) (mg := mg) (base := base) (N := ["one", "other"]) (outer := outer) (H := H0) (E := E0) hr
   (dss_cons (ds_while PassesOwn.cx (dt_cmp op_gt lop_gt (de_var 1) de_int (nomark _))
    (dss_one (ds_par2 0 1 sc_common.nd (dao_cons (de_var 1) (dao_cons (de_bin op_mod lop_mod (de_var 0) (de_var 1)) dao_nil)))))
    (dss_one (ds_ret (de_var 0))))) vc_common

theorem sc_is_fraction : FnScope ["value"] ["value"] (defScope s_is_fraction) := ⟨rfl, rfl, rfl, by decide +kernel, rfl, by decide +kernel, by decide +kernel⟩
theorem fd_is_fraction (B : Bn mg) (C : Cn K mg) (G_is_integer : Fd P w K mg base SrcA 1 "is_integer" ["value"] kws_is_integer spec_is_integer) (G_common : Fd P w K mg base SrcA 1 "common" ["one", "other"] kws_common spec_common) (T : Xn P K mg) {fa : Addr} {fd : FuncData} (F : Fun K "is_fraction" "is_fraction" s_is_fraction fa fd) (hm : mg "is_fraction" = some (.ref fa)) (hb : Binds K fd ["value"] []) (hk : ∀ p ∈ kws_is_fraction, KwOk fd ["value"] p.1 p.2) : Fd P w K mg base SrcA 2 "is_fraction" ["value"] kws_is_fraction spec_is_fraction :=
  fd_of (wb := w_is_fraction) F sc_is_fraction hm hb hk len_is_fraction (fun cdv A0 outer s0 H0 E0 hr => have A := at_cx (P := P) (w := w) (K := K) (mg := mg) (base := base) (N := ["value"]) (outer := outer) (H := H0) (E := E0) hr
   (dss_cons (ds_if (DW.dt (dw_or (dt_not (dt_val (de_isi good_tuple B.isinstance B.tuple (by decide +kernel) (de_var 0)))) (dw_or (dt_cmp (op_neD A.room.units) lop_ne (de_cb call_lenE lcb_len B.len (by decide +kernel) (da_cons (de_var 0) da_nil)) de_int (nomark _)) (dw_or (dt_not (dt_val (de_call A (by omega) G_is_integer (da_cons (de_ix (de_var 0) de_int) da_nil)))) (dw_or1 (dt_not (dt_val (de_call A (by omega) G_is_integer (da_cons (de_ix (de_var 0) de_int) da_nil)))))))))
    (dss_one (ds_ret de_bl))
    dss_nil)
    (dss_one (ds_ret (de_and (de_cmp op_gt lop_gt (de_ix (de_var 0) de_int) de_int (nomark _)) (de_one (de_cmp (op_eqD A.room.units) lop_eq (de_call A (by omega) G_common (da_cons (de_cb call_abs lcb_abs B.abs (by decide +kernel) (da_cons (de_ix (de_var 0) de_int) da_nil)) (da_cons (de_ix (de_var 0) de_int) da_nil))) de_int (nomark _)))))))) vc_is_fraction

theorem sc_check_fractions : FnScope ["numbers", "number"] ["numbers"] (defScope s_check_fractions) := ⟨rfl, rfl, rfl, by decide +kernel, rfl, by decide +kernel, by decide +kernel⟩
theorem fd_check_fractions (B : Bn mg) (C : Cn K mg) (G_is_fraction : Fd P w K mg base SrcA 2 "is_fraction" ["value"] kws_is_fraction spec_is_fraction) (T : Xn P K mg) {fa : Addr} {fd : FuncData} (F : Fun K "check_fractions" "check_fractions" s_check_fractions fa fd) (hm : mg "check_fractions" = some (.ref fa)) (hb : Binds K fd ["numbers"] []) (hk : ∀ p ∈ kws_check_fractions, KwOk fd ["numbers"] p.1 p.2) : Fd P w K mg base SrcA 3 "check_fractions" ["numbers"] kws_check_fractions spec_check_fractions :=
  fd_of (wb := w_check_fractions) F sc_check_fractions hm hb hk len_check_fractions (fun cdv A0 outer s0 H0 E0 hr => have A := at_cx (P := P) (w := w) (K := K) (mg := mg) (base := base) (N := ["numbers", "number"]) (outer := outer) (H := H0) (E := E0) hr
   (dss_one (ds_if (dt_not (dt_val (de_cb (cr_all rfl) lcb_all B.all (by decide +kernel) (da_cons (de_ofL (dl_comp (own := [("number", 1)]) rfl sc_check_fractions.nd (di_seq (de_var 0)) (blkOk_by (own := [("number", 1)]) rfl) (fun s H C cl fp => (dgw_name 1 sc_check_fractions.nd (by decide))) (fun s H C cl fp => dts_nil) (fun s H C cl fp => (de_call (A.blk s H _ _ fp) (by omega) G_is_fraction (da_cons (de_var 1) da_nil))))) da_nil))))
    (dss_one ds_never)
    dss_nil))) vc_check_fractions

theorem sc_places_of : FnScope ["bottom", "places", "left", "prime"] ["bottom"] (defScope s_places_of) := ⟨rfl, rfl, rfl, by decide +kernel, rfl, by decide +kernel, by decide +kernel⟩
theorem fd_places_of (B : Bn mg) (C : Cn K mg)  (T : Xn P K mg) {fa : Addr} {fd : FuncData} (F : Fun K "places_of" "places_of" s_places_of fa fd) (hm : mg "places_of" = some (.ref fa)) (hb : Binds K fd ["bottom"] []) (hk : ∀ p ∈ kws_places_of, KwOk fd ["bottom"] p.1 p.2) : Fd P w K mg base SrcA 1 "places_of" ["bottom"] kws_places_of spec_places_of :=
  fd_of (wb := w_places_of) F sc_places_of hm hb hk len_places_of (fun cdv A0 outer s0 H0 E0 hr => have A := at_cx (P := P) (w := w) (K := K) (mg := mg) (base := base) (N := ["bottom", "places", "left", "prime"]) (outer := outer) (H := H0) (E := E0) hr
   (dss_cons (ds_set 1 sc_places_of.nd de_int)
    (dss_cons (ds_set 2 sc_places_of.nd (de_var 0))
    (dss_cons (ds_while PassesOwn.cx (DW.dt (dw_and (dt_cmp op_gt lop_gt (de_var 2) de_int (nomark _)) (dw_and1 (DW.dt (dw_or (dt_cmp (op_eqD A.room.units) lop_eq (de_bin op_mod lop_mod (de_var 2) de_int) de_int (nomark _)) (dw_or1 (dt_cmp (op_eqD A.room.units) lop_eq (de_bin op_mod lop_mod (de_var 2) de_int) de_int (nomark _))))))))
    (dss_cons (ds_for PassesOwn.cx (di_seq (de_tup (da_cons de_int (da_cons de_int da_nil)))) (dg_name 3 sc_places_of.nd)
    (dss_one (ds_if (dt_cmp (op_eqD A.room.units) lop_eq (de_bin op_mod lop_mod (de_var 2) (de_var 3)) de_int (nomark _))
    (dss_one (ds_set 2 sc_places_of.nd (de_bin op_fdivNW lop_fdivN (de_var 2) (de_var 3))))
    dss_nil)))
    (dss_one (ds_augI 1 sc_places_of.nd ip_add de_int))))
    (dss_one (ds_ret (de_if (dt_cmp (op_eqD A.room.units) lop_eq (de_var 2) de_int (nomark _)) (de_var 1) de_non))))))) vc_places_of

theorem sc_fraction_text : FnScope ["number", "places", "power", "turn", "top", "bottom", "whole", "rest"] ["number"] (defScope s_fraction_text) := ⟨rfl, rfl, rfl, by decide +kernel, rfl, by decide +kernel, by decide +kernel⟩
theorem fd_fraction_text (B : Bn mg) (C : Cn K mg) (G_check_fractions : Fd P w K mg base SrcA 3 "check_fractions" ["numbers"] kws_check_fractions spec_check_fractions) (G_places_of : Fd P w K mg base SrcA 1 "places_of" ["bottom"] kws_places_of spec_places_of) (T : Xn P K mg) {fa : Addr} {fd : FuncData} (F : Fun K "fraction_text" "fraction_text" s_fraction_text fa fd) (hm : mg "fraction_text" = some (.ref fa)) (hb : Binds K fd ["number"] []) (hk : ∀ p ∈ kws_fraction_text, KwOk fd ["number"] p.1 p.2) : Fd P w K mg base SrcA 4 "fraction_text" ["number"] kws_fraction_text spec_fraction_text :=
  fd_of (wb := w_fraction_text) F sc_fraction_text hm hb hk len_fraction_text (fun cdv A0 outer s0 H0 E0 hr => have A := at_cx (P := P) (w := w) (K := K) (mg := mg) (base := base) (N := ["number", "places", "power", "turn", "top", "bottom", "whole", "rest"]) (outer := outer) (H := H0) (E := E0) hr
   (dss_cons (ds_drop (de_call A (by omega) G_check_fractions (da_cons (de_tup (da_cons (de_var 0) da_nil)) da_nil)))
    (dss_cons (ds_asg (de_var 0) (dg_tup (dgs_cons (dg_name 4 sc_fraction_text.nd) (dgs_cons (dg_name 5 sc_fraction_text.nd) dgs_nil))))
    (dss_cons (ds_set 1 sc_fraction_text.nd (de_call A (by omega) G_places_of (da_cons (de_var 5) da_nil)))
    (dss_cons (ds_if (DW.dt (dw_or (dt_isN (de_var 1)) (dw_or1 (dt_cmp (op_eqD A.room.units) lop_eq (de_var 1) de_int (nomark _)))))
    (dss_one (ds_ret (de_if (dt_cmp (op_eqD A.room.units) lop_eq (de_var 1) de_int (nomark _)) (de_cty call_str_int lcb_str B.str (by decide +kernel) (da_cons (de_var 4) da_nil)) (de_bin op_addD lop_add (de_bin op_addD lop_add (de_cty call_str_int lcb_str B.str (by decide +kernel) (da_cons (de_var 4) da_nil)) de_str) (de_cty call_str_int lcb_str B.str (by decide +kernel) (da_cons (de_var 5) da_nil))))))
    dss_nil)
    (dss_cons (ds_set 2 sc_fraction_text.nd de_int)
    (dss_cons (ds_for PassesOwn.cx (di_range1 B.range (de_var 1)) (dg_name 3 sc_fraction_text.nd)
    (dss_one (ds_set 2 sc_fraction_text.nd (de_bin op_mulD lop_mul (de_var 2) de_int))))
    (dss_cons (ds_par2 6 7 sc_fraction_text.nd (dao_cons (de_bin op_fdivNW lop_fdivN (de_bin op_mulD lop_mul (de_cb call_abs lcb_abs B.abs (by decide +kernel) (da_cons (de_var 4) da_nil)) (de_bin op_fdivNW lop_fdivN (de_var 2) (de_var 5))) (de_var 2)) (dao_cons (de_bin op_mod lop_mod (de_bin op_mulD lop_mul (de_cb call_abs lcb_abs B.abs (by decide +kernel) (da_cons (de_var 4) da_nil)) (de_bin op_fdivNW lop_fdivN (de_var 2) (de_var 5))) (de_var 2)) dao_nil)))
    (dss_one (ds_ret (de_bin op_addD lop_add (de_bin op_addD lop_add (de_bin op_addD lop_add (de_if (dt_cmp op_lt lop_lt (de_var 4) de_int (nomark _)) de_str de_str) (de_cty call_str_int lcb_str B.str (by decide +kernel) (da_cons (de_var 6) da_nil))) de_str) (de_slice (de_cty call_str_int lcb_str B.str (by decide +kernel) (da_cons (de_bin op_addD lop_add (de_var 2) (de_var 7)) da_nil)) (do_some de_int) do_none)))))))))))) vc_fraction_text

theorem sc_digits_end : FnScope ["text", "at"] ["text", "at"] (defScope s_digits_end) := ⟨rfl, rfl, rfl, by decide +kernel, rfl, by decide +kernel, by decide +kernel⟩
theorem fd_digits_end (B : Bn mg) (C : Cn K mg)  (T : Xn P K mg) {fa : Addr} {fd : FuncData} (F : Fun K "digits_end" "digits_end" s_digits_end fa fd) (hm : mg "digits_end" = some (.ref fa)) (hb : Binds K fd ["text", "at"] []) (hk : ∀ p ∈ kws_digits_end, KwOk fd ["text", "at"] p.1 p.2) : Fd P w K mg base SrcA 1 "digits_end" ["text", "at"] kws_digits_end spec_digits_end :=
  fd_of (wb := w_digits_end) F sc_digits_end hm hb hk len_digits_end (fun cdv A0 outer s0 H0 E0 hr => have A := at_cx (P := P) (w := w) (K := K) (mg := mg) (base := base) (N := ["text", "at"]) (outer := outer) (H := H0) (E := E0) hr
   (dss_cons (ds_while PassesOwn.cx (DW.dt (dw_and (dt_cmp (op_neD A.room.units) lop_ne (de_slice (de_var 0) (do_some (de_var 1)) (do_some (de_bin op_addD lop_add (de_var 1) de_int))) de_str (nomark _)) (dw_and1 (dt_cmp op_in_sign lop_inC (de_ix (de_var 0) (de_var 1)) (de_gc C.DIGITS) (by with_unfolding_all rfl)))))
    (dss_one (ds_augI 1 sc_digits_end.nd ip_add de_int)))
    (dss_one (ds_ret (de_var 1))))) vc_digits_end

theorem sc_lowest : FnScope ["top", "bottom", "factor"] ["top", "bottom"] (defScope s_lowest) := ⟨rfl, rfl, rfl, by decide +kernel, rfl, by decide +kernel, by decide +kernel⟩
theorem fd_lowest (B : Bn mg) (C : Cn K mg) (G_common : Fd P w K mg base SrcA 1 "common" ["one", "other"] kws_common spec_common) (T : Xn P K mg) {fa : Addr} {fd : FuncData} (F : Fun K "lowest" "lowest" s_lowest fa fd) (hm : mg "lowest" = some (.ref fa)) (hb : Binds K fd ["top", "bottom"] []) (hk : ∀ p ∈ kws_lowest, KwOk fd ["top", "bottom"] p.1 p.2) : Fd P w K mg base SrcA 2 "lowest" ["top", "bottom"] kws_lowest spec_lowest :=
  fd_of (wb := w_lowest) F sc_lowest hm hb hk len_lowest (fun cdv A0 outer s0 H0 E0 hr => have A := at_cx (P := P) (w := w) (K := K) (mg := mg) (base := base) (N := ["top", "bottom", "factor"]) (outer := outer) (H := H0) (E := E0) hr
   (dss_cons (ds_set 2 sc_lowest.nd (de_bin op_mulD lop_mul (de_call A (by omega) G_common (da_cons (de_cb call_abs lcb_abs B.abs (by decide +kernel) (da_cons (de_var 0) da_nil)) (da_cons (de_cb call_abs lcb_abs B.abs (by decide +kernel) (da_cons (de_var 1) da_nil)) da_nil))) (de_if (dt_cmp op_gt lop_gt (de_var 1) de_int (nomark _)) de_int (de_un un_neg lun_neg de_int))))
    (dss_one (ds_ret (de_tup (da_cons (de_bin op_fdivNW lop_fdivN (de_var 0) (de_var 2)) (da_cons (de_bin op_fdivNW lop_fdivN (de_var 1) (de_var 2)) da_nil))))))) vc_lowest

theorem sc_decimal_told : FnScope ["text", "at", "end", "last", "power", "turn", "top"] ["text", "at", "end"] (defScope s_decimal_told) := ⟨rfl, rfl, rfl, by decide +kernel, rfl, by decide +kernel, by decide +kernel⟩
theorem fd_decimal_told (B : Bn mg) (C : Cn K mg) (G_lowest : Fd P w K mg base SrcA 2 "lowest" ["top", "bottom"] kws_lowest spec_lowest) (G_digits_end : Fd P w K mg base SrcA 1 "digits_end" ["text", "at"] kws_digits_end spec_digits_end) (T : Xn P K mg) {fa : Addr} {fd : FuncData} (F : Fun K "decimal_told" "decimal_told" s_decimal_told fa fd) (hm : mg "decimal_told" = some (.ref fa)) (hb : Binds K fd ["text", "at", "end"] []) (hk : ∀ p ∈ kws_decimal_told, KwOk fd ["text", "at", "end"] p.1 p.2) : Fd P w K mg base SrcA 3 "decimal_told" ["text", "at", "end"] kws_decimal_told spec_decimal_told :=
  fd_of (wb := w_decimal_told) F sc_decimal_told hm hb hk len_decimal_told (fun cdv A0 outer s0 H0 E0 hr => have A := at_cx (P := P) (w := w) (K := K) (mg := mg) (base := base) (N := ["text", "at", "end", "last", "power", "turn", "top"]) (outer := outer) (H := H0) (E := E0) hr
   (dss_cons (ds_set 3 sc_decimal_told.nd (de_call A (by omega) G_digits_end (da_cons (de_var 0) (da_cons (de_bin op_addD lop_add (de_var 2) de_int) da_nil))))
    (dss_cons (ds_if (DW.dt (dw_or (dt_cmp op_lt lop_lt (de_var 3) (de_cb call_lenE lcb_len B.len (by decide +kernel) (da_cons (de_var 0) da_nil)) (nomark _)) (dw_or (dt_cmp (op_eqD A.room.units) lop_eq (de_var 3) (de_bin op_addD lop_add (de_var 2) de_int) (nomark _)) (dw_or1 (dt_cmp (op_eqD A.room.units) lop_eq (de_ix (de_var 0) (de_bin op_sub lop_sub (de_var 3) de_int)) de_str (nomark _))))))
    (dss_one (ds_raise1 A T.InvalidText (de_var 3)))
    dss_nil)
    (dss_cons (ds_set 4 sc_decimal_told.nd de_int)
    (dss_cons (ds_for PassesOwn.cx (di_range1 B.range (de_bin op_sub lop_sub (de_bin op_sub lop_sub (de_var 3) (de_var 2)) de_int)) (dg_name 5 sc_decimal_told.nd)
    (dss_one (ds_set 4 sc_decimal_told.nd (de_bin op_mulD lop_mul (de_var 4) de_int))))
    (dss_cons (ds_set 6 sc_decimal_told.nd (de_bin op_addD lop_add (de_bin op_mulD lop_mul (de_cty call_int_str lcb_intS B.int (by decide +kernel) (da_cons (de_slice (de_var 0) (do_some (de_var 1)) (do_some (de_var 2))) da_nil)) (de_var 4)) (de_cty call_int_str lcb_intS B.int (by decide +kernel) (da_cons (de_slice (de_var 0) (do_some (de_bin op_addD lop_add (de_var 2) de_int)) (do_some (de_var 3))) da_nil))))
    (dss_one (ds_ret (de_call A (by omega) G_lowest (da_cons (de_if (dt_cmp (op_eqD A.room.units) lop_eq (de_var 1) de_int (nomark _)) (de_un un_neg lun_neg (de_var 6)) (de_var 6)) (da_cons (de_var 4) da_nil))))))))))) vc_decimal_told

theorem sc_quotient_told : FnScope ["text", "at", "end", "last", "top", "bottom"] ["text", "at", "end"] (defScope s_quotient_told) := ⟨rfl, rfl, rfl, by decide +kernel, rfl, by decide +kernel, by decide +kernel⟩
theorem fd_quotient_told (B : Bn mg) (C : Cn K mg) (G_common : Fd P w K mg base SrcA 1 "common" ["one", "other"] kws_common spec_common) (G_places_of : Fd P w K mg base SrcA 1 "places_of" ["bottom"] kws_places_of spec_places_of) (G_digits_end : Fd P w K mg base SrcA 1 "digits_end" ["text", "at"] kws_digits_end spec_digits_end) (T : Xn P K mg) {fa : Addr} {fd : FuncData} (F : Fun K "quotient_told" "quotient_told" s_quotient_told fa fd) (hm : mg "quotient_told" = some (.ref fa)) (hb : Binds K fd ["text", "at", "end"] []) (hk : ∀ p ∈ kws_quotient_told, KwOk fd ["text", "at", "end"] p.1 p.2) : Fd P w K mg base SrcA 2 "quotient_told" ["text", "at", "end"] kws_quotient_told spec_quotient_told :=
  fd_of (wb := w_quotient_told) F sc_quotient_told hm hb hk len_quotient_told (fun cdv A0 outer s0 H0 E0 hr => have A := at_cx (P := P) (w := w) (K := K) (mg := mg) (base := base) (N := ["text", "at", "end", "last", "top", "bottom"]) (outer := outer) (H := H0) (E := E0) hr
   (dss_cons (ds_if (dt_cmp (op_eqD A.room.units) lop_eq (de_slice (de_var 0) (do_some (de_bin op_addD lop_add (de_var 2) de_int)) (do_some (de_bin op_addD lop_add (de_var 2) de_int))) de_str (nomark _))
    (dss_one (ds_raise1 A T.InvalidText (de_bin op_addD lop_add (de_var 2) de_int)))
    dss_nil)
    (dss_cons (ds_set 3 sc_quotient_told.nd (de_call A (by omega) G_digits_end (da_cons (de_var 0) (da_cons (de_bin op_addD lop_add (de_var 2) de_int) da_nil))))
    (dss_cons (ds_if (DW.dt (dw_or (dt_cmp op_lt lop_lt (de_var 3) (de_cb call_lenE lcb_len B.len (by decide +kernel) (da_cons (de_var 0) da_nil)) (nomark _)) (dw_or1 (dt_cmp (op_eqD A.room.units) lop_eq (de_var 3) (de_bin op_addD lop_add (de_var 2) de_int) (nomark _)))))
    (dss_one (ds_raise1 A T.InvalidText (de_var 3)))
    dss_nil)
    (dss_cons (ds_par2 4 5 sc_quotient_told.nd (dao_cons (de_cty call_int_str lcb_intS B.int (by decide +kernel) (da_cons (de_slice (de_var 0) do_none (do_some (de_var 2))) da_nil)) (dao_cons (de_cty call_int_str lcb_intS B.int (by decide +kernel) (da_cons (de_slice (de_var 0) (do_some (de_bin op_addD lop_add (de_var 2) de_int)) do_none) da_nil)) dao_nil)))
    (dss_cons (ds_if (DW.dt (dw_or (dt_cmp op_gt lop_gt (de_call A (by omega) G_common (da_cons (de_cb call_abs lcb_abs B.abs (by decide +kernel) (da_cons (de_var 4) da_nil)) (da_cons (de_var 5) da_nil))) de_int (nomark _)) (dw_or1 (dt_notN (de_call A (by omega) G_places_of (da_cons (de_var 5) da_nil))))))
    (dss_one (ds_raise1 A T.InvalidText (de_var 3)))
    dss_nil)
    (dss_one (ds_ret (de_tup (da_cons (de_var 4) (da_cons (de_var 5) da_nil))))))))))) vc_quotient_told

theorem sc_fraction_told : FnScope ["text", "at", "end"] ["text"] (defScope s_fraction_told) := ⟨rfl, rfl, rfl, by decide +kernel, rfl, by decide +kernel, by decide +kernel⟩
theorem fd_fraction_told (B : Bn mg) (C : Cn K mg) (G_digits_end : Fd P w K mg base SrcA 1 "digits_end" ["text", "at"] kws_digits_end spec_digits_end) (G_decimal_told : Fd P w K mg base SrcA 3 "decimal_told" ["text", "at", "end"] kws_decimal_told spec_decimal_told) (G_quotient_told : Fd P w K mg base SrcA 2 "quotient_told" ["text", "at", "end"] kws_quotient_told spec_quotient_told) (T : Xn P K mg) {fa : Addr} {fd : FuncData} (F : Fun K "fraction_told" "fraction_told" s_fraction_told fa fd) (hm : mg "fraction_told" = some (.ref fa)) (hb : Binds K fd ["text"] []) (hk : ∀ p ∈ kws_fraction_told, KwOk fd ["text"] p.1 p.2) : Fd P w K mg base SrcA 4 "fraction_told" ["text"] kws_fraction_told spec_fraction_told :=
  fd_of (wb := w_fraction_told) F sc_fraction_told hm hb hk len_fraction_told (fun cdv A0 outer s0 H0 E0 hr => have A := at_cx (P := P) (w := w) (K := K) (mg := mg) (base := base) (N := ["text", "at", "end"]) (outer := outer) (H := H0) (E := E0) hr
   (dss_cons (ds_if (dt_not (dt_val (de_isi good_str B.isinstance B.str (by decide +kernel) (de_var 0))))
    (dss_one (ds_raise1 A T.InvalidText de_int))
    dss_nil)
    (dss_cons (ds_set 1 sc_fraction_told.nd (de_cty call_int1 lcb_int B.int (by decide +kernel) (da_cons (de_cmp (op_eqD A.room.units) lop_eq (de_slice (de_var 0) do_none (do_some de_int)) de_str (nomark _)) da_nil)))
    (dss_cons (ds_set 2 sc_fraction_told.nd (de_if (dt_cmp (op_eqD A.room.units) lop_eq (de_slice (de_var 0) (do_some (de_var 1)) (do_some (de_bin op_addD lop_add (de_var 1) de_int))) de_str (nomark _)) (de_bin op_addD lop_add (de_var 1) de_int) (de_call A (by omega) G_digits_end (da_cons (de_var 0) (da_cons (de_var 1) da_nil)))))
    (dss_cons (ds_if (dt_cmp (op_eqD A.room.units) lop_eq (de_var 2) (de_var 1) (nomark _))
    (dss_one (ds_raise1 A T.InvalidText (de_var 1)))
    dss_nil)
    (dss_cons (ds_if (dt_cmp (op_eqD A.room.units) lop_eq (de_slice (de_var 0) (do_some (de_var 2)) (do_some (de_bin op_addD lop_add (de_var 2) de_int))) de_str (nomark _))
    (dss_one (ds_ret (de_call A (by omega) G_decimal_told (da_cons (de_var 0) (da_cons (de_var 1) (da_cons (de_var 2) da_nil))))))
    dss_nil)
    (dss_cons (ds_if (DW.dt (dw_and (dt_cmp (op_eqD A.room.units) lop_eq (de_slice (de_var 0) (do_some (de_var 2)) (do_some (de_bin op_addD lop_add (de_var 2) de_int))) de_str (nomark _)) (dw_and1 (dt_cmp (op_neD A.room.units) lop_ne (de_ix (de_var 0) (de_var 1)) de_str (nomark _)))))
    (dss_one (ds_ret (de_call A (by omega) G_quotient_told (da_cons (de_var 0) (da_cons (de_var 1) (da_cons (de_var 2) da_nil))))))
    dss_nil)
    (dss_cons (ds_if (DW.dt (dw_or (dt_cmp op_lt lop_lt (de_var 2) (de_cb call_lenE lcb_len B.len (by decide +kernel) (da_cons (de_var 0) da_nil)) (nomark _)) (dw_or1 (DW.dt (dw_and (dt_cmp (op_eqD A.room.units) lop_eq (de_var 1) de_int (nomark _)) (dw_and1 (dt_cmp (op_eqD A.room.units) lop_eq (de_ix (de_var 0) (de_var 1)) de_str (nomark _))))))))
    (dss_one (ds_raise1 A T.InvalidText (de_var 2)))
    dss_nil)
    (dss_one (ds_ret (de_tup (da_cons (de_cty call_int_str lcb_intS B.int (by decide +kernel) (da_cons (de_var 0) da_nil)) (da_cons de_int da_nil))))))))))))) vc_fraction_told

end
end DL
set_option linter.all false
set_option autoImplicit false
set_option maxHeartbeats 4000000
set_option maxRecDepth 100000
namespace DL
open PySem PySem.Spec PyProof.Rows L2
section
variable {P : Program} {w : World} {K : PySem.W.Frag} {mg : Str → Option Value} {base : Heap}
theorem sc_law : FnScope ["script", "spring", "seen", "turn", "number", "text"] ["script"] (defScope s_law) := ⟨rfl, rfl, rfl, by decide +kernel, rfl, by decide +kernel, by decide +kernel⟩
theorem fd_law (B : Bn mg) (C : Cn K mg) (T : Xn P K mg) (G_fraction_text : Fd P w K mg base SrcA 4 "fraction_text" ["number"] kws_fraction_text spec_fraction_text) (G_fraction_told : Fd P w K mg base SrcA 4 "fraction_told" ["text"] kws_fraction_told spec_fraction_told) (G__law_alike : Fd P w K mg base SrcA 8 "_law_alike" ["found", "due"] kws__law_alike (spec__law_alike 6)) (G__law_text : Fd P w K mg base SrcA 1 "_law_text" ["number"] kws__law_text spec__law_text) (G__law_drawn : Fd P w K mg base SrcA 3 "_law_drawn" ["spring"] kws__law_drawn spec__law_drawn) {fa : Addr} {fd : FuncData} (F : Fun K "law" "law" s_law fa fd) (M : MadeBy P w K mg base SrcA 1 "_law_spring") : RunsAt P w K mg base 9 fa fd (spLaw K) := by
  obtain ⟨f', fd', F', hm', hk', hb'⟩ := M.ex
  exact law_ofR (wb := w_law) (i := 1) (k := 8) F sc_law rfl (fun cdv s0 H0 E0 hr => have A := at_cx (P := P) (w := w) (K := K) (mg := mg) (base := base) (N := ["script", "spring", "seen", "turn", "number", "text"]) (A := callerA) (outer := []) (H := H0) (E := E0) hr
      ps_set (i := 1) sc_law.nd rfl (by first | exact Or.inl rfl | exact Or.inr rfl) (pe_callS F' (A.room.mono (by omega)) rfl hm' hk' hb' A.pass (pa_cons (pv 0) pa_nil))) rfl (by decide)
    (fun cdv s0 H0 E0 hr => have A := at_cx (P := P) (w := w) (K := K) (mg := mg) (base := base) (N := ["script", "spring", "seen", "turn", "number", "text"]) (A := callerA) (outer := []) (H := H0) (E := E0) hr
   have Gd : (callerA.deeper (envOfC "law" (defScope s_law) s0.heap.objs.size fa cdv)).guards = some [] := rfl
   (dss_cons (ds_dicNew 2 sc_law.nd)
    (dss_cons (ds_for PassesOwn.cx (di_range1 B.range de_int) (dg_name 3 sc_law.nd)
    (dss_cons (ds_set 4 sc_law.nd (de_call A (by omega) G__law_drawn (da_src 1 da_nil)))
    (dss_cons (ds_set 5 sc_law.nd (de_call A (by omega) G__law_text (da_cons (de_var 4) da_nil)))
    (dss_cons (ds_if (dt_not (dt_val (de_call A (by omega) G__law_alike (da_cons (de_lst (da_cons (de_call A (by omega) G_fraction_text (da_cons (de_var 4) da_nil)) (da_cons (de_callK (ks := ["number"]) (idx := [0]) A (by omega) G_fraction_text (by decide) (dk_cons (de_var 4) dk_nil)) da_nil))) (da_cons (de_lst (da_cons (de_var 5) (da_cons (de_var 5) da_nil))) da_nil)))))
    (dss_one (ds_ret de_bl))
    dss_nil)
    (dss_cons (ds_if (DW.dt (dw_or (dt_not (dt_val (de_call A (by omega) G__law_alike (da_cons (de_lst (da_cons (de_call A (by omega) G_fraction_told (da_cons (de_var 5) da_nil)) (da_cons (de_callK (ks := ["text"]) (idx := [0]) A (by omega) G_fraction_told (by decide) (dk_cons (de_var 5) dk_nil)) da_nil))) (da_cons (de_lst (da_cons (de_var 4) (da_cons (de_var 4) da_nil))) da_nil))))) (dw_or1 (dt_cmp (op_neD A.room.units) lop_ne (de_dicGet 2 (hu_of A.room) (de_var 5) (de_var 4)) (de_var 4) (nomark _)))))
    (dss_one (ds_ret de_bl))
    dss_nil)
    (dss_one (ds_dicPut 2 (hu_of A.room) (de_var 4) (de_var 5))))))))
    (dss_one (ds_ret de_bl))))) vc_law
end
end DL
set_option linter.all false
set_option autoImplicit false
set_option maxHeartbeats 2000000
set_option maxRecDepth 100000
namespace DL
open PySem PySem.Spec PyProof.Rows L2
theorem sc__law_drop : FnScope ["spring", "many", "great", "found"] ["spring", "many"] (defScope s__law_drop) := ⟨rfl, rfl, rfl, by decide +kernel, rfl, by decide +kernel, by decide +kernel⟩
section
variable {P : Program} {w : World} {K : PySem.W.Frag} {mg : Str → Option Value} {base : Heap}
theorem fd__law_drop (mi : mg "int" = none) {f : Addr} {fd : FuncData} (F : Fun K "_law_drop" "_law_drop" s__law_drop f fd) (hm : mg "_law_drop" = some (.ref f)) (hb : Binds K fd ["spring", "many"] []) : Fd P w K mg base SrcA 1 "_law_drop" ["spring", "many"] [] spec_draw := by
  have len : ∀ {ss : List SV} {src : Option (Addr × List Addr)} {F0 : Hp} {vs : List V}, ArgsOk K src F0 ss vs → vs.length = ss.length := fun h => h.get.1
  refine ⟨f, fd, F.okX sc__law_drop (fun vs H Q E h => ?_) (fun cdv A0 outer s0 H0 vs Q E hr h => ?_), hm, F.kp, hb, fun p hp => nomatch hp⟩
  · obtain ⟨src, F0, ss, Qd, Xe, _, _, r, h1, _⟩ := h
    rw [len r]
    exact len_draw _ _ _ h1
  · obtain ⟨src, F0, ss, Qd, Xe, s1, s2, r, h1, q1, q2⟩ := h
    obtain ⟨many, rfl, hpos, hlog, hq⟩ := h1
    obtain ⟨v0, r0, rfl, ⟨a, fp, hsrc, rfl⟩, v1, r1, rfl, e1, e2⟩ := r
    have e1 : v1 = .int many := e1
    have e2 : r1 = [] := e2
    subst e1 e2
    obtain ⟨⟨g, ns, m, t, rfl, at0⟩, fa⟩ := s2 a fp hsrc
    have A := at_cx (P := P) (w := w) (K := K) (mg := mg) (base := base) (N := ["spring", "many", "great", "found"]) (qual := "_law_drop") (scope := defScope s__law_drop) (f := f) (cd := cdv) (A := A0) (outer := outer) (s := s0) (H := H0) (E := E) hr
    refine ⟨_, pss_cons (ps_set (i := 2) sc__law_drop.nd rfl (.inl rfl) (pe_ix ix_list (pv 0) pe_int (fun _ _ => rfl)))
      (pss_cons (ps_while PassesOwn.cx (pw_and (pt_cmpR (op_neD A.room.units) (pv 2) (pe_lst pa_nil) (nomark _)) (pw_and1 (pt_cmpR op_eq (pe_ix ix_list (pv 2) pe_int (fun _ _ => rfl)) pe_int (nomark _)))).pt
          (pss_one (ps_expr (pe_bm PySem.F.plainAttrs_list PySem.F.slot_list_pop PySem.F.type_list_pop mt_popAt (pv 2) (pa_cons pe_int pa_nil)))))
      (pss_cons (ps_if (pt_cmpR (op_neD A.room.units) (pv 2) (pe_lst pa_nil) (nomark _))
          (pss_cons (ps_set (i := 3) sc__law_drop.nd rfl (.inl rfl) (pe_op op_mod (pe_callTy call_int1 (by rfl) mi (by decide +kernel) (pa_cons (pe_ix ix_list (pv 2) pe_int (fun _ _ => rfl)) pa_nil)) (pv 1)))
          (pss_cons (ps_asg (pe_op op_fdivNW (pe_ix ix_list (pv 2) pe_int (fun _ _ => rfl)) (pv 1)) (pg_sub (pv 2) pe_int set_list))
          (pss_one (ps_ret (pv 3))))) pss_nil)
      (pss_cons (ps_asg (pe_op op_add (pe_ix ix_list (pv 0) pe_int (fun _ _ => rfl)) pe_int) (pg_sub (pv 0) pe_int set_list))
      (pss_cons (ps_asg (pe_op op_mod (pe_callTy call_int1 (by rfl) mi (by decide +kernel) (pa_cons (pe_op op_add (pe_op op_mulD (pe_ix ix_list (pv 0) pe_int (fun _ _ => rfl)) pe_int) (pe_op op_mulD (pe_ix ix_list (pv 0) pe_int (fun _ _ => rfl)) pe_int)) pa_nil)) pe_int) (pg_sub (pv 0) pe_int set_list))
      (pss_one (ps_ret (pe_op op_mod (pe_op op_fdivNW (pe_op op_mod (pe_callTy call_int1 (by rfl) mi (by decide +kernel) (pa_cons (pe_op op_mulD (pe_ix ix_list (pv 0) pe_int (fun _ _ => rfl)) (pe_ix ix_list (pv 0) pe_int (fun _ _ => rfl))) pa_nil)) pe_int) pe_int) (pv 1)))))))), ?_⟩
    refine ⟨.ref a, rfl, a, _, 0, .ref g, rfl, rfl, at0.list, atI_nat (j := 0) rfl, ?_⟩
    refine ⟨fun k σ H => ∃ ns', σ = [some (.ref a), some (.int many), some (.ref g), none] ∧ ns'.length = k ∧ Drawn H0 H a g ∧ AtA H a g ns' m t, ⟨ns.length, ns, rfl, rfl, ⟨fun b o e _ _ => e⟩, at0⟩, ?_⟩
    rintro k σ H ⟨ns', rfl, hk, dr, at1⟩
    refine cond_A rfl dr at1 fun b H1 hb d1 a1 => ?_
    cases b with
    | true =>
      obtain ⟨r, rfl⟩ := hb rfl
      rw [if_pos rfl]
      refine ⟨_, fun σ' H' z => z, .ref g, rfl, .inl ⟨rfl, _, a1.glist⟩, g, _, 0, 0, .int 0, rfl, rfl, a1.2.2, by decide, by decide, ?_, rfl, r.length, ?_, r, rfl, rfl, d1.setG, a1.setG r⟩
      · simp [seqIndex?]
      · rw [← hk, List.length_cons]
        exact Nat.lt_succ_self _
    | false =>
      rw [if_neg Bool.false_ne_true]
      refine cond_N rfl d1 a1 fun H2 d2 a2 => ?_
      refine ite2 (fun z => ?_) (fun z => ?_)
      · cases ns' with
        | nil => simp at z
        | cons n r =>
          refine ⟨.ref g, rfl, g, _, 0, .int n, rfl, rfl, a2.glist, atI_nat (j := 0) rfl, .inl ⟨n, rfl, .int many, rfl, n, many, rfl, rfl, hpos, ?_⟩⟩
          refine ⟨.ref g, rfl, g, _, 0, .int n, rfl, rfl, a2.glist, atI_nat (j := 0) rfl, .int many, rfl, n, many, rfl, rfl, ⟨Int.ne_of_gt hpos, hlog⟩, ?_⟩
          refine ⟨.ref g, rfl, g, _, 0, 0, rfl, rfl, a2.2.2, by simp [ixN], ?_⟩
          have a3 := a2.setG (n.fdiv many :: r)
          exact ⟨.int (n % many), rfl, q1 (.d (.int (n % many))) _ F0 _ (hq _ (Int.emod_nonneg _ (Int.ne_of_gt hpos)) (Int.emod_lt_of_pos _ hpos)) (Drawn.after hsrc s1 fa d2.setG a3) rfl⟩
      · refine ⟨.ref a, rfl, a, _, 2, .int t, rfl, rfl, a2.list, atI_nat (j := 2) rfl, t, 1, rfl, rfl, .ref a, rfl, a, _, 2, 2, rfl, rfl, a2.2.1, rfl, ?_⟩
        have a3 := a2.setA m (t + 1)
        have d3 : Drawn H0 _ a g := d2.setA (o := .lst [.ref g, .int m, .int (t + 1)])
        refine ⟨.ref a, rfl, a, _, 1, .int m, rfl, rfl, a3.list, atI_nat (j := 1) rfl, m, 6364136223846793005, rfl, rfl, .inr (.inl (by decide)),
          .ref a, rfl, a, _, 2, .int (t + 1), rfl, rfl, a3.list, atI_nat (j := 2) rfl, t + 1, 1442695040888963407, rfl, rfl, .inr (.inl (by decide)), _, _, rfl, rfl, .inl ⟨_, rfl, _, 2305843009213693951, rfl, rfl, (by decide : (0 : Int) < 2305843009213693951),
          .ref a, rfl, a, _, 1, 1, rfl, rfl, a3.2.1, rfl, ?_⟩⟩
        have a4 := a3.setA ((m * 6364136223846793005 + (t + 1) * 1442695040888963407) % 2305843009213693951) (t + 1)
        have d4 : Drawn H0 _ a g := d3.setA (o := .lst [.ref g, .int ((m * 6364136223846793005 + (t + 1) * 1442695040888963407) % 2305843009213693951), .int (t + 1)])
        refine ⟨.ref a, rfl, a, _, 1, .int _, rfl, rfl, a4.list, atI_nat (j := 1) rfl, .ref a, rfl, a, _, 1, .int _, rfl, rfl, a4.list (K := K), atI_nat (j := 1) rfl, _, _, rfl, rfl, .inl (by show (((m * 6364136223846793005 + (t + 1) * 1442695040888963407) % 2305843009213693951)).natAbs < _; omega), .inl ⟨_, rfl, _, 2305843009213693921, rfl, rfl, (by decide : (0 : Int) < 2305843009213693921),
          _, 1048576, rfl, rfl, ⟨by decide, by decide⟩, .int many, rfl, _, many, rfl, rfl, hpos, ?_⟩⟩
        exact q1 (.d (.int _)) _ F0 _ (hq _ (Int.emod_nonneg _ (Int.ne_of_gt hpos)) (Int.emod_lt_of_pos _ hpos)) (Drawn.after hsrc s1 fa d4 a4) rfl
/-! ### the source is made -/
def w__law_spring : SW := (sSeq (sSetL 1 (lComp (iSeq (wVar 0)) (gNm 3) (tB (wBin bGe (wVar 3) (wBin bPow (wC (.int 10)) (wC (.int 18))))) (wBin bSub (wVar 3) (wBin bPow (wC (.int 10)) (wC (.int 18)))) [3]))
  (sSeq (sAsg (wBin bAdd (wC (.int 15485863)) (wBin bMul (wC (.int 2)) (wCB bLen (wCons (wVar 0) wNil)))) (gNm 2))
  (sFor (iSeq (wVar 0)) (gNm 3)
  (sAsg (wBin bMod (wCB bInt (wCons (wBin bAdd (wBin bAdd (wBin bMul (wVar 2) (wC (.int 982451653))) (wBin bMul (wVar 3) (wC (.int 49979687)))) (wC (.int 32452843))) wNil)) (wC (.int 2305843009213693951))) (gNm 2)))))
theorem vc__law_spring {X : XD} {DD : DEnds} {ns : List Int} (hl : ns.length ≤ 63) (q : ∀ (gs : List Int) (m : Int) (u : SV), DD.nx [.d (.lst (ns.map D.int)), .own (gs.map D.int), .d (.int m), u]) : w__law_spring X DD [.d (.lst (ns.map D.int)), .un, .un, .un] := by
  refine compGo_filt (fun x o => ∀ y, o = some y → ∃ i : Int, y = .int i) _ _ (fun x hx Q' N q1 q2 => ?_) (by simp; omega) fun ys hy => ?_
  · obtain ⟨i, hi, rfl⟩ := List.mem_map.mp hx
    refine ⟨by decide, ?_⟩
    refine ite2 (fun _ => ?_) fun _ => q2 fun y e => nomatch e
    exact ⟨by decide, q1 _ fun y e => ⟨_, (Option.some.inj e).symm⟩⟩
  · obtain ⟨gs, e⟩ := ints_of (xs := ys) (Filt.all hy fun x y _ r => r y rfl)
    rw [List.nil_append, e]
    refine ⟨.inl (by decide), ?_⟩
    refine forGo_inv (fun r ρ => (∀ x ∈ r, ∃ i : Int, x = .int i) ∧ ∃ (m : Int) (u : SV), ρ = [.d (.lst (ns.map D.int)), .own (gs.map D.int), .d (.int m), u]) ?_ ?_ _ _ ⟨?_, _, _, rfl⟩
    · rintro x r ρ ⟨hr, m, u, rfl⟩ N hN
      obtain ⟨i, rfl⟩ := hr _ List.mem_cons_self
      refine ⟨.inr (.inl (by decide)), .inr (.inl (by decide)), (by decide : (0 : Int) < 2305843009213693951), ?_⟩
      exact hN _ ⟨fun y hy => hr y (List.mem_cons_of_mem _ hy), _, _, rfl⟩
    · rintro ρ ⟨_, m, u, rfl⟩
      exact q gs m u
    · intro x hx
      obtain ⟨i, hi, rfl⟩ := List.mem_map.mp hx
      exact ⟨i, rfl⟩
theorem sc__law_spring : FnScope ["script", "great", "mixed", "cell"] ["script"] (defScope s__law_spring) := ⟨rfl, rfl, rfl, by decide +kernel, rfl, by decide +kernel, by decide +kernel⟩
theorem repInts {F : Hp} : ∀ {ns : List Int} {vs : List V}, RepL K F (ns.map D.int) vs → vs = ns.map V.int
  | [], vs, h => h
  | n :: ns, vs, h => by
    obtain ⟨v, r, rfl, h1, h2⟩ := h
    have h1 : v = .int n := h1
    rw [h1, repInts h2]
    rfl
theorem ok__law_spring (mi : mg "int" = none) (ml : mg "len" = none) {f : Addr} {fd : FuncData} (F : Fun K "_law_spring" "_law_spring" s__law_spring f fd) : FnOk P w K mg base (L2.CX P w) 1 f fd ["script"] (spNew SrcA K) := by
  refine F.okX sc__law_spring (fun vs H Q E h => ?_) (fun cdv A0 outer s0 H0 vs Q E hr h => ?_)
  · obtain ⟨a, F0, ns, rfl, _⟩ := h
    rfl
  · obtain ⟨a, F0, ns, rfl, hs, hrep, hlen, q⟩ := h
    have A := at_cx (P := P) (w := w) (K := K) (mg := mg) (base := base) (N := ["script", "great", "mixed", "cell"]) (qual := "_law_spring") (scope := defScope s__law_spring) (f := f) (cd := cdv) (A := A0) (outer := outer) (s := s0) (H := H0) (E := E) hr
    obtain ⟨t, p, l⟩ : DSx SrcA (cxOf (L2.CX P w) P w K mg base ["script", "great", "mixed", "cell"] "_law_spring" (defScope s__law_spring) f cdv A0 outer s0 H0 E) (fun _ => E) (defBody s__law_spring) w__law_spring _ :=
      dsx_cons (ds_setLc 1 sc__law_spring.nd (di_seq (de_var 0)) (blkOk_by (own := [("cell", 3)]) rfl) (fun s H C cl fp => (dgw_name 3 sc__law_spring.nd (by decide))) (fun s H C cl fp => (dts_one (dt_cmp op_ge lop_ge (de_var 3) (de_bin op_pow lop_pow de_int de_int) (nomark _)))) (fun s H C cl fp => (de_bin op_sub lop_sub (de_var 3) (de_bin op_pow lop_pow de_int de_int))) (sw_true rfl rfl rfl (by decide +kernel)))
        (dsx_cons (ds_set 2 sc__law_spring.nd (de_bin op_addD lop_add de_int (de_bin op_mulD lop_mul de_int (de_cb call_lenE lcb_len ml (by decide +kernel) (da_cons (de_var 0) da_nil)))))
        (dsx_last (ds_for PassesOwn.cx (di_seq (de_var 0)) (dg_name 3 sc__law_spring.nd)
        (dss_one (ds_set 2 sc__law_spring.nd (de_bin op_mod lop_mod (de_cty call_int1 lcb_int mi (by decide +kernel) (da_cons (de_bin op_addD lop_add (de_bin op_addD lop_add (de_bin op_mulD lop_mul (de_var 2) de_int) (de_bin op_mulD lop_mul (de_var 3) de_int)) de_int) da_nil)) de_int))))
      (pss_one (ps_ret (pe_lst (pa_cons (pv 1) (pa_cons (pv 2) (pa_cons pe_int pa_nil))))))))
    refine ⟨t, p, ?_⟩
    have e0 : EnvOk SrcA K ⟨none, F0, H0⟩ F0 H0 (L2.start ["script", "great", "mixed", "cell"] [.ref a]) [.d (.lst (ns.map D.int)), .un, .un, .un] :=
      env_start (src := none) (ss := [.d (.lst (ns.map D.int))]) hs (fun _ _ z => nomatch z) ⟨_, [], rfl, hrep, rfl⟩ (by simp)
    refine l ⟨none, F0, H0⟩ F0 H0 _ _ (fun _ _ => False) { nx := fun ρ => ∃ (gs : List Int) (m : Int) (u : SV), ρ = [.d (.lst (ns.map D.int)), .own (gs.map D.int), .d (.int m), u], rt := fun _ => False } _ e0 elk0 (vc__law_spring hlen fun gs m u => ⟨gs, m, u, rfl⟩) ⟨fun σ ρ F' H' hx e1 sF nx => ?_, fun _ _ _ _ _ _ z => z.elim, fun _ _ _ _ z => z.elim, fun _ _ _ _ z => z.elim⟩
    obtain ⟨gs, m, u, rfl⟩ := hx
    obtain ⟨g, vs, h1, h2, h3, h4, h5⟩ := e1.own_at (i := 1) rfl
    have h5 := repInts h5
    subst h5
    obtain ⟨o, k1, v, k2, k3⟩ := e1.slot 2 _ rfl
    have k3 : v = .int m := k3
    subst k2 k3
    refine ⟨.ref g, h1, .int m, k1, by show 3 ≤ sizeLine; decide, fun p hp => ?_⟩
    have hpg : p ≠ g := fun z => by rw [z, h4] at hp; cases hp
    refine q F' _ p [p, g] sF (fun b o hb => ?_) (fun b o hb => ?_) ⟨g, gs, m, 0, rfl, hpg, upd_same, by rw [upd_ne (Ne.symm hpg)]; exact h4⟩ fun b hb => ?_
    · have := e1.fh b o hb
      rw [upd_ne (ne_of_none this hp)]
      exact this
    · have := e1.keep b o hb (fun z => nomatch z)
      rw [upd_ne (ne_of_none this hp)]
      exact this
    · have hb : b = p ∨ b = g := by simpa using hb
      rcases hb with z | z
      · rw [z]
        exact ⟨e1.fh.free hp, e1.h0 hp⟩
      · rw [z]
        exact ⟨h2, h3⟩
end
end DL
set_option linter.all false
set_option autoImplicit false
set_option maxHeartbeats 4000000
set_option maxRecDepth 100000
namespace DL
open PySem PySem.Spec PyProof.Rows L2
theorem all_mk {l : PySem.W.OpenLaw} {w : World} {K : PySem.W.Frag} {h : Heap} {mg : Str → Option Value} {fa : Addr} {f__law_spring f__law_drop f__law_low f__law_number f__law_drawn f__law_text f__law_kinds f__law_alike f_is_integer f_common f_is_fraction f_check_fractions f_places_of f_fraction_text f_digits_end f_lowest f_decimal_told f_quotient_told f_fraction_told f_law : Addr} (X : K.In h) (G : h.Ns mainGlobals mg) (hfa : mg "law" = some (.ref fa))
    {od__law_spring an__law_spring : Option Addr} {sl__law_spring : Array (Option Value)} {oc__law_spring kV__law_spring dc__law_spring pm__law_spring cd__law_spring ct__law_spring : Value}
    (a__law_spring : PySem.W.nsIn K mainGlobals "_law_spring" = some (some (.ref f__law_spring))) (l__law_spring : K.lookup f__law_spring = some ⟨oc__law_spring, od__law_spring, .func (PySem.W.fnOf "_law_spring" "_law_spring" (defArgs s__law_spring) (defBody s__law_spring) (defScope s__law_spring) .none kV__law_spring dc__law_spring pm__law_spring an__law_spring cd__law_spring ct__law_spring), sl__law_spring⟩) (c__law_spring : PySem.W.codeIn K cd__law_spring "_law_spring" = true) (k__law_spring : PySem.W.keepIn K (.ref f__law_spring) = true)
    {od__law_drop an__law_drop : Option Addr} {sl__law_drop : Array (Option Value)} {oc__law_drop kV__law_drop dc__law_drop pm__law_drop cd__law_drop ct__law_drop : Value}
    (a__law_drop : PySem.W.nsIn K mainGlobals "_law_drop" = some (some (.ref f__law_drop))) (l__law_drop : K.lookup f__law_drop = some ⟨oc__law_drop, od__law_drop, .func (PySem.W.fnOf "_law_drop" "_law_drop" (defArgs s__law_drop) (defBody s__law_drop) (defScope s__law_drop) .none kV__law_drop dc__law_drop pm__law_drop an__law_drop cd__law_drop ct__law_drop), sl__law_drop⟩) (c__law_drop : PySem.W.codeIn K cd__law_drop "_law_drop" = true) (k__law_drop : PySem.W.keepIn K (.ref f__law_drop) = true)
    {od__law_low an__law_low : Option Addr} {sl__law_low : Array (Option Value)} {oc__law_low kV__law_low dc__law_low pm__law_low cd__law_low ct__law_low : Value}
    (a__law_low : PySem.W.nsIn K mainGlobals "_law_low" = some (some (.ref f__law_low))) (l__law_low : K.lookup f__law_low = some ⟨oc__law_low, od__law_low, .func (PySem.W.fnOf "_law_low" "_law_low" (defArgs s__law_low) (defBody s__law_low) (defScope s__law_low) .none kV__law_low dc__law_low pm__law_low an__law_low cd__law_low ct__law_low), sl__law_low⟩) (c__law_low : PySem.W.codeIn K cd__law_low "_law_low" = true) (k__law_low : PySem.W.keepIn K (.ref f__law_low) = true)
    {od__law_number an__law_number : Option Addr} {sl__law_number : Array (Option Value)} {oc__law_number kV__law_number dc__law_number pm__law_number cd__law_number ct__law_number : Value}
    (a__law_number : PySem.W.nsIn K mainGlobals "_law_number" = some (some (.ref f__law_number))) (l__law_number : K.lookup f__law_number = some ⟨oc__law_number, od__law_number, .func (PySem.W.fnOf "_law_number" "_law_number" (defArgs s__law_number) (defBody s__law_number) (defScope s__law_number) .none kV__law_number dc__law_number pm__law_number an__law_number cd__law_number ct__law_number), sl__law_number⟩) (c__law_number : PySem.W.codeIn K cd__law_number "_law_number" = true) (k__law_number : PySem.W.keepIn K (.ref f__law_number) = true)
    {od__law_drawn an__law_drawn : Option Addr} {sl__law_drawn : Array (Option Value)} {oc__law_drawn kV__law_drawn dc__law_drawn pm__law_drawn cd__law_drawn ct__law_drawn : Value}
    (a__law_drawn : PySem.W.nsIn K mainGlobals "_law_drawn" = some (some (.ref f__law_drawn))) (l__law_drawn : K.lookup f__law_drawn = some ⟨oc__law_drawn, od__law_drawn, .func (PySem.W.fnOf "_law_drawn" "_law_drawn" (defArgs s__law_drawn) (defBody s__law_drawn) (defScope s__law_drawn) .none kV__law_drawn dc__law_drawn pm__law_drawn an__law_drawn cd__law_drawn ct__law_drawn), sl__law_drawn⟩) (c__law_drawn : PySem.W.codeIn K cd__law_drawn "_law_drawn" = true) (k__law_drawn : PySem.W.keepIn K (.ref f__law_drawn) = true)
    {od__law_text an__law_text : Option Addr} {sl__law_text : Array (Option Value)} {oc__law_text kV__law_text dc__law_text pm__law_text cd__law_text ct__law_text : Value}
    (a__law_text : PySem.W.nsIn K mainGlobals "_law_text" = some (some (.ref f__law_text))) (l__law_text : K.lookup f__law_text = some ⟨oc__law_text, od__law_text, .func (PySem.W.fnOf "_law_text" "_law_text" (defArgs s__law_text) (defBody s__law_text) (defScope s__law_text) .none kV__law_text dc__law_text pm__law_text an__law_text cd__law_text ct__law_text), sl__law_text⟩) (c__law_text : PySem.W.codeIn K cd__law_text "_law_text" = true) (k__law_text : PySem.W.keepIn K (.ref f__law_text) = true)
    {od__law_kinds an__law_kinds : Option Addr} {sl__law_kinds : Array (Option Value)} {oc__law_kinds kV__law_kinds dc__law_kinds pm__law_kinds cd__law_kinds ct__law_kinds : Value}
    (a__law_kinds : PySem.W.nsIn K mainGlobals "_law_kinds" = some (some (.ref f__law_kinds))) (l__law_kinds : K.lookup f__law_kinds = some ⟨oc__law_kinds, od__law_kinds, .func (PySem.W.fnOf "_law_kinds" "_law_kinds" (defArgs s__law_kinds) (defBody s__law_kinds) (defScope s__law_kinds) .none kV__law_kinds dc__law_kinds pm__law_kinds an__law_kinds cd__law_kinds ct__law_kinds), sl__law_kinds⟩) (c__law_kinds : PySem.W.codeIn K cd__law_kinds "_law_kinds" = true) (k__law_kinds : PySem.W.keepIn K (.ref f__law_kinds) = true)
    {od__law_alike an__law_alike : Option Addr} {sl__law_alike : Array (Option Value)} {oc__law_alike kV__law_alike dc__law_alike pm__law_alike cd__law_alike ct__law_alike : Value}
    (a__law_alike : PySem.W.nsIn K mainGlobals "_law_alike" = some (some (.ref f__law_alike))) (l__law_alike : K.lookup f__law_alike = some ⟨oc__law_alike, od__law_alike, .func (PySem.W.fnOf "_law_alike" "_law_alike" (defArgs s__law_alike) (defBody s__law_alike) (defScope s__law_alike) .none kV__law_alike dc__law_alike pm__law_alike an__law_alike cd__law_alike ct__law_alike), sl__law_alike⟩) (c__law_alike : PySem.W.codeIn K cd__law_alike "_law_alike" = true) (k__law_alike : PySem.W.keepIn K (.ref f__law_alike) = true)
    {od_is_integer an_is_integer : Option Addr} {sl_is_integer : Array (Option Value)} {oc_is_integer kV_is_integer dc_is_integer pm_is_integer cd_is_integer ct_is_integer : Value}
    (a_is_integer : PySem.W.nsIn K mainGlobals "is_integer" = some (some (.ref f_is_integer))) (l_is_integer : K.lookup f_is_integer = some ⟨oc_is_integer, od_is_integer, .func (PySem.W.fnOf "is_integer" "is_integer" (defArgs s_is_integer) (defBody s_is_integer) (defScope s_is_integer) .none kV_is_integer dc_is_integer pm_is_integer an_is_integer cd_is_integer ct_is_integer), sl_is_integer⟩) (c_is_integer : PySem.W.codeIn K cd_is_integer "is_integer" = true) (k_is_integer : PySem.W.keepIn K (.ref f_is_integer) = true)
    {od_common an_common : Option Addr} {sl_common : Array (Option Value)} {oc_common kV_common dc_common pm_common cd_common ct_common : Value}
    (a_common : PySem.W.nsIn K mainGlobals "common" = some (some (.ref f_common))) (l_common : K.lookup f_common = some ⟨oc_common, od_common, .func (PySem.W.fnOf "common" "common" (defArgs s_common) (defBody s_common) (defScope s_common) .none kV_common dc_common pm_common an_common cd_common ct_common), sl_common⟩) (c_common : PySem.W.codeIn K cd_common "common" = true) (k_common : PySem.W.keepIn K (.ref f_common) = true)
    {od_is_fraction an_is_fraction : Option Addr} {sl_is_fraction : Array (Option Value)} {oc_is_fraction kV_is_fraction dc_is_fraction pm_is_fraction cd_is_fraction ct_is_fraction : Value}
    (a_is_fraction : PySem.W.nsIn K mainGlobals "is_fraction" = some (some (.ref f_is_fraction))) (l_is_fraction : K.lookup f_is_fraction = some ⟨oc_is_fraction, od_is_fraction, .func (PySem.W.fnOf "is_fraction" "is_fraction" (defArgs s_is_fraction) (defBody s_is_fraction) (defScope s_is_fraction) .none kV_is_fraction dc_is_fraction pm_is_fraction an_is_fraction cd_is_fraction ct_is_fraction), sl_is_fraction⟩) (c_is_fraction : PySem.W.codeIn K cd_is_fraction "is_fraction" = true) (k_is_fraction : PySem.W.keepIn K (.ref f_is_fraction) = true)
    {od_check_fractions an_check_fractions : Option Addr} {sl_check_fractions : Array (Option Value)} {oc_check_fractions kV_check_fractions dc_check_fractions pm_check_fractions cd_check_fractions ct_check_fractions : Value}
    (a_check_fractions : PySem.W.nsIn K mainGlobals "check_fractions" = some (some (.ref f_check_fractions))) (l_check_fractions : K.lookup f_check_fractions = some ⟨oc_check_fractions, od_check_fractions, .func (PySem.W.fnOf "check_fractions" "check_fractions" (defArgs s_check_fractions) (defBody s_check_fractions) (defScope s_check_fractions) .none kV_check_fractions dc_check_fractions pm_check_fractions an_check_fractions cd_check_fractions ct_check_fractions), sl_check_fractions⟩) (c_check_fractions : PySem.W.codeIn K cd_check_fractions "check_fractions" = true) (k_check_fractions : PySem.W.keepIn K (.ref f_check_fractions) = true)
    {od_places_of an_places_of : Option Addr} {sl_places_of : Array (Option Value)} {oc_places_of kV_places_of dc_places_of pm_places_of cd_places_of ct_places_of : Value}
    (a_places_of : PySem.W.nsIn K mainGlobals "places_of" = some (some (.ref f_places_of))) (l_places_of : K.lookup f_places_of = some ⟨oc_places_of, od_places_of, .func (PySem.W.fnOf "places_of" "places_of" (defArgs s_places_of) (defBody s_places_of) (defScope s_places_of) .none kV_places_of dc_places_of pm_places_of an_places_of cd_places_of ct_places_of), sl_places_of⟩) (c_places_of : PySem.W.codeIn K cd_places_of "places_of" = true) (k_places_of : PySem.W.keepIn K (.ref f_places_of) = true)
    {od_fraction_text an_fraction_text : Option Addr} {sl_fraction_text : Array (Option Value)} {oc_fraction_text kV_fraction_text dc_fraction_text pm_fraction_text cd_fraction_text ct_fraction_text : Value}
    (a_fraction_text : PySem.W.nsIn K mainGlobals "fraction_text" = some (some (.ref f_fraction_text))) (l_fraction_text : K.lookup f_fraction_text = some ⟨oc_fraction_text, od_fraction_text, .func (PySem.W.fnOf "fraction_text" "fraction_text" (defArgs s_fraction_text) (defBody s_fraction_text) (defScope s_fraction_text) .none kV_fraction_text dc_fraction_text pm_fraction_text an_fraction_text cd_fraction_text ct_fraction_text), sl_fraction_text⟩) (c_fraction_text : PySem.W.codeIn K cd_fraction_text "fraction_text" = true) (k_fraction_text : PySem.W.keepIn K (.ref f_fraction_text) = true)
    {od_digits_end an_digits_end : Option Addr} {sl_digits_end : Array (Option Value)} {oc_digits_end kV_digits_end dc_digits_end pm_digits_end cd_digits_end ct_digits_end : Value}
    (a_digits_end : PySem.W.nsIn K mainGlobals "digits_end" = some (some (.ref f_digits_end))) (l_digits_end : K.lookup f_digits_end = some ⟨oc_digits_end, od_digits_end, .func (PySem.W.fnOf "digits_end" "digits_end" (defArgs s_digits_end) (defBody s_digits_end) (defScope s_digits_end) .none kV_digits_end dc_digits_end pm_digits_end an_digits_end cd_digits_end ct_digits_end), sl_digits_end⟩) (c_digits_end : PySem.W.codeIn K cd_digits_end "digits_end" = true) (k_digits_end : PySem.W.keepIn K (.ref f_digits_end) = true)
    {od_lowest an_lowest : Option Addr} {sl_lowest : Array (Option Value)} {oc_lowest kV_lowest dc_lowest pm_lowest cd_lowest ct_lowest : Value}
    (a_lowest : PySem.W.nsIn K mainGlobals "lowest" = some (some (.ref f_lowest))) (l_lowest : K.lookup f_lowest = some ⟨oc_lowest, od_lowest, .func (PySem.W.fnOf "lowest" "lowest" (defArgs s_lowest) (defBody s_lowest) (defScope s_lowest) .none kV_lowest dc_lowest pm_lowest an_lowest cd_lowest ct_lowest), sl_lowest⟩) (c_lowest : PySem.W.codeIn K cd_lowest "lowest" = true) (k_lowest : PySem.W.keepIn K (.ref f_lowest) = true)
    {od_decimal_told an_decimal_told : Option Addr} {sl_decimal_told : Array (Option Value)} {oc_decimal_told kV_decimal_told dc_decimal_told pm_decimal_told cd_decimal_told ct_decimal_told : Value}
    (a_decimal_told : PySem.W.nsIn K mainGlobals "decimal_told" = some (some (.ref f_decimal_told))) (l_decimal_told : K.lookup f_decimal_told = some ⟨oc_decimal_told, od_decimal_told, .func (PySem.W.fnOf "decimal_told" "decimal_told" (defArgs s_decimal_told) (defBody s_decimal_told) (defScope s_decimal_told) .none kV_decimal_told dc_decimal_told pm_decimal_told an_decimal_told cd_decimal_told ct_decimal_told), sl_decimal_told⟩) (c_decimal_told : PySem.W.codeIn K cd_decimal_told "decimal_told" = true) (k_decimal_told : PySem.W.keepIn K (.ref f_decimal_told) = true)
    {od_quotient_told an_quotient_told : Option Addr} {sl_quotient_told : Array (Option Value)} {oc_quotient_told kV_quotient_told dc_quotient_told pm_quotient_told cd_quotient_told ct_quotient_told : Value}
    (a_quotient_told : PySem.W.nsIn K mainGlobals "quotient_told" = some (some (.ref f_quotient_told))) (l_quotient_told : K.lookup f_quotient_told = some ⟨oc_quotient_told, od_quotient_told, .func (PySem.W.fnOf "quotient_told" "quotient_told" (defArgs s_quotient_told) (defBody s_quotient_told) (defScope s_quotient_told) .none kV_quotient_told dc_quotient_told pm_quotient_told an_quotient_told cd_quotient_told ct_quotient_told), sl_quotient_told⟩) (c_quotient_told : PySem.W.codeIn K cd_quotient_told "quotient_told" = true) (k_quotient_told : PySem.W.keepIn K (.ref f_quotient_told) = true)
    {od_fraction_told an_fraction_told : Option Addr} {sl_fraction_told : Array (Option Value)} {oc_fraction_told kV_fraction_told dc_fraction_told pm_fraction_told cd_fraction_told ct_fraction_told : Value}
    (a_fraction_told : PySem.W.nsIn K mainGlobals "fraction_told" = some (some (.ref f_fraction_told))) (l_fraction_told : K.lookup f_fraction_told = some ⟨oc_fraction_told, od_fraction_told, .func (PySem.W.fnOf "fraction_told" "fraction_told" (defArgs s_fraction_told) (defBody s_fraction_told) (defScope s_fraction_told) .none kV_fraction_told dc_fraction_told pm_fraction_told an_fraction_told cd_fraction_told ct_fraction_told), sl_fraction_told⟩) (c_fraction_told : PySem.W.codeIn K cd_fraction_told "fraction_told" = true) (k_fraction_told : PySem.W.keepIn K (.ref f_fraction_told) = true)
    {od_law an_law : Option Addr} {sl_law : Array (Option Value)} {oc_law kV_law dc_law pm_law cd_law ct_law : Value}
    (a_law : PySem.W.nsIn K mainGlobals "law" = some (some (.ref f_law))) (l_law : K.lookup f_law = some ⟨oc_law, od_law, .func (PySem.W.fnOf "law" "law" (defArgs s_law) (defBody s_law) (defScope s_law) .none kV_law dc_law pm_law an_law cd_law ct_law), sl_law⟩) (c_law : PySem.W.codeIn K cd_law "law" = true) (k_law : PySem.W.keepIn K (.ref f_law) = true)
    {e_InvalidText : Addr} (ea_InvalidText : PySem.W.nsIn K mainGlobals "InvalidText" = some (some (.ref e_InvalidText)))
    {n_InvalidText qc_InvalidText q_InvalidText tx_InvalidText fi_InvalidText : Str} {N_InvalidText i_InvalidText cda_InvalidText cc_InvalidText : Addr} {bs_InvalidText bm_InvalidText su_InvalidText : List Value} {sn_InvalidText : List Str} {ab_InvalidText : Bool} {co_InvalidText : Option Bool} {dd_InvalidText od_InvalidText an_InvalidText cdd_InvalidText cld_InvalidText : Option Addr} {k0_InvalidText k1_InvalidText k2_InvalidText k3_InvalidText k5_InvalidText : Option Value} {j_InvalidText : Nat} {p1_InvalidText p2_InvalidText q0_InvalidText q1_InvalidText q2_InvalidText q3_InvalidText q4_InvalidText q5_InvalidText r1_InvalidText r2_InvalidText r3_InvalidText r4_InvalidText : Pos} {oc_InvalidText dc_InvalidText pm_InvalidText ct_InvalidText ccl_InvalidText cl_InvalidText : Value} {sl_InvalidText ccs_InvalidText csl_InvalidText : Array (Option Value)} {vs_InvalidText : Array Value} {tf_InvalidText : Tok}
    (lC_InvalidText : K.lookup e_InvalidText = some (excClassObj n_InvalidText qc_InvalidText e_InvalidText N_InvalidText bs_InvalidText bm_InvalidText true sn_InvalidText su_InvalidText ab_InvalidText co_InvalidText dd_InvalidText k0_InvalidText k1_InvalidText k2_InvalidText k3_InvalidText k5_InvalidText "ValueError.__new__"))
    (bm_InvalidText : PySem.HandSPX.refsVE bm_InvalidText = true)
    (sa_InvalidText : PySem.W.findIn K (.ref e_InvalidText) "__setattr__" = some (some (.builtin "object.__setattr__")))
    (ga_InvalidText : PySem.W.findIn K (.ref e_InvalidText) "__getattribute__" = some (some (.builtin "BaseException.__getattribute__")))
    (gg_InvalidText : PySem.W.findIn K (.ref e_InvalidText) "__getattr__" = some none)
    (nf_InvalidText : PySem.W.findIn K (.ref e_InvalidText) "index" = some none)
    (ii_InvalidText : PySem.W.findIn K (.ref e_InvalidText) "__init__" = some (some (.ref i_InvalidText)))
    (ti_InvalidText : PySem.W.typeIn K (.ref i_InvalidText) = some (.type "function"))
    (ek_InvalidText : PySem.W.keepIn K (.ref e_InvalidText) = true)
    (eb_InvalidText : PySem.W.subIn K (.ref e_InvalidText) (.type "BaseException") = some true)
    (ev_InvalidText : PySem.W.subIn K (.ref e_InvalidText) (.type "ValueError") = some true)
    (et_InvalidText : PySem.W.typeIn K (.ref e_InvalidText) = some (.type "type"))
    (eh_InvalidText : PySem.W.hasDictIn K e_InvalidText = true)
    (em_InvalidText : PySem.W.mroIn K e_InvalidText (.ref e_InvalidText) = some true)
    (eu_InvalidText : PySem.W.ks_superIn K e_InvalidText e_InvalidText "__init__" = some (some (.builtin "ValueError.__init__")))
    (ei_InvalidText : PySem.W.excInitIn K e_InvalidText [.type "ValueError", .type "Exception", .type "BaseException", .type "object"] "ValueError.__new__" = true)
    (li_InvalidText : K.lookup i_InvalidText = some ⟨oc_InvalidText, od_InvalidText, .func (PySem.W.ksFn "__init__" q_InvalidText (xArgs "index" p1_InvalidText p2_InvalidText) (xBody "index" tx_InvalidText j_InvalidText q0_InvalidText q1_InvalidText q2_InvalidText q3_InvalidText q4_InvalidText q5_InvalidText r1_InvalidText r2_InvalidText r3_InvalidText r4_InvalidText) (xScope "index") .none .none dc_InvalidText pm_InvalidText an_InvalidText (.ref cda_InvalidText) ct_InvalidText cc_InvalidText), sl_InvalidText⟩)
    (ci_InvalidText : PySem.W.codeIn K (.ref cda_InvalidText) q_InvalidText = true)
    (cd_InvalidText : K.lookup cda_InvalidText = some ⟨ccl_InvalidText, cdd_InvalidText, .fields vs_InvalidText, ccs_InvalidText⟩)
    (v2_InvalidText : vs_InvalidText[2]? = some (.str fi_InvalidText tf_InvalidText))
    (fl_InvalidText : ((l.prog.main.file : Str) == fi_InvalidText) = true)
    (ln_InvalidText : (q2_InvalidText.endLine == q4_InvalidText.line) = true)
    (cl_InvalidText : K.lookup cc_InvalidText = some ⟨cl_InvalidText, cld_InvalidText, .cell (some (.ref e_InvalidText)), csl_InvalidText⟩)
    (z_sup : PySem.W.nsIn K mainGlobals "super" = some none) (z_any : PySem.W.nsIn K PySem.cStatics "thirdparty.any" = some none) (z_top : (l.prog.main.scope.names.lookup ("super" : Str)).isSome = false)
    (m_InvalidText_InvalidText : PySem.W.exmOne K (.ref e_InvalidText) (.ref e_InvalidText) = some true)
    (z_abs : PySem.W.nsIn K mainGlobals "abs" = some none)
    (z_all : PySem.W.nsIn K mainGlobals "all" = some none)
    (z_bool : PySem.W.nsIn K mainGlobals "bool" = some none)
    (z_int : PySem.W.nsIn K mainGlobals "int" = some none)
    (z_isinstance : PySem.W.nsIn K mainGlobals "isinstance" = some none)
    (z_len : PySem.W.nsIn K mainGlobals "len" = some none)
    (z_list : PySem.W.nsIn K mainGlobals "list" = some none)
    (z_range : PySem.W.nsIn K mainGlobals "range" = some none)
    (z_str : PySem.W.nsIn K mainGlobals "str" = some none)
    (z_tuple : PySem.W.nsIn K mainGlobals "tuple" = some none)
    {t_DIGITS : Tok} (a_DIGITS : PySem.W.nsIn K mainGlobals "DIGITS" = some (some (.str "0123456789" t_DIGITS)))
    : ∃ fd : FuncData, (∀ (s : Shared) (v : Value), BindsTo s fd ⟨[v], []⟩ [("script", v)]) ∧ ∀ base : Heap, K.In base → base.Ns mainGlobals mg → RunsAt l.prog w K mg base 9 fa fd (spLaw K) := by
  have e := hfa.symm.trans (PySem.W.mg_of X G a_law)
  cases e
  have F__law_spring := fun_mk (st := s__law_spring) l__law_spring c__law_spring k__law_spring
  have m__law_spring := PySem.W.mg_of X G a__law_spring
  have b__law_spring := F__law_spring.binds (ps := ["script"]) fun _ _ _ _ _ _ us hl => match us, hl with | [_], _ => rfl
  have F__law_drop := fun_mk (st := s__law_drop) l__law_drop c__law_drop k__law_drop
  have m__law_drop := PySem.W.mg_of X G a__law_drop
  have b__law_drop := F__law_drop.binds (ps := ["spring", "many"]) fun _ _ _ _ _ _ us hl => match us, hl with | [_, _], _ => rfl
  have F__law_low := fun_mk (st := s__law_low) l__law_low c__law_low k__law_low
  have m__law_low := PySem.W.mg_of X G a__law_low
  have b__law_low := F__law_low.binds (ps := ["top", "bottom"]) fun _ _ _ _ _ _ us hl => match us, hl with | [_, _], _ => rfl
  have F__law_number := fun_mk (st := s__law_number) l__law_number c__law_number k__law_number
  have m__law_number := PySem.W.mg_of X G a__law_number
  have b__law_number := F__law_number.binds (ps := ["spring"]) fun _ _ _ _ _ _ us hl => match us, hl with | [_], _ => rfl
  have F__law_drawn := fun_mk (st := s__law_drawn) l__law_drawn c__law_drawn k__law_drawn
  have m__law_drawn := PySem.W.mg_of X G a__law_drawn
  have b__law_drawn := F__law_drawn.binds (ps := ["spring"]) fun _ _ _ _ _ _ us hl => match us, hl with | [_], _ => rfl
  have F__law_text := fun_mk (st := s__law_text) l__law_text c__law_text k__law_text
  have m__law_text := PySem.W.mg_of X G a__law_text
  have b__law_text := F__law_text.binds (ps := ["number"]) fun _ _ _ _ _ _ us hl => match us, hl with | [_], _ => rfl
  have F__law_kinds := fun_mk (st := s__law_kinds) l__law_kinds c__law_kinds k__law_kinds
  have m__law_kinds := PySem.W.mg_of X G a__law_kinds
  have b__law_kinds := F__law_kinds.binds (ps := ["thing"]) fun _ _ _ _ _ _ us hl => match us, hl with | [_], _ => rfl
  have F__law_alike := fun_mk (st := s__law_alike) l__law_alike c__law_alike k__law_alike
  have m__law_alike := PySem.W.mg_of X G a__law_alike
  have b__law_alike := F__law_alike.binds (ps := ["found", "due"]) fun _ _ _ _ _ _ us hl => match us, hl with | [_, _], _ => rfl
  have F_is_integer := fun_mk (st := s_is_integer) l_is_integer c_is_integer k_is_integer
  have m_is_integer := PySem.W.mg_of X G a_is_integer
  have b_is_integer := F_is_integer.binds (ps := ["value"]) fun _ _ _ _ _ _ us hl => match us, hl with | [_], _ => rfl
  have F_common := fun_mk (st := s_common) l_common c_common k_common
  have m_common := PySem.W.mg_of X G a_common
  have b_common := F_common.binds (ps := ["one", "other"]) fun _ _ _ _ _ _ us hl => match us, hl with | [_, _], _ => rfl
  have F_is_fraction := fun_mk (st := s_is_fraction) l_is_fraction c_is_fraction k_is_fraction
  have m_is_fraction := PySem.W.mg_of X G a_is_fraction
  have b_is_fraction := F_is_fraction.binds (ps := ["value"]) fun _ _ _ _ _ _ us hl => match us, hl with | [_], _ => rfl
  have F_check_fractions := fun_mk (st := s_check_fractions) l_check_fractions c_check_fractions k_check_fractions
  have m_check_fractions := PySem.W.mg_of X G a_check_fractions
  have b_check_fractions := F_check_fractions.binds (ps := ["numbers"]) fun _ _ _ _ _ _ us hl => match us, hl with | [_], _ => rfl
  have F_places_of := fun_mk (st := s_places_of) l_places_of c_places_of k_places_of
  have m_places_of := PySem.W.mg_of X G a_places_of
  have b_places_of := F_places_of.binds (ps := ["bottom"]) fun _ _ _ _ _ _ us hl => match us, hl with | [_], _ => rfl
  have F_fraction_text := fun_mk (st := s_fraction_text) l_fraction_text c_fraction_text k_fraction_text
  have m_fraction_text := PySem.W.mg_of X G a_fraction_text
  have b_fraction_text := F_fraction_text.binds (ps := ["number"]) fun _ _ _ _ _ _ us hl => match us, hl with | [_], _ => rfl
  have F_digits_end := fun_mk (st := s_digits_end) l_digits_end c_digits_end k_digits_end
  have m_digits_end := PySem.W.mg_of X G a_digits_end
  have b_digits_end := F_digits_end.binds (ps := ["text", "at"]) fun _ _ _ _ _ _ us hl => match us, hl with | [_, _], _ => rfl
  have F_lowest := fun_mk (st := s_lowest) l_lowest c_lowest k_lowest
  have m_lowest := PySem.W.mg_of X G a_lowest
  have b_lowest := F_lowest.binds (ps := ["top", "bottom"]) fun _ _ _ _ _ _ us hl => match us, hl with | [_, _], _ => rfl
  have F_decimal_told := fun_mk (st := s_decimal_told) l_decimal_told c_decimal_told k_decimal_told
  have m_decimal_told := PySem.W.mg_of X G a_decimal_told
  have b_decimal_told := F_decimal_told.binds (ps := ["text", "at", "end"]) fun _ _ _ _ _ _ us hl => match us, hl with | [_, _, _], _ => rfl
  have F_quotient_told := fun_mk (st := s_quotient_told) l_quotient_told c_quotient_told k_quotient_told
  have m_quotient_told := PySem.W.mg_of X G a_quotient_told
  have b_quotient_told := F_quotient_told.binds (ps := ["text", "at", "end"]) fun _ _ _ _ _ _ us hl => match us, hl with | [_, _, _], _ => rfl
  have F_fraction_told := fun_mk (st := s_fraction_told) l_fraction_told c_fraction_told k_fraction_told
  have m_fraction_told := PySem.W.mg_of X G a_fraction_told
  have b_fraction_told := F_fraction_told.binds (ps := ["text"]) fun _ _ _ _ _ _ us hl => match us, hl with | [_], _ => rfl
  have F_law := fun_mk (st := s_law) l_law c_law k_law
  have m_law := PySem.W.mg_of X G a_law
  have b_law := F_law.binds (ps := ["script"]) fun _ _ _ _ _ _ us hl => match us, hl with | [_], _ => rfl
  have B : Bn mg := ⟨PySem.W.mg_none_of X G z_abs, PySem.W.mg_none_of X G z_all, PySem.W.mg_none_of X G z_bool, PySem.W.mg_none_of X G z_int, PySem.W.mg_none_of X G z_isinstance, PySem.W.mg_none_of X G z_len, PySem.W.mg_none_of X G z_list, PySem.W.mg_none_of X G z_range, PySem.W.mg_none_of X G z_str, PySem.W.mg_none_of X G z_tuple⟩
  have C : Cn K mg := ⟨Gc.str (PySem.W.mg_of X G a_DIGITS)⟩
  have T : Xn l.prog K mg := ⟨⟨⟨e_InvalidText, i_InvalidText, { gC := PySem.W.mg_of X G ea_InvalidText, fn := by unfold FName; decide, cls := ⟨_, _, _, _, _, _, _, _, _, _, _, _, _, _, _, lC_InvalidText, bm_InvalidText⟩, sa := sa_InvalidText, ga := ga_InvalidText, gg := gg_InvalidText, noN := nf_InvalidText, iC := ii_InvalidText, tC := ti_InvalidText, kC := ek_InvalidText, exC := eb_InvalidText, veC := ev_InvalidText, tyC := et_InvalidText, hdC := eh_InvalidText, sub := em_InvalidText, sup := z_sup, any := z_any, up := eu_InvalidText, init := ei_InvalidText, top := z_top, txt := ⟨_, _, _, _, _, _, _, _, _, _, _, _, _, _, _, _, _, _, _, _, _, _, _, _, _, _, _, _, _, _, _, _, _, li_InvalidText, ci_InvalidText, cd_InvalidText, v2_InvalidText, fl_InvalidText, ln_InvalidText, cl_InvalidText⟩ }, ea_InvalidText⟩⟩, ⟨(List.forall_mem_cons.mpr ⟨(List.forall_mem_cons.mpr ⟨fun _ _ nA nC => err_pair ea_InvalidText ea_InvalidText m_InvalidText_InvalidText nA nC, fun _ z => nomatch z⟩), fun _ z => nomatch z⟩), (List.forall_mem_cons.mpr ⟨⟨e_InvalidText, PySem.W.mg_of X G ea_InvalidText, ea_InvalidText⟩, fun _ z => nomatch z⟩)⟩⟩
  refine ⟨PySem.W.fnOf "law" "law" (defArgs s_law) (defBody s_law) (defScope s_law) .none kV_law dc_law pm_law an_law cd_law ct_law, fun s v => .of_eq rfl, fun base _ _ => ?_⟩
  have M_law : MadeBy l.prog w K mg base SrcA 1 "_law_spring" := ⟨⟨_, _, ok__law_spring B.int B.len F__law_spring, m__law_spring, F__law_spring.kp, b__law_spring⟩⟩
  have G__law_drop := fd__law_drop (P := l.prog) (w := w) (base := base) B.int F__law_drop m__law_drop b__law_drop
  have G__law_low := fd__law_low (P := l.prog) (w := w) (base := base) B C  T F__law_low m__law_low b__law_low (fun _ z => nomatch z)
  have G__law_number := fd__law_number (P := l.prog) (w := w) (base := base) B C G__law_drop G__law_low T F__law_number m__law_number b__law_number (fun _ z => nomatch z)
  have G__law_drawn := fd__law_drawn (P := l.prog) (w := w) (base := base) B C G__law_drop G__law_low G__law_number T F__law_drawn m__law_drawn b__law_drawn (fun _ z => nomatch z)
  have G__law_text := fd__law_text (P := l.prog) (w := w) (base := base) B C  T F__law_text m__law_text b__law_text (fun _ z => nomatch z)
  have G__law_kinds := fd__law_kinds (P := l.prog) (w := w) (base := base) B C  T F__law_kinds m__law_kinds b__law_kinds (fun _ z => nomatch z)
  have G__law_alike := fd__law_alike (P := l.prog) (w := w) (base := base) B C G__law_kinds T F__law_alike m__law_alike b__law_alike (fun _ z => nomatch z) 6
  have G_is_integer := fd_is_integer (P := l.prog) (w := w) (base := base) B C  T F_is_integer m_is_integer b_is_integer (fun _ z => nomatch z)
  have G_common := fd_common (P := l.prog) (w := w) (base := base) B C  T F_common m_common b_common (fun _ z => nomatch z)
  have G_is_fraction := fd_is_fraction (P := l.prog) (w := w) (base := base) B C G_is_integer G_common T F_is_fraction m_is_fraction b_is_fraction (fun _ z => nomatch z)
  have G_check_fractions := fd_check_fractions (P := l.prog) (w := w) (base := base) B C G_is_fraction T F_check_fractions m_check_fractions b_check_fractions (fun _ z => nomatch z)
  have G_places_of := fd_places_of (P := l.prog) (w := w) (base := base) B C  T F_places_of m_places_of b_places_of (fun _ z => nomatch z)
  have G_fraction_text := fd_fraction_text (P := l.prog) (w := w) (base := base) B C G_check_fractions G_places_of T F_fraction_text m_fraction_text b_fraction_text ((List.forall_mem_cons.mpr ⟨⟨fun ws hl => match ws, hl with | [_], _ => rfl, rfl⟩, fun _ z => nomatch z⟩))
  have G_digits_end := fd_digits_end (P := l.prog) (w := w) (base := base) B C  T F_digits_end m_digits_end b_digits_end (fun _ z => nomatch z)
  have G_lowest := fd_lowest (P := l.prog) (w := w) (base := base) B C G_common T F_lowest m_lowest b_lowest (fun _ z => nomatch z)
  have G_decimal_told := fd_decimal_told (P := l.prog) (w := w) (base := base) B C G_lowest G_digits_end T F_decimal_told m_decimal_told b_decimal_told (fun _ z => nomatch z)
  have G_quotient_told := fd_quotient_told (P := l.prog) (w := w) (base := base) B C G_common G_places_of G_digits_end T F_quotient_told m_quotient_told b_quotient_told (fun _ z => nomatch z)
  have G_fraction_told := fd_fraction_told (P := l.prog) (w := w) (base := base) B C G_digits_end G_decimal_told G_quotient_told T F_fraction_told m_fraction_told b_fraction_told ((List.forall_mem_cons.mpr ⟨⟨fun ws hl => match ws, hl with | [_], _ => rfl, rfl⟩, fun _ z => nomatch z⟩))
  exact fd_law (P := l.prog) (w := w) (base := base) B C  T G_fraction_text G_fraction_told G__law_alike G__law_text G__law_drawn F_law M_law
end DL
open PySem PySem.W PyProof.Rows
set_option maxHeartbeats 0 in
theorem PySem.Challenge.cw_fastestalong_k02_texts_of_fractions_holds : PySem.Challenge.rw_fastestalong_k02_texts_of_fractions.Holds := by
  w_on; o_law; k_head; (case hw => w_witness2)
  k_fill
  refine DL.walk_runs (l := PySem.Challenge.rw_fastestalong_k02_texts_of_fractions) (k := 9) rfl rfl ⟨rfl, by decide, by decide⟩ (fun w h Y => PySem.W.kIn_of Y) ?F
  case F =>
    intro w mg fa h KX G hmg
    refine' DL.all_mk (l := PySem.Challenge.rw_fastestalong_k02_texts_of_fractions) KX G hmg ?hg0 ?hg1 ?hg2 ?hg3 ?hg4 ?hg5 ?hg6 ?hg7 ?hg8 ?hg9 ?hg10 ?hg11 ?hg12 ?hg13 ?hg14 ?hg15 ?hg16 ?hg17 ?hg18 ?hg19 ?hg20 ?hg21 ?hg22 ?hg23 ?hg24 ?hg25 ?hg26 ?hg27 ?hg28 ?hg29 ?hg30 ?hg31 ?hg32 ?hg33 ?hg34 ?hg35 ?hg36 ?hg37 ?hg38 ?hg39 ?hg40 ?hg41 ?hg42 ?hg43 ?hg44 ?hg45 ?hg46 ?hg47 ?hg48 ?hg49 ?hg50 ?hg51 ?hg52 ?hg53 ?hg54 ?hg55 ?hg56 ?hg57 ?hg58 ?hg59 ?hg60 ?hg61 ?hg62 ?hg63 ?hg64 ?hg65 ?hg66 ?hg67 ?hg68 ?hg69 ?hg70 ?hg71 ?hg72 ?hg73 ?hg74 ?hg75 ?hg76 ?hg77 ?hg78 ?hg79 ?hg80 ?hg81 ?hg82 ?hg83 ?hg84 ?hg85 ?hg86 ?hg87 ?hg88 ?hg89 ?hg90 ?hg91 ?hg92 ?hg93 ?hg94 ?hg95 ?hg96 ?hg97 ?hg98 ?hg99 ?hg100 ?hg101 ?hg102 ?hg103 ?hg104 ?hg105 ?hg106 ?hg107 ?hg108 ?hg109 ?hg110 ?hg111 ?hg112 ?hg113 ?hg114 ?hg115 ?hg116 ?hg117 ?hg118
    (case hg0 => k_is)
    (case hg1 => k_is)
    (case hg2 => k_is)
    (case hg3 => k_is)
    (case hg4 => k_is)
    (case hg5 => k_is)
    (case hg6 => k_is)
    (case hg7 => k_is)
    (case hg8 => k_is)
    (case hg9 => k_is)
    (case hg10 => k_is)
    (case hg11 => k_is)
    (case hg12 => k_is)
    (case hg13 => k_is)
    (case hg14 => k_is)
    (case hg15 => k_is)
    (case hg16 => k_is)
    (case hg17 => k_is)
    (case hg18 => k_is)
    (case hg19 => k_is)
    (case hg20 => k_is)
    (case hg21 => k_is)
    (case hg22 => k_is)
    (case hg23 => k_is)
    (case hg24 => k_is)
    (case hg25 => k_is)
    (case hg26 => k_is)
    (case hg27 => k_is)
    (case hg28 => k_is)
    (case hg29 => k_is)
    (case hg30 => k_is)
    (case hg31 => k_is)
    (case hg32 => k_is)
    (case hg33 => k_is)
    (case hg34 => k_is)
    (case hg35 => k_is)
    (case hg36 => k_is)
    (case hg37 => k_is)
    (case hg38 => k_is)
    (case hg39 => k_is)
    (case hg40 => k_is)
    (case hg41 => k_is)
    (case hg42 => k_is)
    (case hg43 => k_is)
    (case hg44 => k_is)
    (case hg45 => k_is)
    (case hg46 => k_is)
    (case hg47 => k_is)
    (case hg48 => k_is)
    (case hg49 => k_is)
    (case hg50 => k_is)
    (case hg51 => k_is)
    (case hg52 => k_is)
    (case hg53 => k_is)
    (case hg54 => k_is)
    (case hg55 => k_is)
    (case hg56 => k_is)
    (case hg57 => k_is)
    (case hg58 => k_is)
    (case hg59 => k_is)
    (case hg60 => k_is)
    (case hg61 => k_is)
    (case hg62 => k_is)
    (case hg63 => k_is)
    (case hg64 => k_is)
    (case hg65 => k_is)
    (case hg66 => k_is)
    (case hg67 => k_is)
    (case hg68 => k_is)
    (case hg69 => k_is)
    (case hg70 => k_is)
    (case hg71 => k_is)
    (case hg72 => k_is)
    (case hg73 => k_is)
    (case hg74 => k_is)
    (case hg75 => k_is)
    (case hg76 => k_is)
    (case hg77 => k_is)
    (case hg78 => k_is)
    (case hg79 => k_is)
    (case hg80 => k_is)
    (case hg81 => k_is)
    (case hg82 => first | rfl | decide +kernel)
    (case hg83 => k_is)
    (case hg84 => k_is)
    (case hg85 => k_is)
    (case hg86 => k_is)
    (case hg87 => k_is)
    (case hg88 => k_is)
    (case hg89 => k_is)
    (case hg90 => k_is)
    (case hg91 => k_is)
    (case hg92 => k_is)
    (case hg93 => k_is)
    (case hg94 => k_is)
    (case hg95 => first | ks_is | k_is)
    (case hg96 => first | kx_is | k_is | kernel_rfl)
    (case hg97 => k_is)
    (case hg98 => k_is)
    (case hg99 => k_is)
    (case hg100 => first | rfl | decide +kernel)
    (case hg101 => first | rfl | decide +kernel)
    (case hg102 => first | rfl | decide +kernel)
    (case hg103 => k_is)
    (case hg104 => k_is)
    (case hg105 => k_is)
    (case hg106 => first | rfl | decide +kernel)
    (case hg107 => first | k_is | kernel_rfl | rfl)
    (case hg108 => k_is)
    (case hg109 => k_is)
    (case hg110 => k_is)
    (case hg111 => k_is)
    (case hg112 => k_is)
    (case hg113 => k_is)
    (case hg114 => k_is)
    (case hg115 => k_is)
    (case hg116 => k_is)
    (case hg117 => k_is)
    (case hg118 => k_is)
