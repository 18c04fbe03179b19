import PyProof.Rows.All
import Wide.All
import OpenK.AllK
import Wide.FinOn
import HandS.ForMost
import HandS.ForExc
import HandS.IsInst
import HandS.Wide
import HandS.TupAny
import HandS.Walk
import HandS.Zip
import HandS.TupLe
import HandS.Style
import HandS.Text
import HandS.NoneIn
import KE.GoesEnum
import KE.GoesZip
import KE.GoesMore
import HandS.Conv
import HandS.RevRange
import HandS.More
import HandS.Sort
import PyProof.ReprRoads
import PyProof.ReprLen
import KE.KExcSuper
import HandS.TryMany
import HandS.Deep
import HandS.TupMul
import KE.KExcLine
import KE.KExcTry
import PySem.Challenge.RW_fastestalong_k11_programs_judged
set_option Elab.async false
set_option linter.all false
set_option autoImplicit false
/-! The pure part: data without a heap, and what a text asks of data. -/
namespace DL
open PySem

/-- data: what does not change any more -/
inductive D where
  | non | bl (b : Bool) | int (i : Int) | str (s : Str) | tup (xs : List D) | lst (xs : List D) | ins (C : Str) (ns : List Str) (xs : List D)
/-- a slot: not known | data | a list that this frame alone holds | the law's source of numbers | an instance that this frame alone holds -/
inductive SV where
  | un | d (x : D) | own (xs : List D) | src | obj (x : Addr) (C : Str) (fs : List (Str × D))
/-- what a def hands back: data, or a list that is the caller's own from there on -/
inductive RV where
  | d (x : D) | own (xs : List D)
def RV.toD : RV → D
  | .d x => x
  | .own xs => .lst xs
structure Exc where
  cls : Str
  fld : Option (Str × D)

abbrev Env := List SV
abbrev XD := Env → Exc → Prop
abbrev EW := XD → Env → (D → Prop) → Prop
abbrev LW := XD → Env → (List D → Prop) → Prop
abbrev TW := XD → Env → (Bool → Prop) → Prop
abbrev AW := XD → Env → (List SV → Prop) → Prop
abbrev GW := D → Env → (Env → Prop) → Prop
structure DEnds where
  nx : Env → Prop
  rt : RV → Prop
  bk : Env → Prop := fun _ => False
  ct : Env → Prop := fun _ => False
abbrev SW := XD → DEnds → Env → Prop
abbrev Spec := List SV → (RV → Prop) → (Exc → Prop) → Prop

/-! ### expressions -/
def wVar (i : Nat) : EW := fun _ ρ Q => match ρ[i]? with
  | some (.d x) => Q x
  | _ => False
def wC (x : D) : EW := fun _ _ Q => Q x
abbrev Op2 := D → D → (D → Prop) → Prop
abbrev Op1 := D → (D → Prop) → Prop
def wBin (r : Op2) (a b : EW) : EW := fun X ρ Q => a X ρ fun x => b X ρ fun y => r x y Q
def wUn (r : Op1) (a : EW) : EW := fun X ρ Q => a X ρ fun x => r x Q
def wIf (t : TW) (a b : EW) : EW := fun X ρ Q => t X ρ fun k => if k = true then a X ρ Q else b X ρ Q
def wNil : AW := fun _ _ Q => Q []
def wCons (a : EW) (r : AW) : AW := fun X ρ Q => a X ρ fun x => r X ρ fun xs => Q (.d x :: xs)
/-- the source handed on -/
def wConsS (i : Nat) (r : AW) : AW := fun X ρ Q => match ρ[i]? with
  | some .src => r X ρ fun xs => Q (.src :: xs)
  | _ => False
def datas : List SV → Option (List D)
  | [] => some []
  | .d x :: r => (datas r).map (x :: ·)
  | _ :: _ => none
def wTup (t : AW) : EW := fun X ρ Q => t X ρ fun ss => match datas ss with
  | some xs => xs.length ≤ 100000 ∧ Q (.tup xs)
  | none => False
def wLst (t : AW) : EW := fun X ρ Q => t X ρ fun ss => match datas ss with
  | some xs => xs.length ≤ 100000 ∧ Q (.lst xs)
  | none => False
def lLst (t : AW) : LW := fun X ρ Q => t X ρ fun ss => match datas ss with
  | some xs => xs.length ≤ 100000 ∧ Q xs
  | none => False
/-- a built-in's call on data -/
abbrev OpN := List D → (D → Prop) → Prop
def wCB (r : OpN) (t : AW) : EW := fun X ρ Q => t X ρ fun ss => match datas ss with
  | some xs => r xs Q
  | none => False
def lCB (r : List D → (List D → Prop) → Prop) (t : AW) : LW := fun X ρ Q => t X ρ fun ss => match datas ss with
  | some xs => r xs Q
  | none => False
/-- a def's call -/
def wCall (sp : Spec) (t : AW) : EW := fun X ρ Q => t X ρ fun ss => sp ss (fun r => Q r.toD) (X ρ)
def lCall (sp : Spec) (t : AW) : LW := fun X ρ Q => t X ρ fun ss => sp ss (fun r => match r with | .own xs => Q xs | _ => False) (X ρ)
/-- a list that is made as data -/
def wOfL (l : LW) : EW := fun X ρ Q => l X ρ fun xs => Q (.lst xs)

/-! ### tests -/
def tB (a : EW) : TW := fun X ρ Q => a X ρ fun x => match x with
  | .bl k => Q k
  | _ => False
def tAndW (t u : TW) : TW := fun X ρ Q => t X ρ fun k => if k = true then u X ρ Q else Q false
def tOrW (t u : TW) : TW := fun X ρ Q => t X ρ fun k => if k = true then Q true else u X ρ Q
def tNotW (t : TW) : TW := fun X ρ Q => t X ρ fun k => Q (!k)
/-- and, or, not as values (of truths) -/
def wAnd (a b : EW) : EW := fun X ρ Q => a X ρ fun x => match x with
  | .bl k => if k = true then b X ρ Q else Q (.bl false)
  | _ => False
def wOr (a b : EW) : EW := fun X ρ Q => a X ρ fun x => match x with
  | .bl k => if k = true then Q (.bl true) else b X ρ Q
  | _ => False
def wNot (a : EW) : EW := fun X ρ Q => a X ρ fun x => match x with
  | .bl k => Q (.bl (!k))
  | _ => False
/-- a < b < c -/
def wChain (r r' : Op2) (a b c : EW) : EW := fun X ρ Q => a X ρ fun x => b X ρ fun y => r x y fun z => match z with
  | .bl k => if k = true then c X ρ fun u => r' y u Q else Q (.bl false)
  | _ => False
def tChainW (r r' : Op2) (a b c : EW) : TW := tB (wChain r r' a b c)

/-! ### operations on data -/
/-- one of both is small, or both together below a million bits -/
def IMul (i j : Int) : Prop := i.natAbs < 2 ^ 63 ∨ j.natAbs < 2 ^ 63 ∨ i.natAbs.log2 + j.natAbs.log2 < 1000000
def IDiv (j : Int) : Prop := 0 < j ∧ j.natAbs.log2 < 9000
def bAdd : Op2
  | .int i, .int j, Q => Q (.int (i + j))
  | .str s, .str t, Q => s.length + t.length ≤ 100000 ∧ Q (.str (s ++ t))
  | .tup xs, .tup ys, Q => xs.length + ys.length ≤ 100000 ∧ Q (.tup (xs ++ ys))
  | .lst xs, .lst ys, Q => xs.length + ys.length ≤ 100000 ∧ Q (.lst (xs ++ ys))
  | _, _, _ => False
def bSub : Op2
  | .int i, .int j, Q => Q (.int (i - j))
  | _, _, _ => False
def bMul : Op2
  | .int i, .int j, Q => IMul i j ∧ Q (.int (i * j))
  | _, _, _ => False
/-- a // b, b above 0 -/
def bFdiv : Op2
  | .int i, .int j, Q => IDiv j ∧ Q (.int (i / j))
  | _, _, _ => False
/-- a // b, b of any sign -/
def bFdivN : Op2
  | .int i, .int j, Q => (j ≠ 0 ∧ j.natAbs.log2 < 9000) ∧ Q (.int (i.fdiv j))
  | _, _, _ => False
def bMod : Op2
  | .int i, .int j, Q => 0 < j ∧ Q (.int (i % j))
  | _, _, _ => False
def bPow : Op2
  | .int i, .int j, Q => (0 ≤ j ∧ j ≤ 1000000 ∧ i.natAbs < 2 ^ 64) ∧ Q (.int (i ^ j.toNat))
  | _, _, _ => False
def bLt : Op2
  | .int i, .int j, Q => Q (.bl (decide (i < j)))
  | _, _, _ => False
def bLe : Op2
  | .int i, .int j, Q => Q (.bl (decide (i ≤ j)))
  | _, _, _ => False
def bGt : Op2
  | .int i, .int j, Q => Q (.bl (decide (j < i)))
  | _, _, _ => False
def bGe : Op2
  | .int i, .int j, Q => Q (.bl (decide (j ≤ i)))
  | _, _, _ => False
def bNeg : Op1
  | .int i, Q => Q (.int (-i))
  | _, _ => False
def bIsN : Op1
  | .non, Q => Q (.bl true)
  | _, Q => Q (.bl false)
def bNotN : Op1
  | .non, Q => Q (.bl false)
  | _, Q => Q (.bl true)

/-- Python's == of data without instances: none where it is not told -/
def toI : D → Option Int
  | .bl b => some (if b then 1 else 0)
  | .int i => some i
  | _ => none
mutual
def peq : D → D → Bool
  | .non, .non => true
  | .bl a, .bl b => a == b
  | .bl a, .int j => (if a then 1 else 0) == j
  | .int i, .bl b => i == (if b then 1 else 0)
  | .int i, .int j => i == j
  | .str s, .str t => s == t
  | .tup xs, .tup ys => peqL xs ys
  | .lst xs, .lst ys => peqL xs ys
  | _, _ => false
def peqL : List D → List D → Bool
  | [], [] => true
  | x :: xs, y :: ys => peq x y && peqL xs ys
  | _, _ => false
end
/-- data that may be compared: no instances, nested at most n deep -/
def toPy0 : D → PyData
  | .non => .none
  | .bl b => .bool b
  | .int i => .int i
  | .str s => .str s
  | _ => .none
mutual
def toPy : D → PyData
  | .non => .none
  | .bl b => .bool b
  | .int i => .int i
  | .str s => .str s
  | .tup xs => .tuple (toPyL xs)
  | .lst xs => .list (toPyL xs)
  | .ins _ _ _ => .none
def toPyL : List D → List PyData
  | [] => []
  | x :: xs => toPy x :: toPyL xs
end
mutual
def plain : Nat → D → Bool
  | 0, _ => false
  | _ + 1, .non => true
  | _ + 1, .bl _ => true
  | _ + 1, .int _ => true
  | _ + 1, .str s => PyData.strOk s
  | n + 1, .tup xs => plainL n xs
  | n + 1, .lst xs => plainL n xs
  | _ + 1, .ins _ _ _ => false
def plainL : Nat → List D → Bool
  | _, [] => true
  | n, x :: xs => plain n x && plainL n xs
end
/-- is True, is False, is not .. -/
def bIs : Op2
  | .bl a, .bl b, Q => Q (.bl (decide (a = b)))
  | _, _, _ => False
def bIsNot : Op2
  | .bl a, .bl b, Q => Q (.bl (!decide (a = b)))
  | _, _, _ => False
/-- x[i] -/
def bIx : Op2
  | .tup xs, .int i, Q => match L2.atI xs i with
    | some x => Q x
    | none => False
  | .lst xs, .int i, Q => match L2.atI xs i with
    | some x => Q x
    | none => False
  | .str s, .int i, Q => s.length ≤ 100000 ∧ match L2.atI s.cps.toList i with
    | some c => Q (.str ⟨#[c]⟩)
    | none => False
  | _, _, _ => False
/-- x[lo:hi] -/
def cutD (xs : List D) (lo hi : Option Int) : List D := (xs.drop (HT.sIx xs.length 0 lo)).take (HT.sIx xs.length xs.length hi - HT.sIx xs.length 0 lo)
abbrev OW := XD → Env → (Option Int → Prop) → Prop
def oNone : OW := fun _ _ Q => Q none
def oSome (a : EW) : OW := fun X ρ Q => a X ρ fun x => match x with
  | .int i => Q (some i)
  | _ => False
def wSl (a : EW) (lo hi : OW) : EW := fun X ρ Q => a X ρ fun x => lo X ρ fun l => hi X ρ fun h => match x with
  | .tup xs => Q (.tup (cutD xs l h))
  | .lst xs => Q (.lst (cutD xs l h))
  | .str s => s.length ≤ 100000 ∧ Q (.str (L2.cutS s l h))
  | _ => False
/-- x[::-1] of a list -/
def bRev : Op1
  | .lst xs, Q => Q (.lst xs.reverse)
  | _, _ => False
/-! ### built-ins -/
def bAbs : OpN
  | [.int i], Q => Q (.int (if i < 0 then -i else i))
  | _, _ => False
def bMax2 : OpN
  | [.int i, .int j], Q => Q (.int (if j > i then j else i))
  | _, _ => False
def bMin2 : OpN
  | [.int i, .int j], Q => Q (.int (if j < i then j else i))
  | _, _ => False
def bInt : OpN
  | [.int i], Q => Q (.int i)
  | [.bl b], Q => Q (.int (if b then 1 else 0))
  | _, _ => False
def bStr : OpN
  | [.int i], Q => i.natAbs.log2 < 1920 ∧ Q (.str (toString i))
  | _, _ => False
def bLen : OpN
  | [.tup xs], Q => Q (.int xs.length)
  | [.lst xs], Q => Q (.int xs.length)
  | [.str s], Q => s.length ≤ 100000 ∧ Q (.int s.length)
  | _, _ => False
def bTuple : OpN
  | [.lst xs], Q => Q (.tup xs)
  | [.tup xs], Q => Q (.tup xs)
  | _, _ => False
def bList : List D → (List D → Prop) → Prop
  | [.lst xs], Q => Q xs
  | [.tup xs], Q => Q xs
  | _, _ => False
def bools : List D → Option (List Bool)
  | [] => some []
  | .bl b :: r => (bools r).map (b :: ·)
  | _ :: _ => none
def bAll : OpN
  | [.lst xs], Q => match bools xs with
    | some bs => Q (.bl (bs.all id))
    | none => False
  | _, _ => False
def bAny : OpN
  | [.lst xs], Q => match bools xs with
    | some bs => Q (.bl (bs.any id))
    | none => False
  | _, _ => False
def intsD : List D → Option (List Int)
  | [] => some []
  | .int b :: r => (intsD r).map (b :: ·)
  | _ :: _ => none
def bSum : OpN
  | [.lst xs], Q => match intsD xs with
    | some ns => Q (.int ns.sum)
    | none => False
  | _, _ => False
def tyOf : D → Option String
  | .non => some "NoneType"
  | .bl _ => some "bool"
  | .int _ => some "int"
  | .str _ => some "str"
  | .tup _ => some "tuple"
  | .lst _ => some "list"
  | .ins _ _ _ => none
/-- isinstance(x, T) of built-in types -/
def isT : String → String → Bool
  | "bool", "bool" => true
  | "bool", "int" => true
  | "int", "int" => true
  | "str", "str" => true
  | "tuple", "tuple" => true
  | "list", "list" => true
  | _, _ => false
def bIsi (T : String) : Op1 := fun x Q => match tyOf x with
  | some t => Q (.bl (isT t T))
  | none => False
def bIsi2 (T U : String) : Op1 := fun x Q => match tyOf x with
  | some t => Q (.bl (isT t T || isT t U))
  | none => False
def bEq : Op2 := fun x y Q => plain 40 x = true ∧ plain 40 y = true ∧ Q (.bl (peq x y))
def bNe : Op2 := fun x y Q => plain 40 x = true ∧ plain 40 y = true ∧ Q (.bl (!peq x y))

/-! ### statements -/
def sNext : SW := fun _ DD ρ => DD.nx ρ
def sSeq (t u : SW) : SW := fun X DD ρ => t X { DD with nx := u X DD } ρ
def sBreak : SW := fun _ DD ρ => DD.bk ρ
def sCont : SW := fun _ DD ρ => DD.ct ρ
def sNever : SW := fun _ _ _ => False
def sDrop (a : EW) : SW := fun X DD ρ => a X ρ fun _ => DD.nx ρ
def sRet (a : EW) : SW := fun X DD ρ => a X ρ fun x => DD.rt (.d x)
def sRetN : SW := fun _ DD _ => DD.rt (.d .non)
/-- return x, x the frame's own list: the caller's own from there on -/
def sRetOwn (i : Nat) : SW := fun _ DD ρ => match ρ[i]? with
  | some (.own xs) => DD.rt (.own xs)
  | _ => False
def sRetL (l : LW) : SW := fun X DD ρ => l X ρ fun xs => DD.rt (.own xs)
def sIf (c : TW) (t u : SW) : SW := fun X DD ρ => c X ρ fun b => if b = true then t X DD ρ else u X DD ρ
def sAsg (a : EW) (g : GW) : SW := fun X DD ρ => a X ρ fun x => g x ρ DD.nx
def gNm (i : Nat) : GW := fun x ρ Q => Q (ρ.set i (.d x))
def gNilW : List D → Env → (Env → Prop) → Prop := fun xs ρ Q => xs = [] ∧ Q ρ
def gConsW (g : GW) (r : List D → Env → (Env → Prop) → Prop) : List D → Env → (Env → Prop) → Prop := fun xs ρ Q => match xs with
  | x :: t => g x ρ fun ρ' => r t ρ' Q
  | [] => False
def gTupW (r : List D → Env → (Env → Prop) → Prop) : GW := fun x ρ Q => match x with
  | .tup xs => r xs ρ Q
  | .lst xs => r xs ρ Q
  | _ => False
def sSetL (i : Nat) (l : LW) : SW := fun X DD ρ => l X ρ fun xs => DD.nx (ρ.set i (.own xs))
/-- arguments that may be fresh lists -/
def wConsL (l : LW) (r : AW) : AW := fun X ρ Q => l X ρ fun xs => r X ρ fun ss => Q (.own xs :: ss)
def setAll : List Nat → List SV → Env → Option Env
  | [], [], ρ => some ρ
  | i :: is, s :: ss, ρ => setAll is ss (ρ.set i s)
  | _, _, _ => none
/-- a, b, .. = x, y, .. -/
def sPar (is : List Nat) (t : AW) : SW := fun X DD ρ => t X ρ fun ss => match setAll is ss ρ with
  | some ρ' => DD.nx ρ'
  | none => False
def sAugI (i : Nat) (f : Int → Int → Int) (a : EW) : SW := fun X DD ρ => match ρ[i]? with
  | some (.d (.int x)) => a X ρ fun y => match y with
    | .int y => DD.nx (ρ.set i (.d (.int (f x y))))
    | _ => False
  | _ => False
/-- x.append(e), x[k] = e, x.pop(), x.pop(k), x.insert(k, e): x the frame's own list -/
def sAppend (i : Nat) (a : EW) : SW := fun X DD ρ => match ρ[i]? with
  | some (.own xs) => a X ρ fun x => xs.length < 100000 ∧ DD.nx (ρ.set i (.own (xs ++ [x])))
  | _ => False
def sSetItem (i : Nat) (k a : EW) : SW := fun X DD ρ => match ρ[i]? with
  | some (.own xs) => a X ρ fun x => k X ρ fun y => match y with
    | .int j => match L2.ixN xs.length j with
      | some n => DD.nx (ρ.set i (.own (xs.set n x)))
      | none => False
    | _ => False
  | _ => False
def sPop (i : Nat) : SW := fun _ DD ρ => match ρ[i]? with
  | some (.own xs) => xs ≠ [] ∧ DD.nx (ρ.set i (.own xs.dropLast))
  | _ => False
/-- from here on the list is data -/
def sFreeze (i : Nat) (t : SW) : SW := fun X DD ρ => match ρ[i]? with
  | some (.own xs) => t X DD (ρ.set i (.d (.lst xs)))
  | some (.d _) => t X DD ρ
  | _ => False
/-- x[k], the list x the frame's own -/
def wIxOwn (i : Nat) (k : EW) : EW := fun X ρ Q => match ρ[i]? with
  | some (.own xs) => k X ρ fun y => match y with
    | .int j => match L2.atI xs j with
      | some d => Q d
      | none => False
    | _ => False
  | _ => False
def scalarD : D → Prop
  | .non => True
  | .bl _ => True
  | .int _ => True
  | .str _ => True
  | _ => False
/-- x read as data in an expression that gives no object -/
def wBorrow (i : Nat) (w : EW) : EW := fun X ρ Q => match ρ[i]? with
  | some (.own xs) => w (fun _ _ => False) (ρ.set i (.d (.lst xs))) fun d => scalarD d ∧ Q d
  | _ => False
def tBorrow (i : Nat) (w : TW) : TW := fun X ρ Q => match ρ[i]? with
  | some (.own xs) => w (fun _ _ => False) (ρ.set i (.d (.lst xs))) Q
  | _ => False

/-! ### what is walked -/
abbrev IW := XD → Env → (List D → Prop) → Prop
def iSeq (a : EW) : IW := fun X ρ Q => a X ρ fun x => match x with
  | .tup xs => Q xs
  | .lst xs => Q xs
  | .str s => Q (s.cps.toList.map fun c => .str ⟨#[c]⟩)
  | _ => False
def rangeD (lo : Int) (n : Nat) : List D := (List.range n).map fun (k : Nat) => D.int (lo + (k : Int))
def iRange1 (a : EW) : IW := fun X ρ Q => a X ρ fun x => match x with
  | .int n => (-(2 ^ 62) ≤ n ∧ n < 2 ^ 62) ∧ Q (rangeD 0 n.toNat)
  | _ => False
def iRange2 (a b : EW) : IW := fun X ρ Q => a X ρ fun x => b X ρ fun y => match x, y with
  | .int m, .int n => (-(2 ^ 62) ≤ m ∧ m < 2 ^ 62 ∧ -(2 ^ 62) ≤ n ∧ n < 2 ^ 62) ∧ Q (rangeD m (n - m).toNat)
  | _, _ => False
def seqD : D → Option (List D)
  | .tup xs => some xs
  | .lst xs => some xs
  | _ => none
def pairD (xs ys : List D) : List D := List.zipWith (fun x y => .tup [x, y]) xs ys
def iZipW (a b : EW) : IW := fun X ρ Q => a X ρ fun x => b X ρ fun y => match x, y with
  | .lst xs, .lst ys => Q (pairD xs ys)
  | .tup xs, .tup ys => Q (pairD xs ys)
  | _, _ => False
def enumD (xs : List D) : List D := pairD (rangeD 0 xs.length) xs
def iEnumW (a : EW) : IW := fun X ρ Q => a X ρ fun x => match x with
  | .lst xs => Q (enumD xs)
  | .tup xs => Q (enumD xs)
  | _ => False
def forGo (g : GW) (b : SW) (X : XD) (DD : DEnds) : List D → Env → Prop
  | [], ρ => DD.nx ρ
  | x :: xs, ρ => g x ρ fun ρ' => b X { DD with nx := forGo g b X DD xs, ct := forGo g b X DD xs, bk := DD.nx } ρ'
def sFor (it : IW) (g : GW) (b : SW) : SW := fun X DD ρ => it X ρ fun xs => forGo g b X DD xs ρ
def sWhile (c : TW) (b : SW) : SW := fun X DD ρ => ∃ I : Nat → Env → Prop, (∃ m, I m ρ) ∧ ∀ m ρ, I m ρ →
  c X ρ fun k => if k = true then b X { DD with nx := fun ρ' => ∃ m', m' < m ∧ I m' ρ', ct := fun ρ' => ∃ m', m' < m ∧ I m' ρ', bk := DD.nx } ρ else DD.nx ρ
def tYesW : TW := fun _ _ Q => Q true
def wipeW (ρ : Env) : List Nat → Env
  | [] => ρ
  | v :: vs => (wipeW ρ vs).set v .un
def X0 : XD := fun _ _ => False
def compGo (g : GW) (t : TW) (a : EW) (ρ : Env) (Q : List D → Prop) : List D → List D → Prop
  | [], acc => Q acc
  | x :: xs, acc => g x ρ fun ρ' => t X0 ρ' fun k => if k = true then a X0 ρ' fun y => acc.length < 100000 ∧ compGo g t a ρ Q xs (acc ++ [y]) else compGo g t a ρ Q xs acc
/-- [a for g in it if t]: vs the comprehension's own slots -/
def lComp (it : IW) (g : GW) (t : TW) (a : EW) (vs : List Nat) : LW := fun X ρ Q => it X ρ fun xs => compGo g t a (wipeW ρ vs) Q xs []

def permL {α : Type} (idx : List Nat) (xs : List α) : List α := idx.filterMap fun i => xs[i]?
/-- f(k = e, ..): the values in the parameters' order -/
def wCallK (sp : Spec) (idx : List Nat) (t : AW) : EW := fun X ρ Q => t X ρ fun ss => ss.length = idx.length ∧ sp (permL idx ss) (fun r => Q r.toD) (X ρ)
end DL
set_option linter.all false
set_option autoImplicit false
set_option maxHeartbeats 2000000
/-! Each rule of the hand layer, lifted to data. -/
namespace DL
open PySem PySem.Spec PyProof.Rows L2

/-- a source of numbers: an object (and what it holds) that calls may change -/
structure SrcK where
  P : Addr → List Addr → Hp → Prop
  loc : ∀ {a : Addr} {fp : List Addr} {H H' : Hp}, P a fp H → (∀ b ∈ fp, H' b = H b) → P a fp H'
  tr : ∀ {a : Addr} {fp : List Addr} {H : Hp}, P a fp H → a ∈ fp ∧ ∀ b ∈ fp, H b ≠ none

/-- an instance of C with these fields, or (C is "{}") a dict with these texts as keys -/
def ObAt (K : PySem.W.Frag) (C : Str) (gs : List (Str × V)) : HO → Prop
  | .ins CA _ hs => hs = gs ∧ C ≠ ("{}" : Str) ∧ PySem.W.nsIn K mainGlobals C = some (some (.ref CA))
  | .dK kvs => C = "{}" ∧ kvs = gs.map fun p => (.inr p.1, p.2)
  | _ => False
theorem ObAt.ins {K : PySem.W.Frag} {C : Str} {gs : List (Str × V)} {ob : HO} (h : ObAt K C gs ob) (hC : C ≠ ("{}" : Str)) : ∃ CA dx, ob = .ins CA dx gs ∧ PySem.W.nsIn K mainGlobals C = some (some (.ref CA)) := by
  cases ob with
  | ins CA dx hs =>
    obtain ⟨rfl, _, h⟩ := h
    exact ⟨CA, dx, rfl, h⟩
  | dK kvs => exact absurd h.1 hC
  | _ => exact h.elim
theorem ObAt.dic {K : PySem.W.Frag} {gs : List (Str × V)} {ob : HO} (h : ObAt K "{}" gs ob) : ob = .dK (gs.map fun p => (.inr p.1, p.2)) := by
  cases ob with
  | ins CA dx hs => exact absurd rfl h.2.1
  | dK kvs => rw [h.2]
  | _ => exact h.elim
theorem ObAt.nl {K : PySem.W.Frag} {C : Str} {gs : List (Str × V)} {ob : HO} (h : ObAt K C gs ob) (vs : List V) : ob ≠ .lst vs := fun e => by
  subst e
  exact h
section
variable (K : PySem.W.Frag)
mutual
def Rep (F : Hp) : D → V → Prop
  | .non, v => v = .non
  | .bl b, v => v = .bl b
  | .int i, v => v = .int i
  | .str s, v => v = .str s
  | .tup xs, v => ∃ (a : Addr) (vs : List V), v = .ref a ∧ SqT K F a vs ∧ RepL F xs vs
  | .lst xs, v => ∃ (a : Addr) (vs : List V), v = .ref a ∧ SqL K F a vs ∧ RepL F xs vs
  | .ins C ns xs, v => ∃ (a : Addr) (ob : HO) (fs : List (Str × V)), v = .ref a ∧ (F a = some ob ∧ ObAt K C fs ob) ∧ fs.map (·.1) = ns ∧ RepL F xs (fs.map (·.2))
def RepL (F : Hp) : List D → List V → Prop
  | [], vs => vs = []
  | x :: xs, vs => ∃ (v : V) (r : List V), vs = v :: r ∧ Rep F x v ∧ RepL F xs r
end
end

section
variable {K : PySem.W.Frag} {F F' H H' : Hp}
theorem rd_same {a : Addr} {u : HO} (e : Same F F') (h : Rd F a u) : Rd F' a u := h.elim (fun z => .inl (e _ _ z)) fun ⟨o, z⟩ => .inr ⟨o, e _ _ z⟩
theorem same_l {a : Addr} {xs : List V} (e : Same F F') (h : SqL K F a xs) : SqL K F' a xs := h.elim (fun z => .inl (rd_same e z)) .inr
theorem same_t {a : Addr} {xs : List V} (e : Same F F') (h : SqT K F a xs) : SqT K F' a xs := by
  rcases h with (h | ⟨o, h⟩) | h
  · exact .inl (.inl (e _ _ h))
  · exact .inl (.inr ⟨o, e _ _ h⟩)
  · exact .inr h
mutual
theorem Rep.mono (e : Same F F') : ∀ (d : D) (v : V), Rep K F d v → Rep K F' d v
  | .non, _, h => h
  | .bl _, _, h => h
  | .int _, _, h => h
  | .str _, _, h => h
  | .tup xs, v, h => by
    obtain ⟨a, vs, e1, e2, e3⟩ := h
    exact ⟨a, vs, e1, same_t e e2, RepL.mono e xs vs e3⟩
  | .lst xs, v, h => by
    obtain ⟨a, vs, e1, e2, e3⟩ := h
    exact ⟨a, vs, e1, same_l e e2, RepL.mono e xs vs e3⟩
  | .ins C ns xs, v, h => by
    obtain ⟨a, ob, fs, e1, ⟨e2, e0⟩, e3, e4⟩ := h
    exact ⟨a, ob, fs, e1, ⟨e _ _ e2, e0⟩, e3, RepL.mono e xs _ e4⟩
theorem RepL.mono (e : Same F F') : ∀ (ds : List D) (vs : List V), RepL K F ds vs → RepL K F' ds vs
  | [], _, h => h
  | x :: xs, vs, h => by
    obtain ⟨v, r, e1, e2, e3⟩ := h
    exact ⟨v, r, e1, Rep.mono e x v e2, RepL.mono e xs r e3⟩
end
theorem RepL.len : ∀ {ds : List D} {vs : List V}, RepL K F ds vs → vs.length = ds.length
  | [], _, h => by
    have h : _ = [] := h
    rw [h] <;> rfl
  | x :: xs, vs, h => by
    obtain ⟨v, r, rfl, _, e3⟩ := h
    rw [List.length_cons, List.length_cons, RepL.len e3]
theorem RepL.get : ∀ {ds : List D} {vs : List V} {i : Nat} {d : D}, RepL K F ds vs → ds[i]? = some d → ∃ v, vs[i]? = some v ∧ Rep K F d v
  | [], _, _, _, _, e => by simp at e
  | x :: xs, vs, 0, d, h, e => by
    obtain ⟨v, r, rfl, e2, _⟩ := h
    have e : x = d := by simpa using e
    subst e
    exact ⟨v, rfl, e2⟩
  | x :: xs, vs, i + 1, d, h, e => by
    obtain ⟨v, r, rfl, _, e3⟩ := h
    have e : xs[i]? = some d := by simpa using e
    obtain ⟨u, h1, h2⟩ := RepL.get e3 e
    exact ⟨u, by simpa using h1, h2⟩
theorem RepL.app : ∀ {xs ys : List D} {vs ws : List V}, RepL K F xs vs → RepL K F ys ws → RepL K F (xs ++ ys) (vs ++ ws)
  | [], _, _, _, h, k => by
    have h : _ = [] := h
    subst h
    exact k
  | x :: xs, ys, vs, ws, h, k => by
    obtain ⟨v, r, rfl, e2, e3⟩ := h
    exact ⟨v, r ++ ws, rfl, e2, RepL.app e3 k⟩
theorem RepL.one {d : D} {v : V} (h : Rep K F d v) : RepL K F [d] [v] := ⟨v, [], rfl, h, rfl⟩
theorem RepL.take : ∀ {xs : List D} {vs : List V} (n : Nat), RepL K F xs vs → RepL K F (xs.take n) (vs.take n)
  | [], _, n, h => by
    have h : _ = [] := h
    subst h
    simp
    rfl
  | x :: xs, _, 0, h => rfl
  | x :: xs, _, n + 1, h => by
    obtain ⟨v, r, rfl, e2, e3⟩ := h
    exact ⟨v, r.take n, rfl, e2, RepL.take n e3⟩
theorem RepL.drop : ∀ {xs : List D} {vs : List V} (n : Nat), RepL K F xs vs → RepL K F (xs.drop n) (vs.drop n)
  | [], _, n, h => by
    have h : _ = [] := h
    subst h
    simp
    rfl
  | x :: xs, _, 0, h => h
  | x :: xs, _, n + 1, h => by
    obtain ⟨v, r, rfl, e2, e3⟩ := h
    exact RepL.drop n e3
theorem RepL.set : ∀ {xs : List D} {vs : List V} {d : D} {v : V} (n : Nat), RepL K F xs vs → Rep K F d v → RepL K F (xs.set n d) (vs.set n v)
  | [], _, _, _, n, h, k => by
    have h : _ = [] := h
    subst h
    rfl
  | x :: xs, _, d, v, 0, h, k => by
    obtain ⟨u, r, rfl, e2, e3⟩ := h
    exact ⟨v, r, rfl, k, e3⟩
  | x :: xs, _, d, v, n + 1, h, k => by
    obtain ⟨u, r, rfl, e2, e3⟩ := h
    exact ⟨u, r.set n v, rfl, e2, RepL.set n e3 k⟩
theorem RepL.erase : ∀ {xs : List D} {vs : List V} (n : Nat), RepL K F xs vs → RepL K F (xs.eraseIdx n) (vs.eraseIdx n)
  | [], _, n, h => by
    have h : _ = [] := h
    subst h
    rfl
  | x :: xs, _, 0, h => by
    obtain ⟨u, r, rfl, e2, e3⟩ := h
    exact e3
  | x :: xs, _, n + 1, h => by
    obtain ⟨u, r, rfl, e2, e3⟩ := h
    exact ⟨u, r.eraseIdx n, rfl, e2, RepL.erase n e3⟩
theorem RepL.rev : ∀ {xs : List D} {vs : List V}, RepL K F xs vs → RepL K F xs.reverse vs.reverse
  | [], _, h => by
    have h : _ = [] := h
    subst h
    rfl
  | x :: xs, _, h => by
    obtain ⟨u, r, rfl, e2, e3⟩ := h
    rw [List.reverse_cons, List.reverse_cons]
    exact RepL.app (RepL.rev e3) (RepL.one e2)
theorem RepL.dropLast {xs : List D} {vs : List V} (h : RepL K F xs vs) : RepL K F xs.dropLast vs.dropLast := by
  rw [List.dropLast_eq_take, List.dropLast_eq_take, h.len]
  exact h.take _
end

/-! ### what a frame holds -/
structure Cfg where
  src : Option (Addr × List Addr)
  F0 : Hp
  H0 : Hp
def Cfg.fp (c : Cfg) : List Addr := match c.src with
  | some p => p.2
  | none => []
def SlotOk (K : PySem.W.Frag) (c : Cfg) (F H : Hp) : SV → Option V → Prop
  | .un, _ => True
  | .d x, o => ∃ v, o = some v ∧ Rep K F x v
  | .own xs, o => ∃ (a : Addr) (vs : List V), o = some (.ref a) ∧ F a = none ∧ c.H0 a = none ∧ H a = some (.lst vs) ∧ RepL K F xs vs
  | .src, o => ∃ (a : Addr) (fp : List Addr), c.src = some (a, fp) ∧ o = some (.ref a)
  | .obj a C fs, o => ∃ (ob : HO) (gs : List (Str × V)), o = some (.ref a) ∧ F a = none ∧ c.H0 a = none ∧ H a = some ob ∧ ObAt K C gs ob ∧ gs.map (·.1) = fs.map (·.1) ∧ RepL K F (fs.map (·.2)) (gs.map (·.2))
theorem obj_kx {K : PySem.W.Frag} {c : Cfg} {F H F' H' : Hp} {px : Addr} {C : Str} {fs : List (Str × D)} {o : Option V} (h : SlotOk K c F H (.obj px C fs) o) (sF : Same F F') (kp : ∀ a u, H a = some u → c.H0 a = none → (∀ vs, u ≠ .lst vs) → H' a = some u)
    (new : ∀ b, F' b ≠ none → F b ≠ none ∨ H b = none ∨ ∃ vs, H b = some (.lst vs)) : SlotOk K c F' H' (.obj px C fs) o := by
  obtain ⟨ob, gs, r1, r2, r3, r4, r5, r6, r7⟩ := h
  refine ⟨ob, gs, r1, ?_, r3, kp _ _ r4 r3 r5.nl, r5, r6, RepL.mono sF _ _ r7⟩
  cases q : F' px with
  | none => rfl
  | some u =>
    rcases new px (by rw [q]; simp) with z | z | ⟨vs, z⟩
    · exact absurd r2 z
    · rw [r4] at z
      cases z
    · rw [r4] at z
      exact absurd (Option.some.inj z) (r5.nl vs)
structure EnvOk (Z : SrcK) (K : PySem.W.Frag) (c : Cfg) (F H : Hp) (σ : L2.St) (ρ : Env) : Prop where
  len : σ.length = ρ.length
  slot : ∀ (i : Nat) s, ρ[i]? = some s → ∃ o, σ[i]? = some o ∧ SlotOk K c F H s o
  sep : ∀ (i j : Nat) xs ys, i ≠ j → ρ[i]? = some (SV.own xs) → ρ[j]? = some (SV.own ys) → σ[i]? ≠ σ[j]?
  fh : Same F H
  f0 : Same c.F0 F
  new : ∀ b, F b ≠ none → c.F0 b ≠ none ∨ c.H0 b = none
  keep : ∀ b o, c.H0 b = some o → b ∉ c.fp → H b = some o
  all : ∀ b, c.H0 b ≠ none → H b ≠ none
  src : ∀ a fp, c.src = some (a, fp) → Z.P a fp H ∧ ∀ b ∈ fp, F b = none ∧ c.H0 b ≠ none
/-- all is kept, some is new -/
structure Ext (F H F' H' : Hp) : Prop where
  ff : Same F F'
  hh : Same H H'
  fh : Same F' H'
  new : ∀ b, F' b ≠ none → F b ≠ none ∨ H b = none
def Nx (H H' : Hp) : Prop := ∀ b, H b ≠ none → H' b ≠ none
theorem Nx.refl (H : Hp) : Nx H H := fun _ h => h
theorem Nx.trans {H H1 H2 : Hp} (a : Nx H H1) (b : Nx H1 H2) : Nx H H2 := fun x h => b x (a x h)
theorem Nx.free {H H' : Hp} (n : Nx H H') {a : Addr} (h : H' a = none) : H a = none := by
  cases q : H a with
  | none => rfl
  | some o => exact absurd h (n a (by rw [q]; simp))
theorem Same.nx {H H' : Hp} (e : Same H H') : Nx H H' := fun b h => by
  cases q : H b with
  | none => exact absurd q h
  | some o => rw [e b o q]; simp
/-- all that is tracked stays so; and stays as it is, but for the source; what is data from now on was so, or is new -/
structure Kx (fp : List Addr) (F H F' H' : Hp) : Prop where
  nx : Nx H H'
  kp : ∀ b o, H b = some o → b ∉ fp → H' b = some o
  new : ∀ b, F' b ≠ none → F b ≠ none ∨ H b = none
theorem Kx.refl (fp : List Addr) (F H : Hp) : Kx fp F H F H := ⟨Nx.refl H, fun _ _ h _ => h, fun _ h => .inl h⟩
theorem Kx.trans {fp : List Addr} {F H F1 H1 F2 H2 : Hp} (a : Kx fp F H F1 H1) (b : Kx fp F1 H1 F2 H2) : Kx fp F H F2 H2 :=
  ⟨a.nx.trans b.nx, fun x o h n => b.kp x o (a.kp x o h n) n, fun x h => (b.new x h).elim (a.new x) fun n => .inr (a.nx.free n)⟩
theorem Kx.free {fp : List Addr} {F H F' H' : Hp} (n : Kx fp F H F' H') {a : Addr} (h : H' a = none) : H a = none := n.nx.free h
theorem Ext.kx {fp : List Addr} {F H F' H' : Hp} (x : Ext F H F' H') : Kx fp F H F' H' := ⟨Same.nx x.hh, fun b o h _ => x.hh b o h, x.new⟩
theorem Kx.lay {fp : List Addr} {F H : Hp} {p : Addr} {o : HO} (h : H p = none) : Kx fp F H F (upd H p o) := ⟨fun b q => by
  by_cases hb : b = p
  · subst hb
    rw [upd_same]
    simp
  · rw [upd_ne hb]
    exact q, fun b u q _ => by
  rw [upd_ne (ne_of_none q h)]
  exact q, fun _ h => .inl h⟩
theorem ne_some {H : Hp} {b : Addr} (h : H b ≠ none) : ∃ o, H b = some o := by
  cases q : H b with
  | none => exact absurd q h
  | some o => exact ⟨o, rfl⟩
theorem Ext.refl {F H : Hp} (h : Same F H) : Ext F H F H := ⟨Same.refl _, Same.refl _, h, fun _ h => .inl h⟩
theorem Ext.trans {F H F1 H1 F2 H2 : Hp} (a : Ext F H F1 H1) (b : Ext F1 H1 F2 H2) : Ext F H F2 H2 :=
  ⟨a.ff.trans b.ff, a.hh.trans b.hh, b.fh, fun x h => (b.new x h).elim (a.new x) fun n => .inr ((Same.nx a.hh).free n)⟩
/-- a new object laid, frozen at once -/
theorem Ext.lay {F H : Hp} {p : Addr} {o : HO} (h : Same F H) (n : H p = none) : Ext F H (upd F p o) (upd H p o) := by
  have nf : F p = none := h.free n
  refine ⟨fun b u e => ?_, fun b u e => ?_, fun b u e => ?_, fun b e => ?_⟩
  · rw [upd_ne (ne_of_none e nf)]
    exact e
  · rw [upd_ne (ne_of_none e n)]
    exact e
  · by_cases hb : b = p
    · subst hb
      rw [upd_same] at e ⊢
      exact e
    · rw [upd_ne hb] at e ⊢
      exact h b u e
  · by_cases hb : b = p
    · subst hb
      exact .inr n
    · rw [upd_ne hb] at e
      exact .inl e
section
variable {Z : SrcK} {K : PySem.W.Frag} {c : Cfg} {F H F' H' : Hp} {σ : L2.St} {ρ : Env}
theorem Cfg.fp_of {a : Addr} {fp : List Addr} (h : c.src = some (a, fp)) : c.fp = fp := by
  unfold Cfg.fp
  rw [h]
theorem Cfg.of_fp {b : Addr} (h : b ∈ c.fp) : ∃ a fp, c.src = some (a, fp) ∧ b ∈ fp := by
  unfold Cfg.fp at h
  cases q : c.src with
  | none =>
    rw [q] at h
    cases h
  | some p =>
    rw [q] at h
    exact ⟨p.1, p.2, rfl, h⟩
theorem EnvOk.ext (e : EnvOk Z K c F H σ ρ) (x : Ext F H F' H') : EnvOk Z K c F' H' σ ρ where
  len := e.len
  slot := fun i s h => by
    obtain ⟨o, h1, h2⟩ := e.slot i s h
    refine ⟨o, h1, ?_⟩
    cases s with
    | un => trivial
    | d y =>
      obtain ⟨v, r1, r2⟩ := h2
      exact ⟨v, r1, Rep.mono x.ff _ _ r2⟩
    | own ys =>
      obtain ⟨a, vs, r1, r2, r3, r4, r5⟩ := h2
      refine ⟨a, vs, r1, ?_, r3, x.hh _ _ r4, RepL.mono x.ff _ _ r5⟩
      cases q : F' a with
      | none => rfl
      | some u =>
        rcases x.new a (by rw [q]; simp) with z | z
        · exact absurd r2 z
        · rw [r4] at z
          cases z
    | src => exact h2
    | obj px C fs => exact obj_kx h2 x.ff (fun a u z _ _ => x.hh _ _ z) fun b z => (x.new b z).elim .inl fun z => .inr (.inl z)
  sep := e.sep
  fh := x.fh
  f0 := e.f0.trans x.ff
  new := fun b h => (x.new b h).elim (e.new b) fun n => .inr (by
    cases q : c.H0 b with
    | none => rfl
    | some o => exact absurd n (e.all b (by rw [q]; simp)))
  keep := fun b o h hb => x.hh _ _ (e.keep b o h hb)
  all := fun b h => Same.nx x.hh b (e.all b h)
  src := fun a fp h => by
    obtain ⟨p, q⟩ := e.src a fp h
    have t := (Z.tr p).2
    refine ⟨Z.loc p fun b hb => ?_, fun b hb => ⟨?_, (q b hb).2⟩⟩
    · obtain ⟨o, ho⟩ := ne_some (t b hb)
      rw [ho, x.hh _ _ ho]
    · cases z : F' b with
      | none => rfl
      | some u =>
        rcases x.new b (by rw [z]; simp) with k | k
        · exact absurd (q b hb).1 k
        · exact absurd k (t b hb)
end

/-! ### exceptions -/
def ExRep (K : PySem.W.Frag) (F : Hp) (ex : Exc) (cls : Value) (dd : Option Addr) : Prop :=
  (∃ C : Addr, cls = .ref C ∧ PySem.W.nsIn K mainGlobals ex.cls = some (some (.ref C))) ∧ match ex.fld with
    | none => dd = none
    | some (f, x) => ∃ (dx : Addr) (v : V), dd = some dx ∧ F dx = some (.xd [(f, v)]) ∧ Rep K F x v
def ELk (Z : SrcK) (K : PySem.W.Frag) (c : Cfg) (F H : Hp) (E : L2.St → XK) (Xd : XD) : Prop :=
  ∀ (σ : L2.St) (ρ : Env) (ex : Exc) (F' H' : Hp) (cls : Value) (dd : Option Addr), Xd ρ ex → EnvOk Z K c F' H' σ ρ → Same F F' → Nx H H' → ExRep K F' ex cls dd → E σ cls dd H'
theorem ELk.mono {Z : SrcK} {K : PySem.W.Frag} {c : Cfg} {F H F1 H1 : Hp} {E : L2.St → XK} {Xd : XD} (h : ELk Z K c F H E Xd) (e : Same F F1) (n : Nx H H1) : ELk Z K c F1 H1 E Xd :=
  fun σ ρ ex F' H' cls dd x o s m r => h σ ρ ex F' H' cls dd x o (e.trans s) (n.trans m) r

/-! ### what a reading does to data -/
def LE (Z : SrcK) (K : PySem.W.Frag) (E : L2.St → XK) (t : TE) (w : EW) : Prop :=
  ∀ (c : Cfg) (F H : Hp) (σ : L2.St) (ρ : Env) (Xd : XD) (Qd : D → Prop) (Qv : VK), EnvOk Z K c F H σ ρ → ELk Z K c F H E Xd → w Xd ρ Qd →
    (∀ d v F' H', Qd d → EnvOk Z K c F' H' σ ρ → Same F F' → Kx c.fp F H F' H' → Rep K F' d v → Qv v H') → t σ H Qv
def LL (Z : SrcK) (K : PySem.W.Frag) (E : L2.St → XK) (t : TE) (w : LW) : Prop :=
  ∀ (c : Cfg) (F H : Hp) (σ : L2.St) (ρ : Env) (Xd : XD) (Qd : List D → Prop) (Qv : VK), EnvOk Z K c F H σ ρ → ELk Z K c F H E Xd → w Xd ρ Qd →
    (∀ xs (a : Addr) vs F' H', Qd xs → EnvOk Z K c F' H' σ ρ → Same F F' → Kx c.fp F H F' H' → H a = none → F' a = none → H' a = some (.lst vs) → RepL K F' xs vs → Qv (.ref a) H') → t σ H Qv
def LT (Z : SrcK) (K : PySem.W.Frag) (E : L2.St → XK) (t : TT) (w : TW) : Prop :=
  ∀ (c : Cfg) (F H : Hp) (σ : L2.St) (ρ : Env) (Xd : XD) (Qd : Bool → Prop) (Qv : Bool → Hp → Prop), EnvOk Z K c F H σ ρ → ELk Z K c F H E Xd → w Xd ρ Qd →
    (∀ b F' H', Qd b → EnvOk Z K c F' H' σ ρ → Same F F' → Kx c.fp F H F' H' → Qv b H') → t σ H Qv
def ArgOk (K : PySem.W.Frag) (src : Option (Addr × List Addr)) (F : Hp) : SV → V → Prop
  | .un, _ => False
  | .d x, v => Rep K F x v
  | .own _, _ => False
  | .src, v => ∃ (a : Addr) (fp : List Addr), src = some (a, fp) ∧ v = .ref a
  | .obj _ _ _, _ => False
def ArgsOk (K : PySem.W.Frag) (src : Option (Addr × List Addr)) (F : Hp) : List SV → List V → Prop
  | [], vs => vs = []
  | s :: r, vs => ∃ (v : V) (t : List V), vs = v :: t ∧ ArgOk K src F s v ∧ ArgsOk K src F r t
def LA (Z : SrcK) (K : PySem.W.Frag) (E : L2.St → XK) (t : TA) (w : AW) : Prop :=
  ∀ (c : Cfg) (F H : Hp) (σ : L2.St) (ρ : Env) (Xd : XD) (Qd : List SV → Prop) (Qv : List V → Hp → Prop), EnvOk Z K c F H σ ρ → ELk Z K c F H E Xd → w Xd ρ Qd →
    (∀ ss vs F' H', Qd ss → EnvOk Z K c F' H' σ ρ → Same F F' → Kx c.fp F H F' H' → ArgsOk K c.src F' ss vs → Qv vs H') → t σ H Qv
def RepR (K : PySem.W.Frag) (F H0 H : Hp) : RV → V → Prop
  | .d x, v => Rep K F x v
  | .own xs, v => ∃ (a : Addr) (vs : List V), v = .ref a ∧ F a = none ∧ H0 a = none ∧ H a = some (.lst vs) ∧ RepL K F xs vs
structure EndsOk (Z : SrcK) (K : PySem.W.Frag) (c : Cfg) (F H : Hp) (DD : DEnds) (D : Ends) : Prop where
  nx : ∀ (σ : L2.St) (ρ : Env) (F' H' : Hp), DD.nx ρ → EnvOk Z K c F' H' σ ρ → Same F F' → Nx H H' → D.nx σ H'
  rt : ∀ (r : RV) (v : V) (σ : L2.St) (ρ : Env) (F' H' : Hp), DD.rt r → EnvOk Z K c F' H' σ ρ → Same F F' → RepR K F' c.H0 H' r v → D.rt v H'
  bk : ∀ (σ : L2.St) (ρ : Env) (F' H' : Hp), DD.bk ρ → EnvOk Z K c F' H' σ ρ → Same F F' → Nx H H' → D.bk σ H'
  ct : ∀ (σ : L2.St) (ρ : Env) (F' H' : Hp), DD.ct ρ → EnvOk Z K c F' H' σ ρ → Same F F' → Nx H H' → D.ct σ H'
theorem EndsOk.mono {Z : SrcK} {K : PySem.W.Frag} {c : Cfg} {F H F1 H1 : Hp} {DD : DEnds} {D : Ends} (h : EndsOk Z K c F H DD D) (e : Same F F1) (n : Nx H H1) : EndsOk Z K c F1 H1 DD D :=
  ⟨fun σ ρ F' H' a b s m => h.nx σ ρ F' H' a b (e.trans s) (n.trans m), fun r v σ ρ F' H' a b s m => h.rt r v σ ρ F' H' a b (e.trans s) m,
   fun σ ρ F' H' a b s m => h.bk σ ρ F' H' a b (e.trans s) (n.trans m), fun σ ρ F' H' a b s m => h.ct σ ρ F' H' a b (e.trans s) (n.trans m)⟩
def LS (Z : SrcK) (K : PySem.W.Frag) (E : L2.St → XK) (t : TS) (w : SW) : Prop :=
  ∀ (c : Cfg) (F H : Hp) (σ : L2.St) (ρ : Env) (Xd : XD) (DD : DEnds) (D : Ends), EnvOk Z K c F H σ ρ → ELk Z K c F H E Xd → w Xd DD ρ → EndsOk Z K c F H DD D → t D σ H

/-! ### the judgements -/
def DE (Z : SrcK) (X : Cx) (E : L2.St → XK) (e : Expr) (w : EW) : Prop := ∃ t, PE X e t ∧ LE Z X.K E t w
def DLs (Z : SrcK) (X : Cx) (E : L2.St → XK) (e : Expr) (w : LW) : Prop := ∃ t, PE X e t ∧ LL Z X.K E t w
def DT (Z : SrcK) (X : Cx) (E : L2.St → XK) (e : Expr) (w : TW) : Prop := ∃ t, PT X e t ∧ LT Z X.K E t w
def DA (Z : SrcK) (X : Cx) (E : L2.St → XK) (es : List Expr) (w : AW) : Prop := ∃ t, PA X es t ∧ LA Z X.K E t w
def DS (Z : SrcK) (X : Cx) (E : L2.St → XK) (st : Stmt) (w : SW) : Prop := ∃ t, PS X st t ∧ LS Z X.K E t w
def DSs (Z : SrcK) (X : Cx) (E : L2.St → XK) (st : List Stmt) (w : SW) : Prop := ∃ t, PSs X st t ∧ LS Z X.K E t w

section
variable {Z : SrcK} {X : Cx} {E : L2.St → XK} {K : PySem.W.Frag} {a b e : Expr} {wa wb wc : EW} {pos : Pos}
/-! ### expressions -/
theorem le_var {i : Nat} : LE Z K E (tVar i) (wVar i) := fun c F H σ ρ Xd Qd Qv e _ h q => by
  unfold wVar at h
  cases q1 : ρ[i]? with
  | none =>
    rw [q1] at h
    exact h.elim
  | some s =>
    rw [q1] at h
    cases s with
    | d x =>
      obtain ⟨o, h1, v, h2, h3⟩ := e.slot i _ q1
      subst h2
      exact ⟨v, h1, q x v F H h e (Same.refl _) (Kx.refl _ _ _) h3⟩
    | un => exact h.elim
    | own _ => exact h.elim
    | src => exact h.elim
    | obj _ _ _ => exact h.elim
theorem de_var (i : Nat) {x : Str} (hN : X.N[i]? = some x := by rfl) (hv : Vis X.env.scope x := by first | exact Or.inl rfl | exact Or.inr (Or.inl rfl) | exact Or.inr (Or.inr rfl)) (hd : (x == ("__debug__" : Str)) = false := by decide)
    (hcd : (x == ("__classdict__" : Str)) = false := by decide) : DE Z X E (.Name x pos) (wVar i) := ⟨_, pe_var hN hv hd hcd, le_var⟩
theorem le_c {x : D} {v : V} (h : ∀ F, Rep K F x v) : LE Z K E (tC v) (wC x) := fun c F H σ ρ Xd Qd Qv e _ k q => q x v F H k e (Same.refl _) (Kx.refl _ _ _) (h F)
theorem de_int {i : Int} {j : Nat} : DE Z X E (.Constant (.int i) j pos) (wC (.int i)) := ⟨_, pe_int, le_c fun _ => rfl⟩
theorem de_bl {i : Bool} {j : Nat} : DE Z X E (.Constant (.bool i) j pos) (wC (.bl i)) := ⟨_, pe_bl, le_c fun _ => rfl⟩
theorem de_non {j : Nat} : DE Z X E (.Constant .none j pos) (wC .non) := ⟨_, pe_non, le_c fun _ => rfl⟩
theorem de_str {s : Str} {j : Nat} : DE Z X E (.Constant (.str s) j pos) (wC (.str s)) := ⟨_, pe_str, le_c fun _ => rfl⟩
/-- a constant of the module -/
theorem de_glob {x : Str} {d : D} {v : V} {u : Value} (r0 : ∀ F, Rep X.K F d v) (hm : X.mg x = some u) (r : RelV v u) (hg : Gl X x := by rfl) (hd : (x == ("__debug__" : Str)) = false := by decide) : DE Z X E (.Name x pos) (wC d) :=
  ⟨_, pe_glob hg hm r hd, le_c r0⟩
/-- two operands -/
def LOp (K : PySem.W.Frag) (r : R2) (o : Op2) : Prop := ∀ (F H : Hp) (dx dy : D) (vx vy : V) (Qd : D → Prop) (Qv : VK), Same F H → Rep K F dx vx → Rep K F dy vy → o dx dy Qd →
  (∀ d v F' H', Qd d → Ext F H F' H' → Rep K F' d v → Qv v H') → r vx vy H Qv
def LUn (K : PySem.W.Frag) (r : V → Hp → VK → Prop) (o : Op1) : Prop := ∀ (F H : Hp) (dx : D) (vx : V) (Qd : D → Prop) (Qv : VK), Same F H → Rep K F dx vx → o dx Qd →
  (∀ d v F' H', Qd d → Ext F H F' H' → Rep K F' d v → Qv v H') → r vx H Qv
theorem le_bin {r : R2} {o : Op2} {ta tb : TE} (ho : LOp K r o) (ha : LE Z K E ta wa) (hb : LE Z K E tb wb) : LE Z K E (tOp r ta tb) (wBin o wa wb) := fun c F H σ ρ Xd Qd Qv e l h q => by
  refine ha c F H σ ρ Xd _ _ e l h fun dx vx F1 H1 h1 e1 s1 n1 r1 => ?_
  refine hb c F1 H1 σ ρ Xd _ _ e1 (l.mono s1 n1.nx) h1 fun dy vy F2 H2 h2 e2 s2 n2 r2 => ?_
  refine ho F2 H2 dx dy vx vy _ _ e2.fh (Rep.mono s2 _ _ r1) r2 h2 fun d v F3 H3 h3 x3 r3 => ?_
  exact q d v F3 H3 h3 (e2.ext x3) ((s1.trans s2).trans x3.ff) ((n1.trans n2).trans x3.kx) r3
theorem le_un {r : V → Hp → VK → Prop} {o : Op1} {ta : TE} (ho : LUn K r o) (ha : LE Z K E ta wa) : LE Z K E (tUn r ta) (wUn o wa) := fun c F H σ ρ Xd Qd Qv e l h q => by
  refine ha c F H σ ρ Xd _ _ e l h fun dx vx F1 H1 h1 e1 s1 n1 r1 => ?_
  refine ho F1 H1 dx vx _ _ e1.fh r1 h1 fun d v F3 H3 h3 x3 r3 => ?_
  exact q d v F3 H3 h3 (e1.ext x3) (s1.trans x3.ff) (n1.trans x3.kx) r3
theorem LOp.or {r r' : R2} {o o' : Op2} (h : LOp K r o) (h' : LOp K r' o') : LOp K (fun x y H Q => r x y H Q ∨ r' x y H Q) (fun x y Q => o x y Q ∨ o' x y Q) := fun F H dx dy vx vy Qd Qv s rx ry z q =>
  z.elim (fun z => .inl (h F H dx dy vx vy Qd Qv s rx ry z q)) fun z => .inr (h' F H dx dy vx vy Qd Qv s rx ry z q)
theorem LOp.imp {r : R2} {o o' : Op2} (h : LOp K r o) (i : ∀ x y Q, o' x y Q → o x y Q) : LOp K r o' := fun F H dx dy vx vy Qd Qv s rx ry z q => h F H dx dy vx vy Qd Qv s rx ry (i _ _ _ z) q
theorem de_bin {op : Operator} {r : R2} {o : Op2} (ho : OpR X (binaryOp op) r) (hl : LOp X.K r o) (ha : DE Z X E a wa) (hb : DE Z X E b wb) : DE Z X E (.BinOp a op b pos) (wBin o wa wb) := by
  obtain ⟨ta, pa, la⟩ := ha
  obtain ⟨tb, pb, lb⟩ := hb
  exact ⟨_, pe_op ho pa pb, le_bin hl la lb⟩
theorem de_un {op : UnaryOp} {r : V → Hp → VK → Prop} {o : Op1} (ho : UnR X (unaryOp op) r) (hl : LUn X.K r o) (ha : DE Z X E a wa) : DE Z X E (.UnaryOp op a pos) (wUn o wa) := by
  obtain ⟨ta, pa, la⟩ := ha
  exact ⟨_, pe_un ho pa, le_un hl la⟩
theorem de_cmp {op : CmpOp} {r : R2} {o : Op2} (ho : OpR X (compareOp op) r) (hl : LOp X.K r o) (ha : DE Z X E a wa) (hb : DE Z X E b wb) (hm : behindInMarks op b = false) : DE Z X E (.Compare a [op] [b] pos) (wBin o wa wb) := by
  obtain ⟨ta, pa, la⟩ := ha
  obtain ⟨tb, pb, lb⟩ := hb
  exact ⟨_, pe_cmpR ho pa pb hm, le_bin hl la lb⟩
theorem lt_test {t : TE} {w : EW} (h : LE Z K E t w) : LT Z K E (tTest t) (tB w) := fun c F H σ ρ Xd Qd Qv e l k q => by
  refine h c F H σ ρ Xd _ _ e l k fun d v F1 H1 h1 e1 s1 n1 r1 => ?_
  cases d with
  | bl y =>
    have r1 : v = .bl y := r1
    exact ⟨y, r1, q y F1 H1 h1 e1 s1 n1⟩
  | non => exact h1.elim
  | int _ => exact h1.elim
  | str _ => exact h1.elim
  | tup _ => exact h1.elim
  | lst _ => exact h1.elim
  | ins _ _ _ => exact h1.elim
theorem dt_cmp {op : CmpOp} {r : R2} {o : Op2} (ho : OpR X (compareOp op) r) (hl : LOp X.K r o) (ha : DE Z X E a wa) (hb : DE Z X E b wb) (hm : behindInMarks op b = false) : DT Z X E (.Compare a [op] [b] pos) (tB (wBin o wa wb)) := by
  obtain ⟨ta, pa, la⟩ := ha
  obtain ⟨tb, pb, lb⟩ := hb
  exact ⟨_, pt_cmpR ho pa pb hm, lt_test (le_bin hl la lb)⟩
theorem dt_val {w : EW} (h : DE Z X E e w) (he : ∀ whole, isTrue e X.env whole = (do let v ← whole; standAt e.pos; holding [v] (truthy v)) := by intro _; rfl) : DT Z X E e (tB w) := by
  obtain ⟨t, p, l⟩ := h
  exact ⟨_, pt_val p he, lt_test l⟩
theorem dt_not {w : TW} (h : DT Z X E a w) : DT Z X E (.UnaryOp .Not a pos) (tNotW w) := by
  obtain ⟨t, p, l⟩ := h
  exact ⟨_, pt_not p, fun c F H σ ρ Xd Qd Qv e k z q => l c F H σ ρ Xd _ _ e k z fun b F1 H1 h1 e1 s1 n1 => q _ F1 H1 h1 e1 s1 n1⟩
/-- chains of and, or -/
def DW (Z : SrcK) (X : Cx) (E : L2.St → XK) (e : Expr) (w : TW) : Prop := ∃ t, PW X e t ∧ LT Z X.K E t w
theorem DW.dt {w : TW} (h : DW Z X E e w) : DT Z X E e w := by
  obtain ⟨t, p, l⟩ := h
  exact ⟨t, p.pt, l⟩
theorem lt_and {t u : TT} {w v : TW} (h : LT Z K E t w) (k : LT Z K E u v) : LT Z K E (tAnd t u) (tAndW w v) := fun c F H σ ρ Xd Qd Qv e l z q => by
  refine h c F H σ ρ Xd _ _ e l z fun b F1 H1 h1 e1 s1 n1 => ?_
  cases b with
  | true => exact k c F1 H1 σ ρ Xd _ _ e1 (l.mono s1 n1.nx) h1 fun b F2 H2 h2 e2 s2 n2 => q b F2 H2 h2 e2 (s1.trans s2) (n1.trans n2)
  | false => exact q false F1 H1 h1 e1 s1 n1
theorem lt_or {t u : TT} {w v : TW} (h : LT Z K E t w) (k : LT Z K E u v) : LT Z K E (tOr t u) (tOrW w v) := fun c F H σ ρ Xd Qd Qv e l z q => by
  refine h c F H σ ρ Xd _ _ e l z fun b F1 H1 h1 e1 s1 n1 => ?_
  cases b with
  | false => exact k c F1 H1 σ ρ Xd _ _ e1 (l.mono s1 n1.nx) h1 fun b F2 H2 h2 e2 s2 n2 => q b F2 H2 h2 e2 (s1.trans s2) (n1.trans n2)
  | true => exact q true F1 H1 h1 e1 s1 n1
variable {rest : List Expr}
theorem dw_and1 {w : TW} (h : DT Z X E a w) : DW Z X E (.BoolOp .And [a] pos) w := by
  obtain ⟨t, p, l⟩ := h
  exact ⟨t, pw_and1 p, l⟩
theorem dw_or1 {w : TW} (h : DT Z X E a w) : DW Z X E (.BoolOp .Or [a] pos) w := by
  obtain ⟨t, p, l⟩ := h
  exact ⟨t, pw_or1 p, l⟩
theorem dw_and {w v : TW} (h : DT Z X E a w) (k : DW Z X E (.BoolOp .And (b :: rest) pos) v) : DW Z X E (.BoolOp .And (a :: b :: rest) pos) (tAndW w v) := by
  obtain ⟨t, p, l⟩ := h
  obtain ⟨u, p', l'⟩ := k
  exact ⟨_, pw_and p p', lt_and l l'⟩
theorem dw_or {w v : TW} (h : DT Z X E a w) (k : DW Z X E (.BoolOp .Or (b :: rest) pos) v) : DW Z X E (.BoolOp .Or (a :: b :: rest) pos) (tOrW w v) := by
  obtain ⟨t, p, l⟩ := h
  obtain ⟨u, p', l'⟩ := k
  exact ⟨_, pw_or p p', lt_or l l'⟩
/-- as values -/
theorem de_one {op : BoolOp} {w : EW} (h : DE Z X E a w) : DE Z X E (.BoolOp op [a] pos) w := by
  obtain ⟨t, p, l⟩ := h
  exact ⟨t, pe_one p, l⟩
theorem le_and {ta tb : TE} (h : LE Z K E ta wa) (k : LE Z K E tb wb) : LE Z K E (tAndV ta tb) (wAnd wa wb) := fun c F H σ ρ Xd Qd Qv e l z q => by
  refine h c F H σ ρ Xd _ _ e l z fun d v F1 H1 h1 e1 s1 n1 r1 => ?_
  cases d with
  | bl y =>
    have r1 : v = .bl y := r1
    refine ⟨y, r1, ?_⟩
    cases y with
    | true => exact k c F1 H1 σ ρ Xd _ _ e1 (l.mono s1 n1.nx) h1 fun b v F2 H2 h2 e2 s2 n2 r2 => q b v F2 H2 h2 e2 (s1.trans s2) (n1.trans n2) r2
    | false => exact q (.bl false) _ F1 H1 h1 e1 s1 n1 rfl
  | non => exact h1.elim
  | int _ => exact h1.elim
  | str _ => exact h1.elim
  | tup _ => exact h1.elim
  | lst _ => exact h1.elim
  | ins _ _ _ => exact h1.elim
theorem le_or {ta tb : TE} (h : LE Z K E ta wa) (k : LE Z K E tb wb) : LE Z K E (tOrV ta tb) (wOr wa wb) := fun c F H σ ρ Xd Qd Qv e l z q => by
  refine h c F H σ ρ Xd _ _ e l z fun d v F1 H1 h1 e1 s1 n1 r1 => ?_
  cases d with
  | bl y =>
    have r1 : v = .bl y := r1
    refine ⟨y, r1, ?_⟩
    cases y with
    | false => exact k c F1 H1 σ ρ Xd _ _ e1 (l.mono s1 n1.nx) h1 fun b v F2 H2 h2 e2 s2 n2 r2 => q b v F2 H2 h2 e2 (s1.trans s2) (n1.trans n2) r2
    | true => exact q (.bl true) _ F1 H1 h1 e1 s1 n1 rfl
  | non => exact h1.elim
  | int _ => exact h1.elim
  | str _ => exact h1.elim
  | tup _ => exact h1.elim
  | lst _ => exact h1.elim
  | ins _ _ _ => exact h1.elim
theorem de_and (h : DE Z X E a wa) (k : DE Z X E (.BoolOp .And (b :: rest) pos) wb) : DE Z X E (.BoolOp .And (a :: b :: rest) pos) (wAnd wa wb) := by
  obtain ⟨t, p, l⟩ := h
  obtain ⟨u, p', l'⟩ := k
  exact ⟨_, pe_and p p', le_and l l'⟩
theorem de_or (h : DE Z X E a wa) (k : DE Z X E (.BoolOp .Or (b :: rest) pos) wb) : DE Z X E (.BoolOp .Or (a :: b :: rest) pos) (wOr wa wb) := by
  obtain ⟨t, p, l⟩ := h
  obtain ⟨u, p', l'⟩ := k
  exact ⟨_, pe_or p p', le_or l l'⟩
theorem de_not (h : DE Z X E a wa) : DE Z X E (.UnaryOp .Not a pos) (wNot wa) := by
  obtain ⟨t, p, l⟩ := h
  refine ⟨_, pe_not p, fun c F H σ ρ Xd Qd Qv e k z q => ?_⟩
  refine l c F H σ ρ Xd _ _ e k z fun d v F1 H1 h1 e1 s1 n1 r1 => ?_
  cases d with
  | bl y =>
    have r1 : v = .bl y := r1
    exact ⟨y, r1, q _ _ F1 H1 h1 e1 s1 n1 rfl⟩
  | non => exact h1.elim
  | int _ => exact h1.elim
  | str _ => exact h1.elim
  | tup _ => exact h1.elim
  | lst _ => exact h1.elim
  | ins _ _ _ => exact h1.elim
theorem de_if {c : Expr} {w : TW} (hc : DT Z X E c w) (ha : DE Z X E a wa) (hb : DE Z X E b wb) : DE Z X E (.IfExp c a b pos) (wIf w wa wb) := by
  obtain ⟨t, p, l⟩ := hc
  obtain ⟨ta, p1, l1⟩ := ha
  obtain ⟨tb, p2, l2⟩ := hb
  refine ⟨_, pe_ifExp p p1 p2, fun c F H σ ρ Xd Qd Qv e k z q => ?_⟩
  refine l c F H σ ρ Xd _ _ e k z fun b F1 H1 h1 e1 s1 n1 => ?_
  cases b with
  | true => exact l1 c F1 H1 σ ρ Xd _ _ e1 (k.mono s1 n1.nx) h1 fun b v F2 H2 h2 e2 s2 n2 r2 => q b v F2 H2 h2 e2 (s1.trans s2) (n1.trans n2) r2
  | false => exact l2 c F1 H1 σ ρ Xd _ _ e1 (k.mono s1 n1.nx) h1 fun b v F2 H2 h2 e2 s2 n2 r2 => q b v F2 H2 h2 e2 (s1.trans s2) (n1.trans n2) r2
theorem le_is {t : TE} {w : EW} : LE Z K E t w → LE Z K E t w := id
end
end DL
set_option linter.all false
set_option autoImplicit false
set_option maxHeartbeats 2000000
/-! Operators, displays, subscripts, calls. -/
namespace DL
open PySem PySem.Spec PyProof.Rows L2

theorem sz {n : Nat} (h : n ≤ 100000) : n ≤ sizeLine := Nat.le_trans h (by decide)
theorem szlt {n : Nat} (h : n < 100000) : n < sizeLine := Nat.lt_of_lt_of_le h (by decide)
/-! ### what a reading of a value gives back -/
section
variable {K : PySem.W.Frag} {F H : Hp} {v : V}
theorem rep_tup {xs : List D} {a : Addr} {vs : List V} (h : SqT K F a vs) (r : RepL K F xs vs) : Rep K F (.tup xs) (.ref a) := ⟨a, vs, rfl, h, r⟩
theorem rep_lst {xs : List D} {a : Addr} {vs : List V} (h : SqL K F a vs) (r : RepL K F xs vs) : Rep K F (.lst xs) (.ref a) := ⟨a, vs, rfl, h, r⟩
/-- a new tuple | list of what is represented -/
theorem lay_tup {xs : List D} {vs : List V} {p : Addr} (h : Same F H) (r : RepL K F xs vs) (n : H p = none) : Ext F H (upd F p (.tup vs)) (upd H p (.tup vs)) ∧ Rep K (upd F p (.tup vs)) (.tup xs) (.ref p) := by
  have x := Ext.lay (o := .tup vs) h n
  exact ⟨x, p, vs, rfl, SqT.of upd_same, RepL.mono x.ff _ _ r⟩
theorem lay_lst {xs : List D} {vs : List V} {p : Addr} (h : Same F H) (r : RepL K F xs vs) (n : H p = none) : Ext F H (upd F p (.lst vs)) (upd H p (.lst vs)) ∧ Rep K (upd F p (.lst vs)) (.lst xs) (.ref p) := by
  have x := Ext.lay (o := .lst vs) h n
  exact ⟨x, p, vs, rfl, SqL.of upd_same, RepL.mono x.ff _ _ r⟩
end

/-! ### operators -/
section
variable {X : Cx} {K : PySem.W.Frag}
theorem lop_I {C : Int → Int → Prop} {g : Int → Int → Int} {o : Op2} (h : ∀ x y Q, o x y Q → ∃ i j, x = .int i ∧ y = .int j ∧ C i j ∧ Q (.int (g i j))) : LOp K (rI C fun i j => .int (g i j)) o := fun F H dx dy vx vy Qd Qv s rx ry z q => by
  obtain ⟨i, j, rfl, rfl, hc, hq⟩ := h _ _ _ z
  exact ⟨i, j, rx, ry, hc, q _ _ F H hq (Ext.refl s) rfl⟩
theorem lop_I0 {g : Int → Int → Int} {o : Op2} (h : ∀ x y Q, o x y Q → ∃ i j, x = .int i ∧ y = .int j ∧ Q (.int (g i j))) : LOp K (rI0 fun i j => .int (g i j)) o := fun F H dx dy vx vy Qd Qv s rx ry z q => by
  obtain ⟨i, j, rfl, rfl, hq⟩ := h _ _ _ z
  exact ⟨i, j, rx, ry, q _ _ F H hq (Ext.refl s) rfl⟩
theorem lop_B0 {g : Int → Int → Bool} {o : Op2} (h : ∀ x y Q, o x y Q → ∃ i j, x = .int i ∧ y = .int j ∧ Q (.bl (g i j))) : LOp K (rI0 fun i j => .bl (g i j)) o := fun F H dx dy vx vy Qd Qv s rx ry z q => by
  obtain ⟨i, j, rfl, rfl, hq⟩ := h _ _ _ z
  exact ⟨i, j, rx, ry, q _ _ F H hq (Ext.refl s) rfl⟩
theorem lop_sub : LOp K (rI0 fun i j => .int (i - j)) bSub := lop_I0 fun x y Q h => by
  unfold bSub at h
  split at h
  · exact ⟨_, _, rfl, rfl, h⟩
  · exact h.elim
theorem intBits_log (x : Int) : Builtin.Int.intBits x ≤ x.natAbs.log2 + 1 := by
  unfold Builtin.Int.intBits
  split <;> omega
theorem intBits_small {x : Int} (h : x.natAbs < 2 ^ 63) : Builtin.Int.intBits x ≤ 64 := by
  have a := intBits_log x
  have b : x.natAbs.log2 < 63 := PySem.Flt.log2_lt_of (by decide) h
  omega
theorem IMul.ok {i j : Int} (h : IMul i j) : IntMulOk i j := by
  rcases h with h | h | h
  · exact .of_left (intBits_small h)
  · exact .of_right (intBits_small h)
  · exact CMulW.ok h
theorem op_mulD : OpR X (binaryOp .Mult) (rI IMul fun i j => .int (i * j)) := opI fun _ _ _ _ _ _ _ hc q => mul_int q hc.ok
theorem lop_mul : LOp K (rI IMul fun i j => .int (i * j)) bMul := lop_I fun x y Q h => by
  unfold bMul at h
  split at h
  · exact ⟨_, _, rfl, rfl, h.1, h.2⟩
  · exact h.elim
theorem lop_fdiv : LOp K (rI CDivW fun i j => .int (i / j)) bFdiv := lop_I fun x y Q h => by
  unfold bFdiv at h
  split at h
  · exact ⟨_, _, rfl, rfl, h.1, h.2⟩
  · exact h.elim
theorem op_fdivNW : OpR X (binaryOp .FloorDiv) (rI (fun _ j => j ≠ 0 ∧ j.natAbs.log2 < 9000) fun i j => .int (i.fdiv j)) := opI fun i j _ _ _ _ _ hc q =>
  floordiv_int hc.1 q (.inl (PyProof.noPylong_of_log2 hc.2))
theorem lop_fdivN : LOp K (rI (fun _ j => j ≠ 0 ∧ j.natAbs.log2 < 9000) fun i j => .int (i.fdiv j)) bFdivN := lop_I fun x y Q h => by
  unfold bFdivN at h
  split at h
  · exact ⟨_, _, rfl, rfl, h.1, h.2⟩
  · exact h.elim
theorem lop_mod : LOp K (rI (fun _ j => 0 < j) fun i j => .int (i % j)) bMod := lop_I (C := fun _ j => 0 < j) fun x y Q h => by
  unfold bMod at h
  split at h
  · exact ⟨_, _, rfl, rfl, h.1, h.2⟩
  · exact h.elim
theorem lop_pow : LOp K (rI CPow fun i j => .int (i ^ j.toNat)) bPow := lop_I fun x y Q h => by
  unfold bPow at h
  split at h
  · exact ⟨_, _, rfl, rfl, h.1, h.2⟩
  · exact h.elim
theorem lop_lt : LOp K (rI0 fun i j => .bl (decide (i < j))) bLt := lop_B0 fun x y Q h => by
  unfold bLt at h
  split at h
  · exact ⟨_, _, rfl, rfl, h⟩
  · exact h.elim
theorem lop_le : LOp K (rI0 fun i j => .bl (decide (i ≤ j))) bLe := lop_B0 fun x y Q h => by
  unfold bLe at h
  split at h
  · exact ⟨_, _, rfl, rfl, h⟩
  · exact h.elim
theorem lop_gt : LOp K (rI0 fun i j => .bl (decide (j < i))) bGt := lop_B0 fun x y Q h => by
  unfold bGt at h
  split at h
  · exact ⟨_, _, rfl, rfl, h⟩
  · exact h.elim
theorem lop_ge : LOp K (rI0 fun i j => .bl (decide (j ≤ i))) bGe := lop_B0 fun x y Q h => by
  unfold bGe at h
  split at h
  · exact ⟨_, _, rfl, rfl, h⟩
  · exact h.elim
theorem lun_neg : LUn K (rU fun i => .int (-i)) bNeg := fun F H dx vx Qd Qv s rx z q => by
  unfold bNeg at z
  split at z
  · exact ⟨_, rx, q _ _ F H z (Ext.refl s) rfl⟩
  · exact z.elim
/-- + of ints, texts, tuples, lists -/
def rAddS : R2 := fun x y H Q => ∃ i j, x = .str i ∧ y = .str j ∧ i.length + j.length ≤ sizeLine ∧ Q (.str (i ++ j)) H
theorem op_addS : OpR X (binaryOp .Add) rAddS := op_add_str
def rCatR (K : PySem.W.Frag) : R2 := fun x y H Q => ∃ l b xs zs, x = .ref l ∧ y = .ref b ∧ SqL K H l xs ∧ SqL K H b zs ∧ xs.length + zs.length ≤ sizeLine ∧ ∀ p, H p = none → Q (.ref p) (upd H p (.lst (xs ++ zs)))
section
variable {l b : Addr} {us ws : Array Value} {n m : Nat} {s1 s2 : Array (Option Value)}
/-- two lists as they stand -/
def Two (l b : Addr) (us ws : Array Value) (n m : Nat) (s1 s2 : Array (Option Value)) (h : Heap) : Prop := h.get? l = some ⟨.type "list", none, .seq us n, s1⟩ ∧ h.get? b = some ⟨.type "list", none, .seq ws m, s2⟩
theorem meets_cat (hz : us.size + ws.size ≤ sizeLine) : Meets (Builtin.«list.__add__» ⟨[.ref l, .ref b], []⟩) (fun _ R s => Two l b us ws n m s1 s2 s.heap ∧ R (.ok (.ret (Value.ref s.heap.objs.size))) { s with heap := s.heap.push { cls := Value.type "list", data := Data.seq (us ++ ws) } }) :=
  .of_wp fun prog w A R s h => by
    obtain ⟨hp, g, d, tk, os⟩ := s
    obtain ⟨⟨hl, hb⟩, h⟩ := h
    have f3 := sub_list_list
    have f5 := sub_list_tuple
    wp_walk using wpAny_loadPart' hl, wpAny_loadPart' hb
    exact ⟨_, rfl, h⟩
end
theorem plain_obj {h : Heap} {a : Addr} {its : Array Value} (p : PlainL h a its) : ∃ n sl, h.get? a = some ⟨.type "list", none, .seq its n, sl⟩ := by
  obtain ⟨o, n, e, e1, e2, e3⟩ := p
  obtain ⟨oc, od, oda, osl⟩ := o
  cases e1
  cases e2
  cases e3
  exact ⟨n, osl, e⟩
theorem op_catR : OpR X (binaryOp .Add) (rCatR X.K) := by
  intro pins s σ H x y v u Q I rx ry h
  obtain ⟨l, b, xs, zs, rfl, rfl, hH, hB, hz, q⟩ := h
  cases rx
  cases ry
  obtain ⟨its, r, pl, z⟩ := I.list hH
  obtain ⟨its2, r2, pl2, z2⟩ := I.list hB
  obtain ⟨n, sl, e⟩ := plain_obj pl
  obtain ⟨n2, sl2, e2⟩ := plain_obj pl2
  have hl := r.length
  have hl2 := r2.length
  have hzz : its.toArray.size + its2.toArray.size ≤ sizeLine := by rw [List.size_toArray, List.size_toArray]; omega
  refine PySem.concat_meets ⟨_, e, rfl⟩ ⟨_, e2, rfl⟩ PySem.noFill_list_add PySem.seq_list_add F.slot_list_add F.entry_list_add (F.args_list_add_2 _ _) (meets_cat hzz) ⟨⟨e, e2⟩, ?_⟩
  have ea : its.toArray ++ its2.toArray = (its ++ its2).toArray := by simp
  rw [ea]
  exact ⟨.ref _, _, I.lnew (t' := s.toks) (r.append r2) (by rw [List.length_append]; omega), rfl, q _ I.fresh⟩
def rAddD (K : PySem.W.Frag) : R2 := fun x y H Q => (rI0 fun i j => .int (i + j)) x y H Q ∨ rAddS x y H Q ∨ rCatA K x y H Q ∨ rCatR K x y H Q
theorem op_addD : OpR X (binaryOp .Add) (rAddD X.K) := op_add.or (op_addS.or (op_catA.or op_catR))
theorem lop_add : LOp K (rAddD K) bAdd := fun F H dx dy vx vy Qd Qv s rx ry z q => by
  unfold bAdd at z
  split at z
  · exact .inl ⟨_, _, rx, ry, q _ _ F H z (Ext.refl s) rfl⟩
  · exact .inr (.inl ⟨_, _, rx, ry, sz z.1, q _ _ F H z.2 (Ext.refl s) rfl⟩)
  · rename_i xs ys
    obtain ⟨a, vs, rfl, ha, ra⟩ := rx
    obtain ⟨b, ws, rfl, hb, rb⟩ := ry
    have hl : vs.length + ws.length ≤ sizeLine := by rw [ra.len, rb.len]; exact sz z.1
    refine .inr (.inr (.inl ⟨a, b, vs, ws, rfl, rfl, same_t s ha, same_t s hb, hl, fun e => ?_, fun _ e => ?_, fun _ _ p hp => ?_⟩))
    · subst e
      have e2 : xs = [] := List.eq_nil_of_length_eq_zero (by rw [← ra.len]; rfl)
      subst e2
      exact q _ _ F H z.2 (Ext.refl s) (rep_tup hb rb)
    · subst e
      have e2 : ys = [] := List.eq_nil_of_length_eq_zero (by rw [← rb.len]; rfl)
      subst e2
      refine q _ _ F H z.2 (Ext.refl s) ?_
      rw [List.append_nil]
      exact rep_tup ha ra
    · obtain ⟨x, r⟩ := lay_tup s (ra.app rb) hp
      exact q _ _ _ _ z.2 x r
  · rename_i xs ys
    obtain ⟨a, vs, rfl, ha, ra⟩ := rx
    obtain ⟨b, ws, rfl, hb, rb⟩ := ry
    refine .inr (.inr (.inr ⟨a, b, vs, ws, rfl, rfl, same_l s ha, same_l s hb, by rw [ra.len, rb.len]; exact sz z.1, fun p hp => ?_⟩))
    obtain ⟨x, r⟩ := lay_lst s (ra.app rb) hp
    exact q _ _ _ _ z.2 x r
  · exact z.elim

/-! ### == -/
mutual
theorem rep_dp {F H : Hp} (e : Same F H) : ∀ (n : Nat) (d : D) (v : V), plain n d = true → Rep K F d v → Dp K H v (toPy d)
  | 0, _, _, h, _ => by
    simp [plain] at h
  | n + 1, .non, v, _, r => by
    have r : v = .non := r
    subst r
    exact .non
  | n + 1, .bl b, v, _, r => by
    have r : v = .bl b := r
    subst r
    exact .bl b
  | n + 1, .int b, v, _, r => by
    have r : v = .int b := r
    subst r
    exact .int b
  | n + 1, .str b, v, _, r => by
    have r : v = .str b := r
    subst r
    exact .str b
  | n + 1, .tup xs, v, h, r => by
    obtain ⟨a, vs, e1, e2, e3⟩ := r
    subst e1
    have h : plainL n xs = true := by
      simp only [plain] at h
      exact h
    exact .tup (same_t e e2) (repL_dp e n xs vs h e3)
  | n + 1, .lst xs, v, h, r => by
    obtain ⟨a, vs, e1, e2, e3⟩ := r
    subst e1
    have h : plainL n xs = true := by
      simp only [plain] at h
      exact h
    exact .lst (same_l e e2) (repL_dp e n xs vs h e3)
  | n + 1, .ins C ns xs, _, h, _ => by
    simp [plain] at h
theorem repL_dp {F H : Hp} (e : Same F H) : ∀ (n : Nat) (ds : List D) (vs : List V), plainL n ds = true → RepL K F ds vs → DpAll K H vs (toPyL ds)
  | _, [], vs, _, r => by
    have r : vs = [] := r
    subst r
    exact .nil
  | n, x :: xs, vs, h, r => by
    obtain ⟨v, t, e1, e2, e3⟩ := r
    subst e1
    simp only [plainL, Bool.and_eq_true] at h
    exact .cons (rep_dp e n x v h.1 e2) (repL_dp e n xs t h.2 e3)
end
mutual
theorem plain_lay : ∀ (n : Nat) (d : D), plain n d = true → (toPy d).canLay0 = true ∧ (toPy d).depth ≤ n
  | 0, _, h => by
    simp [plain] at h
  | n + 1, .non, _ => by simp [toPy, PyData.canLay0, PyData.depth]
  | n + 1, .bl b, _ => by simp [toPy, PyData.canLay0, PyData.depth]
  | n + 1, .int b, _ => by simp [toPy, PyData.canLay0, PyData.depth]
  | n + 1, .str b, h => by
    simp only [plain] at h
    simp [toPy, PyData.canLay0, PyData.depth, h]
  | n + 1, .tup xs, h => by
    simp only [plain] at h
    have q := plainL_lay n xs h
    simp only [toPy, PyData.canLay0, PyData.depth]
    exact ⟨q.1, by omega⟩
  | n + 1, .lst xs, h => by
    simp only [plain] at h
    have q := plainL_lay n xs h
    simp only [toPy, PyData.canLay0, PyData.depth]
    exact ⟨q.1, by omega⟩
  | n + 1, .ins C ns xs, h => by
    simp [plain] at h
theorem plainL_lay : ∀ (n : Nat) (ds : List D), plainL n ds = true → PyData.canLayAll0 (toPyL ds) = true ∧ PyData.depthAll (toPyL ds) ≤ n
  | n, [], _ => by simp [toPyL, PyData.canLayAll0, PyData.depthAll]
  | n, x :: xs, h => by
    simp only [plainL, Bool.and_eq_true] at h
    have q1 := plain_lay n x h.1
    have q2 := plainL_lay n xs h.2
    simp only [toPyL, PyData.canLayAll0, PyData.depthAll, Bool.and_eq_true]
    exact ⟨⟨q1.1, q2.1⟩, by omega⟩
end
theorem plain_shaped {d : D} (h : plain 40 d = true) : SeqAt.shaped (toPy d) = true := by
  obtain ⟨a, b⟩ := plain_lay 40 d h
  unfold SeqAt.shaped
  rw [a, decide_eq_true (Nat.le_trans b (by decide))]
  rfl
mutual
theorem eqv_peq : ∀ (n : Nat) (d e : D), plain n d = true → plain n e = true → PyData.eqv (toPy d) (toPy e) = peq d e
  | 0, _, _, h, _ => by simp [plain] at h
  | n + 1, .tup xs, .tup ys, h, k => by
    simp only [plain] at h k
    simp only [toPy, PyData.eqv, peq]
    exact eqv_peqL n xs ys h k
  | n + 1, .lst xs, .lst ys, h, k => by
    simp only [plain] at h k
    simp only [toPy, PyData.eqv, peq]
    exact eqv_peqL n xs ys h k
  | n + 1, .ins _ _ _, _, h, _ => by simp [plain] at h
  | n + 1, .non, e, h, k => by cases e <;> simp_all [toPy, PyData.eqv, peq, plain]
  | n + 1, .bl b, e, h, k => by cases e <;> simp_all [toPy, PyData.eqv, peq, plain]
  | n + 1, .int b, e, h, k => by cases e <;> simp_all [toPy, PyData.eqv, peq, plain]
  | n + 1, .str b, e, h, k => by cases e <;> simp_all [toPy, PyData.eqv, peq, plain]
  | n + 1, .tup xs, .non, h, k => by simp [toPy, PyData.eqv, peq]
  | n + 1, .tup xs, .bl _, h, k => by simp [toPy, PyData.eqv, peq]
  | n + 1, .tup xs, .int _, h, k => by simp [toPy, PyData.eqv, peq]
  | n + 1, .tup xs, .str _, h, k => by simp [toPy, PyData.eqv, peq]
  | n + 1, .tup xs, .lst _, h, k => by simp [toPy, PyData.eqv, peq]
  | n + 1, .tup xs, .ins _ _ _, h, k => by simp [plain] at k
  | n + 1, .lst xs, .non, h, k => by simp [toPy, PyData.eqv, peq]
  | n + 1, .lst xs, .bl _, h, k => by simp [toPy, PyData.eqv, peq]
  | n + 1, .lst xs, .int _, h, k => by simp [toPy, PyData.eqv, peq]
  | n + 1, .lst xs, .str _, h, k => by simp [toPy, PyData.eqv, peq]
  | n + 1, .lst xs, .tup _, h, k => by simp [toPy, PyData.eqv, peq]
  | n + 1, .lst xs, .ins _ _ _, h, k => by simp [plain] at k
theorem eqv_peqL : ∀ (n : Nat) (d e : List D), plainL n d = true → plainL n e = true → PyData.eqvAll (toPyL d) (toPyL e) = peqL d e
  | n, [], [], _, _ => by simp [toPyL, PyData.eqvAll, peqL]
  | n, [], y :: ys, _, _ => by simp [toPyL, PyData.eqvAll, peqL]
  | n, x :: xs, [], _, _ => by simp [toPyL, PyData.eqvAll, peqL]
  | n, x :: xs, y :: ys, h, k => by
    simp only [plainL, Bool.and_eq_true] at h k
    simp only [toPyL, PyData.eqvAll, peqL]
    rw [eqv_peq n x y h.1 k.1, eqv_peqL n xs ys h.2 k.2]
end
theorem lop_eq : LOp K (rEqD K) bEq := fun F H dx dy vx vy Qd Qv s rx ry z q => by
  obtain ⟨h1, h2, h3⟩ := z
  refine ⟨toPy dx, toPy dy, rep_dp s _ _ _ h1 rx, rep_dp s _ _ _ h2 ry, plain_shaped h1, plain_shaped h2, ?_⟩
  rw [eqv_peq _ _ _ h1 h2]
  exact q _ _ F H h3 (Ext.refl s) rfl
theorem lop_ne : LOp K (rNeD K) bNe := fun F H dx dy vx vy Qd Qv s rx ry z q => by
  obtain ⟨h1, h2, h3⟩ := z
  refine ⟨toPy dx, toPy dy, rep_dp s _ _ _ h1 rx, rep_dp s _ _ _ h2 ry, plain_shaped h1, plain_shaped h2, ?_⟩
  rw [eqv_peq _ _ _ h1 h2]
  exact q _ _ F H h3 (Ext.refl s) rfl
end
end DL
set_option linter.all false
set_option autoImplicit false
set_option maxHeartbeats 2000000
/-! Subscripts, arguments, displays, built-ins, calls. -/
namespace DL
open PySem PySem.Spec PyProof.Rows L2

section
variable {Z : SrcK} {X : Cx} {E : L2.St → XK} {K : PySem.W.Frag} {a b e : Expr} {wa wb wc : EW} {pos : Pos}
/-! ### is None, is True -/
theorem lun_isN {ta : TE} (ha : LE Z K E ta wa) : LE Z K E (tOp (fun x y H Q => y = .non ∧ Q (.bl (decide (x = .non))) H) ta (tC .non)) (wUn bIsN wa) := fun c F H σ ρ Xd Qd Qv e l h q => by
  refine ha c F H σ ρ Xd _ _ e l h fun d v F1 H1 h1 e1 s1 n1 r1 => ⟨rfl, ?_⟩
  cases d with
  | non =>
    have r1 : v = .non := r1
    subst r1
    exact q _ _ F1 H1 h1 e1 s1 n1 rfl
  | bl _ => (have r1 : v = _ := r1); subst r1; exact q _ _ F1 H1 h1 e1 s1 n1 rfl
  | int _ => (have r1 : v = _ := r1); subst r1; exact q _ _ F1 H1 h1 e1 s1 n1 rfl
  | str _ => (have r1 : v = _ := r1); subst r1; exact q _ _ F1 H1 h1 e1 s1 n1 rfl
  | tup _ => obtain ⟨_, _, r1, _⟩ := r1; subst r1; exact q _ _ F1 H1 h1 e1 s1 n1 rfl
  | lst _ => obtain ⟨_, _, r1, _⟩ := r1; subst r1; exact q _ _ F1 H1 h1 e1 s1 n1 rfl
  | ins _ _ _ => obtain ⟨_, _, _, r1, _⟩ := r1; subst r1; exact q _ _ F1 H1 h1 e1 s1 n1 rfl
theorem lun_notN {ta : TE} (ha : LE Z K E ta wa) : LE Z K E (tOp (fun x y H Q => y = .non ∧ Q (.bl (!decide (x = .non))) H) ta (tC .non)) (wUn bNotN wa) := fun c F H σ ρ Xd Qd Qv e l h q => by
  refine ha c F H σ ρ Xd _ _ e l h fun d v F1 H1 h1 e1 s1 n1 r1 => ⟨rfl, ?_⟩
  cases d with
  | non =>
    have r1 : v = .non := r1
    subst r1
    exact q _ _ F1 H1 h1 e1 s1 n1 rfl
  | bl _ => (have r1 : v = _ := r1); subst r1; exact q _ _ F1 H1 h1 e1 s1 n1 rfl
  | int _ => (have r1 : v = _ := r1); subst r1; exact q _ _ F1 H1 h1 e1 s1 n1 rfl
  | str _ => (have r1 : v = _ := r1); subst r1; exact q _ _ F1 H1 h1 e1 s1 n1 rfl
  | tup _ => obtain ⟨_, _, r1, _⟩ := r1; subst r1; exact q _ _ F1 H1 h1 e1 s1 n1 rfl
  | lst _ => obtain ⟨_, _, r1, _⟩ := r1; subst r1; exact q _ _ F1 H1 h1 e1 s1 n1 rfl
  | ins _ _ _ => obtain ⟨_, _, _, r1, _⟩ := r1; subst r1; exact q _ _ F1 H1 h1 e1 s1 n1 rfl
theorem de_isN {j : Nat} {p : Pos} (ha : DE Z X E a wa) : DE Z X E (.Compare a [.Is] [.Constant .none j p] pos) (wUn bIsN wa) := by
  obtain ⟨t, p, l⟩ := ha
  exact ⟨_, pe_cmpR op_isN p pe_non (nomark _), lun_isN l⟩
theorem de_notN {j : Nat} {p : Pos} (ha : DE Z X E a wa) : DE Z X E (.Compare a [.IsNot] [.Constant .none j p] pos) (wUn bNotN wa) := by
  obtain ⟨t, p, l⟩ := ha
  exact ⟨_, pe_cmpR op_notN p pe_non (nomark _), lun_notN l⟩
theorem dt_isN {j : Nat} {p : Pos} (ha : DE Z X E a wa) : DT Z X E (.Compare a [.Is] [.Constant .none j p] pos) (tB (wUn bIsN wa)) := by
  obtain ⟨t, p, l⟩ := ha
  exact ⟨_, pt_cmpR op_isN p pe_non (nomark _), lt_test (lun_isN l)⟩
theorem dt_notN {j : Nat} {p : Pos} (ha : DE Z X E a wa) : DT Z X E (.Compare a [.IsNot] [.Constant .none j p] pos) (tB (wUn bNotN wa)) := by
  obtain ⟨t, p, l⟩ := ha
  exact ⟨_, pt_cmpR op_notN p pe_non (nomark _), lt_test (lun_notN l)⟩
theorem lop_is : LOp K (fun x y H Q => ∃ a b, x = .bl a ∧ y = .bl b ∧ Q (.bl (decide (a = b))) H) bIs := fun F H dx dy vx vy Qd Qv s rx ry z q => by
  unfold bIs at z
  split at z
  · exact ⟨_, _, rx, ry, q _ _ F H z (Ext.refl s) rfl⟩
  · exact z.elim
theorem lop_isNot : LOp K (fun x y H Q => ∃ a b, x = .bl a ∧ y = .bl b ∧ Q (.bl (!decide (a = b))) H) bIsNot := fun F H dx dy vx vy Qd Qv s rx ry z q => by
  unfold bIsNot at z
  split at z
  · exact ⟨_, _, rx, ry, q _ _ F H z (Ext.refl s) rfl⟩
  · exact z.elim

/-! ### chains -/
theorem le_chain {r r' : R2} {o o' : Op2} {ta tb tc : TE} (ho : LOp K r o) (ho' : LOp K r' o') (ha : LE Z K E ta wa) (hb : LE Z K E tb wb) (hc : LE Z K E tc wc) : LE Z K E (tChain r r' ta tb tc) (wChain o o' wa wb wc) := fun c F H σ ρ Xd Qd Qv e l h q => by
  refine ha c F H σ ρ Xd _ _ e l h fun dx vx F1 H1 h1 e1 s1 n1 r1 => ?_
  refine hb c F1 H1 σ ρ Xd _ _ e1 (l.mono s1 n1.nx) h1 fun dy vy F2 H2 h2 e2 s2 n2 r2 => ?_
  refine ho F2 H2 dx dy vx vy _ _ e2.fh (Rep.mono s2 _ _ r1) r2 h2 fun d v F3 H3 h3 x3 r3 => ?_
  cases d with
  | bl k =>
    refine ⟨k, r3, ?_⟩
    have e3 := e2.ext x3
    have s3 := (s1.trans s2).trans x3.ff
    have n3 := (n1.trans n2).trans x3.kx
    cases k with
    | true =>
      have h3 : wc Xd ρ fun u => o' dy u Qd := h3
      rw [if_pos rfl]
      refine hc c F3 H3 σ ρ Xd _ _ e3 (l.mono s3 n3.nx) h3 fun dz vz F4 H4 h4 e4 s4 n4 r4 => ?_
      refine ho' F4 H4 dy dz vy vz _ _ e4.fh (Rep.mono (x3.ff.trans s4) _ _ r2) r4 h4 fun d v F5 H5 h5 x5 r5 => ?_
      exact q d v F5 H5 h5 (e4.ext x5) ((s3.trans s4).trans x5.ff) ((n3.trans n4).trans x5.kx) r5
    | false =>
      exact q _ _ F3 H3 h3 e3 s3 n3 rfl
  | non => exact h3.elim
  | int _ => exact h3.elim
  | str _ => exact h3.elim
  | tup _ => exact h3.elim
  | lst _ => exact h3.elim
  | ins _ _ _ => exact h3.elim
theorem lt_chain {r r' : R2} {o o' : Op2} {ta tb tc : TE} (ho : LOp K r o) (ho' : LOp K r' o') (ha : LE Z K E ta wa) (hb : LE Z K E tb wb) (hc : LE Z K E tc wc) : LT Z K E (tTest (tChain r r' ta tb tc)) (tB (wChain o o' wa wb wc)) := lt_test (le_chain ho ho' ha hb hc)
theorem dt_chain {c : Expr} {op op' : CmpOp} {r r' : R2} {o o' : Op2} (ho : OpR X (compareOp op) r) (ho' : OpR X (compareOp op') r') (hl : LOp X.K r o) (hl' : LOp X.K r' o') (ha : DE Z X E a wa) (hb : DE Z X E b wb) (hc : DE Z X E c wc)
    (hm : lastMarks [op, op'] [b, c] = false := by with_unfolding_all rfl) : DT Z X E (.Compare a [op, op'] [b, c] pos) (tB (wChain o o' wa wb wc)) := by
  obtain ⟨ta, pa, la⟩ := ha
  obtain ⟨tb, pb, lb⟩ := hb
  obtain ⟨tc, pc, lc⟩ := hc
  exact ⟨_, pt_chain ho ho' pa pb pc hm, lt_chain hl hl' la lb lc⟩
theorem de_chain {c : Expr} {op op' : CmpOp} {r r' : R2} {o o' : Op2} (ho : OpR X (compareOp op) r) (ho' : OpR X (compareOp op') r') (hl : LOp X.K r o) (hl' : LOp X.K r' o') (ha : DE Z X E a wa) (hb : DE Z X E b wb) (hc : DE Z X E c wc)
    (hm : lastMarks [op, op'] [b, c] = false := by with_unfolding_all rfl) : DE Z X E (.Compare a [op, op'] [b, c] pos) (wChain o o' wa wb wc) := by
  obtain ⟨ta, pa, la⟩ := ha
  obtain ⟨tb, pb, lb⟩ := hb
  obtain ⟨tc, pc, lc⟩ := hc
  exact ⟨_, pe_chain ho ho' pa pb pc hm, le_chain hl hl' la lb lc⟩

/-! ### subscripts -/
theorem atI_rep {F : Hp} {xs : List D} {vs : List V} {i : Int} {d : D} (r : RepL K F xs vs) (h : atI xs i = some d) : ∃ v, atI vs i = some v ∧ Rep K F d v := by
  unfold atI at h ⊢
  rw [r.len]
  cases q : ixN xs.length i with
  | none =>
    rw [q] at h
    cases h
  | some j =>
    rw [q] at h
    exact r.get h
theorem lop_ix : LOp K (rIx K) bIx := fun F H dx dy vx vy Qd Qv s rx ry z q => by
  unfold bIx at z
  split at z
  · rename_i xs i
    obtain ⟨p, vs, rfl, h1, h2⟩ := rx
    cases k : atI xs i with
    | none => rw [k] at z; exact z.elim
    | some d =>
      rw [k] at z
      obtain ⟨v, h3, h4⟩ := atI_rep h2 k
      exact .inr (.inl ⟨p, vs, i, v, rfl, ry, same_t s h1, h3, q d v F H z (Ext.refl s) h4⟩)
  · rename_i xs i
    obtain ⟨p, vs, rfl, h1, h2⟩ := rx
    cases k : atI xs i with
    | none => rw [k] at z; exact z.elim
    | some d =>
      rw [k] at z
      obtain ⟨v, h3, h4⟩ := atI_rep h2 k
      exact .inl ⟨p, vs, i, v, rfl, ry, same_l s h1, h3, q d v F H z (Ext.refl s) h4⟩
  · rename_i t i
    obtain ⟨z1, z⟩ := z
    cases k : atI t.cps.toList i with
    | none => rw [k] at z; exact z.elim
    | some c =>
      rw [k] at z
      exact .inr (.inr ⟨t, i, c, rx, ry, sz z1, k, q _ _ F H z (Ext.refl s) rfl⟩)
  · exact z.elim
theorem de_ix (ha : DE Z X E a wa) (hb : DE Z X E b wb) (hs : PlainIx b := by exact fun _ _ => rfl) : DE Z X E (.Subscript a b pos) (wBin bIx wa wb) := by
  obtain ⟨ta, pa, la⟩ := ha
  obtain ⟨tb, pb, lb⟩ := hb
  exact ⟨_, pe_ix ix_seq pa pb hs, le_bin lop_ix la lb⟩
/-! ### slices -/
def LO (Z : SrcK) (K : PySem.W.Frag) (E : L2.St → XK) (t : TO) (w : OW) : Prop :=
  ∀ (c : Cfg) (F H : Hp) (σ : L2.St) (ρ : Env) (Xd : XD) (Qd : Option Int → Prop) (Qv : Option Int → Hp → Prop), EnvOk Z K c F H σ ρ → ELk Z K c F H E Xd → w Xd ρ Qd →
    (∀ o F' H', Qd o → EnvOk Z K c F' H' σ ρ → Same F F' → Kx c.fp F H F' H' → Qv o H') → t σ H Qv
def DO (Z : SrcK) (X : Cx) (E : L2.St → XK) (e : Option Expr) (w : OW) : Prop := ∃ t, PO X e t ∧ LO Z X.K E t w
theorem do_none : DO Z X E none oNone := ⟨_, po_none, fun c F H σ ρ Xd Qd Qv e _ h q => q none F H h e (Same.refl _) (Kx.refl _ _ _)⟩
theorem do_some (h : DE Z X E e wa) : DO Z X E (some e) (oSome wa) := by
  obtain ⟨t, p, l⟩ := h
  refine ⟨_, po_some p, fun c F H σ ρ Xd Qd Qv e k h q => ?_⟩
  refine l c F H σ ρ Xd _ _ e k h fun d v F1 H1 h1 e1 s1 n1 r1 => ?_
  cases d with
  | int i => exact ⟨i, r1, q _ F1 H1 h1 e1 s1 n1⟩
  | non => exact h1.elim
  | bl _ => exact h1.elim
  | str _ => exact h1.elim
  | tup _ => exact h1.elim
  | lst _ => exact h1.elim
  | ins _ _ _ => exact h1.elim
theorem cut_rep {F : Hp} {xs : List D} {vs : List V} {lo hi : Option Int} (r : RepL K F xs vs) : RepL K F (cutD xs lo hi) (cutV vs lo hi) := by
  unfold cutD cutV
  rw [r.len]
  exact (r.drop _).take _
theorem cut_whole {xs : List D} {lo hi : Option Int} (h : HT.sIx xs.length 0 lo = 0 ∧ HT.sIx xs.length xs.length hi = xs.length) : cutD xs lo hi = xs := by
  unfold cutD
  rw [h.1, h.2, List.drop_zero, Nat.sub_zero, List.take_length]
def rSlD (K : PySem.W.Frag) : V → Option Int → Option Int → Hp → VK → Prop := fun x lo hi H Q => rSlA K x lo hi H Q ∨ rSlL K x lo hi H Q ∨ rSlS x lo hi H Q
theorem de_slice {lo hi : Option Expr} {wl wh : OW} {p2 : Pos} (ha : DE Z X E a wa) (hl : DO Z X E lo wl) (hh : DO Z X E hi wh) : DE Z X E (.Subscript a (.Slice lo hi none p2) pos) (wSl wa wl wh) := by
  obtain ⟨t, p, l⟩ := ha
  obtain ⟨t1, p1, l1⟩ := hl
  obtain ⟨t2, p3, l2⟩ := hh
  refine ⟨_, pe_slice (sl_tupA.or (sl_list.or sl_str)) p p1 p3, fun c F H σ ρ Xd Qd Qv e k h q => ?_⟩
  refine l c F H σ ρ Xd _ _ e k h fun d v F1 H1 h1 e1 s1 n1 r1 => ?_
  refine l1 c F1 H1 σ ρ Xd _ _ e1 (k.mono s1 n1.nx) h1 fun o1 F2 H2 h2 e2 s2 n2 => ?_
  refine l2 c F2 H2 σ ρ Xd _ _ e2 (k.mono (s1.trans s2) (n1.nx.trans n2.nx)) h2 fun o2 F3 H3 h3 e3 s3 n3 => ?_
  have r3 := Rep.mono (s2.trans s3) _ _ r1
  have sF := (s1.trans s2).trans s3
  have nF := (n1.trans n2).trans n3
  cases d with
  | tup xs =>
    obtain ⟨a, vs, rfl, h4, h5⟩ := r3
    refine .inl ⟨a, vs, rfl, same_t e3.fh h4, fun w => ?_, fun _ p hp => ?_⟩
    · rw [h5.len] at w
      have w2 := cut_whole w
      have h3 : Qd (.tup (cutD xs o1 o2)) := h3
      rw [w2] at h3
      exact q _ _ F3 H3 h3 e3 sF nF ⟨a, vs, rfl, h4, h5⟩
    · obtain ⟨x, r⟩ := lay_tup e3.fh (cut_rep (lo := o1) (hi := o2) h5) hp
      exact q _ _ _ _ h3 (e3.ext x) (sF.trans x.ff) (nF.trans x.kx) r
  | lst xs =>
    obtain ⟨a, vs, rfl, h4, h5⟩ := r3
    refine .inr (.inl ⟨a, vs, rfl, same_l e3.fh h4, fun p hp => ?_⟩)
    obtain ⟨x, r⟩ := lay_lst e3.fh (cut_rep (lo := o1) (hi := o2) h5) hp
    exact q _ _ _ _ h3 (e3.ext x) (sF.trans x.ff) (nF.trans x.kx) r
  | str s => exact .inr (.inr ⟨s, r3, sz h3.1, q _ _ F3 H3 h3.2 e3 sF nF rfl⟩)
  | non => exact h3.elim
  | bl _ => exact h3.elim
  | int _ => exact h3.elim
  | ins _ _ _ => exact h3.elim
theorem de_rev {k : Nat} {p1 p2 p3 : Pos} (ha : DE Z X E a wa) : DE Z X E (.Subscript a (.Slice none none (some (.UnaryOp .USub (.Constant (.int 1) k p1) p2)) p3) pos) (wUn bRev wa) := by
  obtain ⟨t, p, l⟩ := ha
  refine ⟨_, pe_revL p, fun c F H σ ρ Xd Qd Qv e k h q => ?_⟩
  refine l c F H σ ρ Xd _ _ e k h fun d v F1 H1 h1 e1 s1 n1 r1 => ?_
  cases d with
  | lst xs =>
    obtain ⟨a, vs, rfl, h4, h5⟩ := r1
    refine ⟨a, vs, rfl, same_l e1.fh h4, fun p hp => ?_⟩
    obtain ⟨x, r⟩ := lay_lst e1.fh h5.rev hp
    exact q _ _ _ _ h1 (e1.ext x) (s1.trans x.ff) (n1.trans x.kx) r
  | non => exact h1.elim
  | bl _ => exact h1.elim
  | int _ => exact h1.elim
  | str _ => exact h1.elim
  | tup _ => exact h1.elim
  | ins _ _ _ => exact h1.elim

/-! ### arguments, displays -/
theorem ArgsOk.mono {src : Option (Addr × List Addr)} {F F' : Hp} (e : Same F F') : ∀ {ss : List SV} {vs : List V}, ArgsOk K src F ss vs → ArgsOk K src F' ss vs
  | [], _, h => h
  | s :: r, vs, h => by
    obtain ⟨v, t, e1, e2, e3⟩ := h
    refine ⟨v, t, e1, ?_, ArgsOk.mono e e3⟩
    cases s with
    | d x => exact Rep.mono e _ _ e2
    | un => exact e2
    | own _ => exact e2
    | src => exact e2
    | obj _ _ _ => exact e2
theorem ArgsOk.datas {src : Option (Addr × List Addr)} {F : Hp} : ∀ {ss : List SV} {vs : List V} {xs : List D}, ArgsOk K src F ss vs → datas ss = some xs → RepL K F xs vs
  | [], _, xs, h, e => by
    have e : some [] = some xs := e
    cases e
    exact h
  | .d x :: r, vs, xs, h, e => by
    obtain ⟨v, t, e1, e2, e3⟩ := h
    cases q : DL.datas r with
    | none => rw [DL.datas, q] at e; cases e
    | some ys =>
      rw [DL.datas, q] at e
      cases e
      exact ⟨v, t, e1, e2, ArgsOk.datas e3 q⟩
  | .un :: r, _, _, h, e => by cases e
  | .own _ :: r, _, _, h, e => by cases e
  | .src :: r, _, _, h, e => by cases e
  | .obj _ _ _ :: r, _, _, h, e => by cases e
variable {es : List Expr} {ws : AW}
theorem da_nil : DA Z X E [] wNil := ⟨_, pa_nil, fun c F H σ ρ Xd Qd Qv e _ h q => q [] [] F H h e (Same.refl _) (Kx.refl _ _ _) rfl⟩
theorem da_cons (ha : DE Z X E e wa) (hr : DA Z X E es ws) (hs : starEach (e :: es) X.env = (false, eval e X.env) :: starEach es X.env := by rfl) : DA Z X E (e :: es) (wCons wa ws) := by
  obtain ⟨t, p, l⟩ := ha
  obtain ⟨t1, p1, l1⟩ := hr
  refine ⟨_, pa_cons p p1 hs, fun c F H σ ρ Xd Qd Qv e k h q => ?_⟩
  refine l c F H σ ρ Xd _ _ e k h fun d v F1 H1 h1 e1 s1 n1 r1 => ?_
  refine l1 c F1 H1 σ ρ Xd _ _ e1 (k.mono s1 n1.nx) h1 fun ss vs F2 H2 h2 e2 s2 n2 r2 => ?_
  exact q _ _ F2 H2 h2 e2 (s1.trans s2) (n1.trans n2) ⟨v, vs, rfl, Rep.mono s2 _ _ r1, r2⟩
/-- the source handed on -/
theorem da_src {x : Str} {p : Pos} (i : Nat) (hr : DA Z X E es ws) (hN : X.N[i]? = some x := by rfl) (hv : Vis X.env.scope x := by first | exact Or.inl rfl | exact Or.inr (Or.inl rfl) | exact Or.inr (Or.inr rfl)) (hd : (x == ("__debug__" : Str)) = false := by decide)
    (hcd : (x == ("__classdict__" : Str)) = false := by decide) (hs : starEach (.Name x p :: es) X.env = (false, eval (.Name x p) X.env) :: starEach es X.env := by rfl) : DA Z X E (.Name x p :: es) (wConsS i ws) := by
  obtain ⟨t1, p1, l1⟩ := hr
  refine ⟨_, pa_cons (pe_var hN hv hd hcd) p1 hs, fun c F H σ ρ Xd Qd Qv e k h q => ?_⟩
  unfold wConsS at h
  cases q1 : ρ[i]? with
  | none => rw [q1] at h; exact h.elim
  | some s =>
    rw [q1] at h
    cases s with
    | src =>
      obtain ⟨o, h1, a, fp, h2, h3⟩ := e.slot i _ q1
      subst h3
      refine ⟨.ref a, h1, ?_⟩
      exact l1 c F H σ ρ Xd _ _ e k h fun ss vs F2 H2 h2' e2 s2 n2 r2 => q _ _ F2 H2 h2' e2 s2 n2 ⟨.ref a, vs, rfl, ⟨a, fp, h2, rfl⟩, r2⟩
    | un => exact h.elim
    | own _ => exact h.elim
    | d _ => exact h.elim
    | obj _ _ _ => exact h.elim
theorem de_tup {x1 : Nat} (h : DA Z X E es ws) : DE Z X E (.Tuple es x1 pos) (wTup ws) := by
  obtain ⟨t, p, l⟩ := h
  refine ⟨_, pe_tup p, fun c F H σ ρ Xd Qd Qv e k h q => ?_⟩
  refine l c F H σ ρ Xd _ _ e k h fun ss vs F1 H1 h1 e1 s1 n1 r1 => ?_
  cases q1 : datas ss with
  | none => rw [q1] at h1; exact h1.elim
  | some xs =>
    rw [q1] at h1
    have rr := r1.datas q1
    refine ⟨by rw [rr.len]; exact sz h1.1, fun p hp => ?_⟩
    obtain ⟨x, r⟩ := lay_tup e1.fh rr hp
    exact q _ _ _ _ h1.2 (e1.ext x) (s1.trans x.ff) (n1.trans x.kx) r
theorem de_lst (h : DA Z X E es ws) : DE Z X E (.List es pos) (wLst ws) := by
  obtain ⟨t, p, l⟩ := h
  refine ⟨_, pe_lst p, fun c F H σ ρ Xd Qd Qv e k h q => ?_⟩
  refine l c F H σ ρ Xd _ _ e k h fun ss vs F1 H1 h1 e1 s1 n1 r1 => ?_
  cases q1 : datas ss with
  | none => rw [q1] at h1; exact h1.elim
  | some xs =>
    rw [q1] at h1
    have rr := r1.datas q1
    refine ⟨by rw [rr.len]; exact sz h1.1, fun p hp => ?_⟩
    obtain ⟨x, r⟩ := lay_lst e1.fh rr hp
    exact q _ _ _ _ h1.2 (e1.ext x) (s1.trans x.ff) (n1.trans x.kx) r
/-- a list that is the frame's own from here on -/
theorem EnvOk.lay {c : Cfg} {F H : Hp} {σ : L2.St} {ρ : Env} (e : EnvOk Z K c F H σ ρ) {vs : List V} {p : Addr} (hp : H p = none) : EnvOk Z K c F (upd H p (.lst vs)) σ ρ where
  len := e.len
  slot := fun i s h => by
    obtain ⟨o, h1, h2⟩ := e.slot i s h
    refine ⟨o, h1, ?_⟩
    cases s with
    | own ys =>
      obtain ⟨a, ws, r1, r2, r3, r4, r5⟩ := h2
      refine ⟨a, ws, r1, r2, r3, ?_, r5⟩
      rw [upd_ne (ne_of_none r4 hp)]
      exact r4
    | un => trivial
    | d y => exact h2
    | src => exact h2
    | obj px C fs => exact obj_kx h2 (Same.refl _) (fun a u z _ _ => by rw [upd_ne (ne_of_none z hp)]; exact z) fun b z => .inl z
  sep := e.sep
  fh := fun b o h => by
    have h2 := e.fh b o h
    rw [upd_ne (ne_of_none h2 hp)]
    exact h2
  f0 := e.f0
  new := e.new
  keep := fun b o h hb => by
    have h2 := e.keep b o h hb
    rw [upd_ne (ne_of_none h2 hp)]
    exact h2
  all := fun b h => by
    obtain ⟨o, h2⟩ := ne_some (e.all b h)
    rw [upd_ne (ne_of_none h2 hp), h2]
    simp
  src := fun a fp h => by
    obtain ⟨p1, q⟩ := e.src a fp h
    refine ⟨Z.loc p1 fun b hb => ?_, q⟩
    obtain ⟨o, h2⟩ := ne_some ((Z.tr p1).2 b hb)
    rw [upd_ne (ne_of_none h2 hp)]
/-- an own list that is data from here on -/
theorem EnvOk.freeze {c : Cfg} {F H : Hp} {σ : L2.St} {ρ : Env} (e : EnvOk Z K c F H σ ρ) {vs : List V} {a : Addr} (hf : F a = none) (h0 : c.H0 a = none) (hh : H a = some (.lst vs)) (na : ∀ (i : Nat) ys, ρ[i]? = some (SV.own ys) → σ[i]? ≠ some (some (.ref a))) :
    EnvOk Z K c (upd F a (.lst vs)) H σ ρ := by
  have sF : Same F (upd F a (.lst vs)) := fun b u hb => by
    rw [upd_ne (ne_of_none hb hf)]
    exact hb
  refine ⟨e.len, fun i s h => ?_, e.sep, fun b u hb => ?_, e.f0.trans sF, fun b hb => ?_, e.keep, e.all, fun x fp h => ?_⟩
  · obtain ⟨o, h1, h2⟩ := e.slot i s h
    refine ⟨o, h1, ?_⟩
    cases s with
    | own ys =>
      obtain ⟨b, ws, r1, r2, r3, r4, r5⟩ := h2
      refine ⟨b, ws, r1, ?_, r3, r4, RepL.mono sF _ _ r5⟩
      have hb : b ≠ a := fun z => na i ys h (by rw [h1, r1, z])
      rw [upd_ne hb]
      exact r2
    | un => trivial
    | d y =>
      obtain ⟨v, r1, r2⟩ := h2
      exact ⟨v, r1, Rep.mono sF _ _ r2⟩
    | src => exact h2
    | obj px C fs =>
      refine obj_kx h2 sF (fun _ _ z _ _ => z) fun b z => ?_
      by_cases hba : b = a
      · exact .inr (.inr ⟨vs, by rw [hba]; exact hh⟩)
      · rw [upd_ne hba] at z
        exact .inl z
  · by_cases hba : b = a
    · subst hba
      rw [upd_same] at hb
      cases hb
      exact hh
    · rw [upd_ne hba] at hb
      exact e.fh b u hb
  · by_cases hba : b = a
    · subst hba
      exact .inr h0
    · rw [upd_ne hba] at hb
      exact e.new b hb
  · obtain ⟨p1, q⟩ := e.src x fp h
    refine ⟨p1, fun b hb => ⟨?_, (q b hb).2⟩⟩
    have hba : b ≠ a := fun z => (q b hb).2 (by rw [z]; exact h0)
    rw [upd_ne hba]
    exact (q b hb).1
theorem dl_lst (h : DA Z X E es ws) : DLs Z X E (.List es pos) (lLst ws) := by
  obtain ⟨t, p, l⟩ := h
  refine ⟨_, pe_lst p, fun c F H σ ρ Xd Qd Qv e k h q => ?_⟩
  refine l c F H σ ρ Xd _ _ e k h fun ss vs F1 H1 h1 e1 s1 n1 r1 => ?_
  cases q1 : datas ss with
  | none => rw [q1] at h1; exact h1.elim
  | some xs =>
    rw [q1] at h1
    have rr := r1.datas q1
    refine ⟨by rw [rr.len]; exact sz h1.1, fun p hp => ?_⟩
    exact q xs p vs F1 _ h1.2 (e1.lay hp) s1 (n1.trans (Kx.lay hp)) (n1.free hp) (e1.fh.free hp) upd_same rr
/-- a fresh list as data -/
theorem de_ofL {w : LW} (h : DLs Z X E e w) : DE Z X E e (wOfL w) := by
  obtain ⟨t, p, l⟩ := h
  refine ⟨t, p, fun c F H σ ρ Xd Qd Qv e k h q => ?_⟩
  refine l c F H σ ρ Xd _ _ e k h fun xs a vs F1 H1 h1 e1 s1 n1 f1 f2 f3 r1 => ?_
  have na : ∀ (i : Nat) ys, ρ[i]? = some (SV.own ys) → σ[i]? ≠ some (some (V.ref a)) := fun i ys hi z => by
    obtain ⟨o, o1, b, ws, o2, o3, o4, o5, o6⟩ := e.slot i _ hi
    rw [o1, o2] at z
    have z : b = a := by simpa using z
    rw [z, f1] at o5
    cases o5
  have h0 : c.H0 a = none := by
    cases q1 : c.H0 a with
    | none => rfl
    | some u => exact absurd f1 (e.all a (by rw [q1]; simp))
  have sF : Same F1 (upd F1 a (.lst vs)) := fun b u hb => by
    rw [upd_ne (ne_of_none hb f2)]
    exact hb
  exact q _ _ _ H1 h1 (e1.freeze f2 h0 f3 na) (s1.trans sF) ⟨n1.nx, n1.kp, fun b hb => by
    by_cases hba : b = a
    · exact .inr (by rw [hba]; exact f1)
    · rw [upd_ne hba] at hb
      exact n1.new b hb⟩ ⟨a, vs, rfl, SqL.of upd_same, RepL.mono sF _ _ r1⟩

/-! ### built-ins -/
def LCB (K : PySem.W.Frag) (r : List V → Hp → VK → Prop) (o : OpN) : Prop := ∀ (F H : Hp) (ds : List D) (vs : List V) (Qd : D → Prop) (Qv : VK), Same F H → RepL K F ds vs → o ds Qd →
  (∀ d v F' H', Qd d → Ext F H F' H' → Rep K F' d v → Qv v H') → r vs H Qv
theorem le_cb {r : List V → Hp → VK → Prop} {o : OpN} {ta : TA} (ho : LCB K r o) (ha : LA Z K E ta ws) : LE Z K E (tCB r ta) (wCB o ws) := fun c F H σ ρ Xd Qd Qv e l h q => by
  refine ha c F H σ ρ Xd _ _ e l h fun ss vs F1 H1 h1 e1 s1 n1 r1 => ?_
  cases q1 : datas ss with
  | none => rw [q1] at h1; exact h1.elim
  | some xs =>
    rw [q1] at h1
    refine ho F1 H1 xs vs _ _ e1.fh (r1.datas q1) h1 fun d v F3 H3 h3 x3 r3 => ?_
    exact q d v F3 H3 h3 (e1.ext x3) (s1.trans x3.ff) (n1.trans x3.kx) r3
theorem de_cb {id : String} {x : Str} {p : Pos} {r : List V → Hp → VK → Prop} {o : OpN} (hc : CallR X (.builtin id) r) (ho : LCB X.K r o) (hm : X.mg x = none) (hv : bootBuiltins x = some (.builtin id)) (ha : DA Z X E (e :: es) ws) (hg : Gl X x := by rfl)
    (hn : x ≠ "__name__" := by decide) (hdb : (x == ("__debug__" : Str)) = false := by decide)
    (he : starEach (e :: es) X.env = (false, eval e X.env) :: starEach es X.env := by rfl) (hpl : (backTo pos (starEach es X.env)).any (·.1) = false := by rfl) : DE Z X E (.Call (.Name x p) (e :: es) [] pos) (wCB o ws) := by
  obtain ⟨t, pa, la⟩ := ha
  exact ⟨_, pe_callB hc hg hm hv pa hn hdb he hpl, le_cb ho la⟩
theorem de_cty {T : String} {x : Str} {p : Pos} {r : List V → Hp → VK → Prop} {o : OpN} (hc : CallR X (.type T) r) (ho : LCB X.K r o) (hm : X.mg x = none) (hv : bootBuiltins x = some (.type T)) (ha : DA Z X E (e :: es) ws) (hg : Gl X x := by rfl)
    (hn : x ≠ "__name__" := by decide) (hdb : (x == ("__debug__" : Str)) = false := by decide)
    (he : starEach (e :: es) X.env = (false, eval e X.env) :: starEach es X.env := by rfl) (hpl : (backTo pos (starEach es X.env)).any (·.1) = false := by rfl) : DE Z X E (.Call (.Name x p) (e :: es) [] pos) (wCB o ws) := by
  obtain ⟨t, pa, la⟩ := ha
  exact ⟨_, pe_callTy hc hg hm hv pa hn hdb he hpl, le_cb ho la⟩
theorem repL_1 {F : Hp} {d : D} {vs : List V} (h : RepL K F [d] vs) : ∃ v, vs = [v] ∧ Rep K F d v := by
  obtain ⟨v, r, rfl, h1, h2⟩ := h
  have h2 : r = [] := h2
  subst h2
  exact ⟨v, rfl, h1⟩
theorem repL_2 {F : Hp} {d d' : D} {vs : List V} (h : RepL K F [d, d'] vs) : ∃ v v', vs = [v, v'] ∧ Rep K F d v ∧ Rep K F d' v' := by
  obtain ⟨v, r, rfl, h1, h2⟩ := h
  obtain ⟨v', rfl, h3⟩ := repL_1 h2
  exact ⟨v, v', rfl, h1, h3⟩
theorem lcb_abs : LCB K (fun xs H Q => ∃ i, xs = [.int i] ∧ Q (.int (if i < 0 then -i else i)) H) bAbs := fun F H ds vs Qd Qv s r z q => by
  unfold bAbs at z
  split at z
  · obtain ⟨v, rfl, h1⟩ := repL_1 r
    have h1 : v = _ := h1
    subst h1
    exact ⟨_, rfl, q _ _ F H z (Ext.refl s) rfl⟩
  · exact z.elim
theorem lcb_max2 : LCB K (fun xs H Q => ∃ i j, xs = [.int i, .int j] ∧ Q (.int (if j > i then j else i)) H) bMax2 := fun F H ds vs Qd Qv s r z q => by
  unfold bMax2 at z
  split at z
  · obtain ⟨v, v', rfl, h1, h2⟩ := repL_2 r
    have h1 : v = _ := h1
    have h2 : v' = _ := h2
    subst h1 h2
    exact ⟨_, _, rfl, q _ _ F H z (Ext.refl s) rfl⟩
  · exact z.elim
theorem lcb_min2 : LCB K (fun xs H Q => ∃ i j, xs = [.int i, .int j] ∧ Q (.int (if j < i then j else i)) H) bMin2 := fun F H ds vs Qd Qv s r z q => by
  unfold bMin2 at z
  split at z
  · obtain ⟨v, v', rfl, h1, h2⟩ := repL_2 r
    have h1 : v = _ := h1
    have h2 : v' = _ := h2
    subst h1 h2
    exact ⟨_, _, rfl, q _ _ F H z (Ext.refl s) rfl⟩
  · exact z.elim
theorem lcb_int : LCB K (fun xs H Q => (∃ i, xs = [.int i] ∧ Q (.int i) H) ∨ ∃ k, xs = [.bl k] ∧ Q (.int (if k then 1 else 0)) H) bInt := fun F H ds vs Qd Qv s r z q => by
  unfold bInt at z
  split at z
  · obtain ⟨v, rfl, h1⟩ := repL_1 r
    have h1 : v = _ := h1
    subst h1
    exact .inl ⟨_, rfl, q _ _ F H z (Ext.refl s) rfl⟩
  · obtain ⟨v, rfl, h1⟩ := repL_1 r
    have h1 : v = _ := h1
    subst h1
    exact .inr ⟨_, rfl, q _ _ F H z (Ext.refl s) rfl⟩
  · exact z.elim
theorem lcb_str : LCB K (fun xs H Q => ∃ i, xs = [.int i] ∧ i.natAbs.log2 < 1920 ∧ Q (.str (toString i)) H) bStr := fun F H ds vs Qd Qv s r z q => by
  unfold bStr at z
  split at z
  · obtain ⟨v, rfl, h1⟩ := repL_1 r
    have h1 : v = _ := h1
    subst h1
    exact ⟨_, rfl, z.1, q _ _ F H z.2 (Ext.refl s) rfl⟩
  · exact z.elim
def rLenE (K : PySem.W.Frag) : List V → Hp → VK → Prop := fun xs H Q => (∃ p ys, xs = [.ref p] ∧ (SqL K H p ys ∨ SqT K H p ys) ∧ Q (.int ys.length) H) ∨ ∃ z, xs = [.str z] ∧ z.length ≤ sizeLine ∧ Q (.int z.length) H
theorem call_lenE : CallR X (.builtin "len") (rLenE X.K) := call_len_seq.or call_len_str
theorem lcb_len : LCB K (rLenE K) bLen := fun F H ds vs Qd Qv s r z q => by
  unfold bLen at z
  split at z
  · obtain ⟨v, rfl, a, ws, rfl, h2, h3⟩ := repL_1 r
    refine .inl ⟨a, ws, rfl, .inr (same_t s h2), ?_⟩
    rw [h3.len]
    exact q _ _ F H z (Ext.refl s) rfl
  · obtain ⟨v, rfl, a, ws, rfl, h2, h3⟩ := repL_1 r
    refine .inl ⟨a, ws, rfl, .inl (same_l s h2), ?_⟩
    rw [h3.len]
    exact q _ _ F H z (Ext.refl s) rfl
  · obtain ⟨v, rfl, h1⟩ := repL_1 r
    have h1 : v = _ := h1
    subst h1
    exact .inr ⟨_, rfl, sz z.1, q _ _ F H z.2 (Ext.refl s) rfl⟩
  · exact z.elim
theorem lcb_tuple : LCB K (fun xs H Q => ∃ p ys, xs = [.ref p] ∧ ((SqL K H p ys ∧ ∀ l, H l = none → Q (.ref l) (upd H l (.tup ys))) ∨ (SqT K H p ys ∧ Q (.ref p) H))) bTuple := fun F H ds vs Qd Qv s r z q => by
  unfold bTuple at z
  split at z
  · obtain ⟨v, rfl, a, ws, rfl, h2, h3⟩ := repL_1 r
    refine ⟨a, ws, rfl, .inl ⟨same_l s h2, fun p hp => ?_⟩⟩
    obtain ⟨x, r⟩ := lay_tup s h3 hp
    exact q _ _ _ _ z x r
  · obtain ⟨v, rfl, a, ws, rfl, h2, h3⟩ := repL_1 r
    exact ⟨a, ws, rfl, .inr ⟨same_t s h2, q _ _ F H z (Ext.refl s) ⟨a, ws, rfl, h2, h3⟩⟩⟩
  · exact z.elim
/-- built-ins that give a fresh list -/
def LCL (K : PySem.W.Frag) (r : List V → Hp → VK → Prop) (o : List D → (List D → Prop) → Prop) : Prop := ∀ (F H : Hp) (ds : List D) (vs : List V) (Qd : List D → Prop) (Qv : VK), Same F H → RepL K F ds vs → o ds Qd →
  (∀ xs p ws, Qd xs → H p = none → RepL K F xs ws → Qv (.ref p) (upd H p (.lst ws))) → r vs H Qv
theorem lcl_list : LCL K (fun xs H Q => ∃ p ys, xs = [.ref p] ∧ (SqL K H p ys ∨ SqT K H p ys) ∧ ∀ l, H l = none → Q (.ref l) (upd H l (.lst ys))) bList := fun F H ds vs Qd Qv s r z q => by
  unfold bList at z
  split at z
  · obtain ⟨v, rfl, a, ws, rfl, h2, h3⟩ := repL_1 r
    exact ⟨a, ws, rfl, .inl (same_l s h2), fun p hp => q _ p ws z hp h3⟩
  · obtain ⟨v, rfl, a, ws, rfl, h2, h3⟩ := repL_1 r
    exact ⟨a, ws, rfl, .inr (same_t s h2), fun p hp => q _ p ws z hp h3⟩
  · exact z.elim
theorem ll_cb {r : List V → Hp → VK → Prop} {o : List D → (List D → Prop) → Prop} {ta : TA} (ho : LCL K r o) (ha : LA Z K E ta ws) : LL Z K E (tCB r ta) (lCB o ws) := fun c F H σ ρ Xd Qd Qv e l h q => by
  refine ha c F H σ ρ Xd _ _ e l h fun ss vs F1 H1 h1 e1 s1 n1 r1 => ?_
  cases q1 : datas ss with
  | none => rw [q1] at h1; exact h1.elim
  | some xs =>
    rw [q1] at h1
    refine ho F1 H1 xs vs _ _ e1.fh (r1.datas q1) h1 fun ys p us h2 hp r2 => ?_
    exact q ys p us F1 _ h2 (e1.lay hp) s1 (n1.trans (Kx.lay hp)) (n1.free hp) (e1.fh.free hp) upd_same r2
theorem dl_cty {T : String} {x : Str} {p : Pos} {r : List V → Hp → VK → Prop} {o : List D → (List D → Prop) → Prop} (hc : CallR X (.type T) r) (ho : LCL X.K r o) (hm : X.mg x = none) (hv : bootBuiltins x = some (.type T)) (ha : DA Z X E (e :: es) ws) (hg : Gl X x := by rfl)
    (hn : x ≠ "__name__" := by decide) (hdb : (x == ("__debug__" : Str)) = false := by decide)
    (he : starEach (e :: es) X.env = (false, eval e X.env) :: starEach es X.env := by rfl) (hpl : (backTo pos (starEach es X.env)).any (·.1) = false := by rfl) : DLs Z X E (.Call (.Name x p) (e :: es) [] pos) (lCB o ws) := by
  obtain ⟨t, pa, la⟩ := ha
  exact ⟨_, pe_callTy hc hg hm hv pa hn hdb he hpl, ll_cb ho la⟩
theorem bools_rep {F : Hp} : ∀ {ds : List D} {vs : List V} {bs : List Bool}, RepL K F ds vs → bools ds = some bs → vs = bs.map V.bl
  | [], vs, bs, h, e => by
    have h : vs = [] := h
    have e : some [] = some bs := e
    cases e
    rw [h]
    rfl
  | .bl b :: r, vs, bs, h, e => by
    obtain ⟨v, t, e1, e2, e3⟩ := h
    cases q : bools r with
    | none => rw [bools, q] at e; cases e
    | some cs =>
      rw [bools, q] at e
      cases e
      have e2 : v = .bl b := e2
      rw [e1, e2, bools_rep e3 q]
      rfl
  | .non :: _, _, _, _, e => by cases e
  | .int _ :: _, _, _, _, e => by cases e
  | .str _ :: _, _, _, _, e => by cases e
  | .tup _ :: _, _, _, _, e => by cases e
  | .lst _ :: _, _, _, _, e => by cases e
  | .ins _ _ _ :: _, _, _, _, e => by cases e
theorem intsD_rep {F : Hp} : ∀ {ds : List D} {vs : List V} {bs : List Int}, RepL K F ds vs → intsD ds = some bs → vs = bs.map V.int
  | [], vs, bs, h, e => by
    have h : vs = [] := h
    have e : some [] = some bs := e
    cases e
    rw [h]
    rfl
  | .int b :: r, vs, bs, h, e => by
    obtain ⟨v, t, e1, e2, e3⟩ := h
    cases q : intsD r with
    | none => rw [intsD, q] at e; cases e
    | some cs =>
      rw [intsD, q] at e
      cases e
      have e2 : v = .int b := e2
      rw [e1, e2, intsD_rep e3 q]
      rfl
  | .non :: _, _, _, _, e => by cases e
  | .bl _ :: _, _, _, _, e => by cases e
  | .str _ :: _, _, _, _, e => by cases e
  | .tup _ :: _, _, _, _, e => by cases e
  | .lst _ :: _, _, _, _, e => by cases e
  | .ins _ _ _ :: _, _, _, _, e => by cases e
theorem lcb_all : LCB K (rAll K) bAll := fun F H ds vs Qd Qv s r z q => by
  unfold bAll at z
  split at z
  · obtain ⟨v, rfl, a, ws, rfl, h2, h3⟩ := repL_1 r
    split at z
    · rename_i bs hb
      have e := bools_rep h3 hb
      subst e
      exact ⟨a, bs, rfl, same_l s h2, q _ _ F H z (Ext.refl s) rfl⟩
    · exact z.elim
  · exact z.elim
theorem lcb_any : LCB K (rAny K) bAny := fun F H ds vs Qd Qv s r z q => by
  unfold bAny at z
  split at z
  · obtain ⟨v, rfl, a, ws, rfl, h2, h3⟩ := repL_1 r
    split at z
    · rename_i bs hb
      have e := bools_rep h3 hb
      subst e
      exact ⟨a, bs, rfl, same_l s h2, q _ _ F H z (Ext.refl s) rfl⟩
    · exact z.elim
  · exact z.elim
theorem lcb_sum : LCB K (rSum K) bSum := fun F H ds vs Qd Qv s r z q => by
  unfold bSum at z
  split at z
  · obtain ⟨v, rfl, a, ws, rfl, h2, h3⟩ := repL_1 r
    split at z
    · rename_i bs hb
      have e := intsD_rep h3 hb
      subst e
      exact ⟨a, bs, rfl, same_l s h2, q _ _ F H z (Ext.refl s) rfl⟩
    · exact z.elim
  · exact z.elim
/-- isinstance(e, T), T a built-in type -/
theorem tyx {F H : Hp} (s : Same F H) {d : D} {v : V} {t : String} (r : Rep K F d v) (h : tyOf d = some t) : TyX K H v (.type t) := by
  cases d with
  | non => (have r : v = _ := r); subst r; cases h; exact .base .non
  | bl _ => (have r : v = _ := r); subst r; cases h; exact .base (.bl _)
  | int _ => (have r : v = _ := r); subst r; cases h; exact .base (.int _)
  | str _ => (have r : v = _ := r); subst r; cases h; exact .base (.str _)
  | tup _ =>
    obtain ⟨a, vs, rfl, h1, _⟩ := r
    cases h
    rcases h1 with (h1 | ⟨o, h1⟩) | ⟨o, its, n, h1, h2, _⟩
    · exact .base (.tup (s _ _ h1))
    · exact .fTuple (s _ _ h1)
    · exact .kTuple h1 h2
  | lst _ =>
    obtain ⟨a, vs, rfl, h1, _⟩ := r
    cases h
    rcases h1 with (h1 | ⟨o, h1⟩) | ⟨o, its, n, h1, h2, _⟩
    · exact .base (.lst (s _ _ h1))
    · exact .base (.frz (s _ _ h1))
    · exact .kList h1 h2
  | ins _ _ _ => cases h
def goodTy (T : String) : Prop := ∀ d t, tyOf d = some t → kitB t T = some (isT t T)
theorem good_ty {T : String} (h1 : kitB "NoneType" T = some (isT "NoneType" T)) (h2 : kitB "bool" T = some (isT "bool" T)) (h3 : kitB "int" T = some (isT "int" T)) (h4 : kitB "str" T = some (isT "str" T)) (h5 : kitB "tuple" T = some (isT "tuple" T)) (h6 : kitB "list" T = some (isT "list" T)) : goodTy T := fun d t h => by
  cases d <;> cases h <;> assumption
theorem good_bool : goodTy "bool" := good_ty (by decide +kernel) (by decide +kernel) (by decide +kernel) (by decide +kernel) (by decide +kernel) (by decide +kernel)
theorem good_int : goodTy "int" := good_ty (by decide +kernel) (by decide +kernel) (by decide +kernel) (by decide +kernel) (by decide +kernel) (by decide +kernel)
theorem good_str : goodTy "str" := good_ty (by decide +kernel) (by decide +kernel) (by decide +kernel) (by decide +kernel) (by decide +kernel) (by decide +kernel)
theorem good_tuple : goodTy "tuple" := good_ty (by decide +kernel) (by decide +kernel) (by decide +kernel) (by decide +kernel) (by decide +kernel) (by decide +kernel)
theorem good_list : goodTy "list" := good_ty (by decide +kernel) (by decide +kernel) (by decide +kernel) (by decide +kernel) (by decide +kernel) (by decide +kernel)
theorem pe_bltTy {T : String} {x : Str} {p : Pos} (hm : X.mg x = none) (hv : bootBuiltins x = some (.type T)) (hg : Gl X x := by rfl) (hn : x ≠ "__name__" := by decide) (hd : (x == ("__debug__" : Str)) = false := by decide) : PE X (.Name x p) (tC (.ty T)) := pe_bltn hg hm hv rfl hn hd
theorem de_isi {T : String} {x : Str} {p p2 : Pos} (g : goodTy T) (hm : X.mg "isinstance" = none) (hmT : X.mg x = none) (hvT : bootBuiltins x = some (.type T)) (ha : DE Z X E a wa) (hg : Gl X "isinstance" := by rfl) (hgT : Gl X x := by rfl) (hn : x ≠ "__name__" := by decide) (hd : (x == ("__debug__" : Str)) = false := by decide)
    (hv : bootBuiltins "isinstance" = some (.builtin "isinstance") := by decide +kernel)
    (h1 : starEach [a, .Name x p2] X.env = (false, eval a X.env) :: starEach [.Name x p2] X.env := by rfl) (h2 : starEach [.Name x p2] X.env = (false, eval (.Name x p2) X.env) :: starEach [] X.env := by rfl)
    (hpl : (backTo pos (starEach [.Name x p2] X.env)).any (·.1) = false := by rfl) : DE Z X E (.Call (.Name "isinstance" p) [a, .Name x p2] [] pos) (wUn (bIsi T) wa) := by
  obtain ⟨t, pa, la⟩ := ha
  refine ⟨_, pe_callB call_isi hg hm hv (pa_cons pa (pa_cons (pe_bltTy hmT hvT hgT hn hd) pa_nil h2) h1) (by decide) (by decide) h1 hpl, fun c F H σ ρ Xd Qd Qv e l h q => ?_⟩
  refine la c F H σ ρ Xd _ _ e l h fun d v F1 H1 h1 e1 s1 n1 r1 => ?_
  unfold bIsi at h1
  split at h1
  · rename_i t ht
    exact ⟨v, .ty T, .type t, .type T, isT t T, rfl, .ty T, tyx e1.fh r1 ht, kit_ty (g d t ht), q _ _ F1 H1 h1 e1 s1 n1 rfl⟩
  · exact h1.elim
theorem de_isi2 {T U : String} {x y : Str} {p p2 p3 p4 : Pos} {kk : Nat} (g : goodTy T) (g' : goodTy U) (hm : X.mg "isinstance" = none) (hmT : X.mg x = none) (hvT : bootBuiltins x = some (.type T)) (hmU : X.mg y = none) (hvU : bootBuiltins y = some (.type U)) (ha : DE Z X E a wa) (hg : Gl X "isinstance" := by rfl) (hgT : Gl X x := by rfl) (hgU : Gl X y := by rfl)
    (hn : x ≠ "__name__" := by decide) (hd : (x == ("__debug__" : Str)) = false := by decide) (hn' : y ≠ "__name__" := by decide) (hd' : (y == ("__debug__" : Str)) = false := by decide)
    (hv : bootBuiltins "isinstance" = some (.builtin "isinstance") := by decide +kernel)
    (h1 : starEach [a, .Tuple [.Name x p2, .Name y p3] kk p4] X.env = (false, eval a X.env) :: starEach [.Tuple [.Name x p2, .Name y p3] kk p4] X.env := by rfl) (h2 : starEach [.Tuple [.Name x p2, .Name y p3] kk p4] X.env = (false, eval (.Tuple [.Name x p2, .Name y p3] kk p4) X.env) :: starEach [] X.env := by rfl)
    (h3 : starEach [.Name x p2, .Name y p3] X.env = (false, eval (.Name x p2) X.env) :: starEach [.Name y p3] X.env := by rfl) (h4 : starEach [.Name y p3] X.env = (false, eval (.Name y p3) X.env) :: starEach [] X.env := by rfl)
    (hpl : (backTo pos (starEach [.Tuple [.Name x p2, .Name y p3] kk p4] X.env)).any (·.1) = false := by rfl) : DE Z X E (.Call (.Name "isinstance" p) [a, .Tuple [.Name x p2, .Name y p3] kk p4] [] pos) (wUn (bIsi2 T U) wa) := by
  obtain ⟨t, pa, la⟩ := ha
  refine ⟨_, pe_callB call_isiT hg hm hv (pa_cons pa (pa_cons (pe_tup (pa_cons (pe_bltTy hmT hvT hgT hn hd) (pa_cons (pe_bltTy hmU hvU hgU hn' hd') pa_nil h4) h3)) pa_nil h2) h1) (by decide) (by decide) h1 hpl, fun c F H σ ρ Xd Qd Qv e l h q => ?_⟩
  refine la c F H σ ρ Xd _ _ e l h fun d v F1 H1 h1 e1 s1 n1 r1 => ?_
  unfold bIsi2 at h1
  split at h1
  · rename_i t ht
    refine ⟨by show 2 ≤ sizeLine; decide, fun p hp => ?_⟩
    have x := Ext.lay (o := .tup [V.ty T, V.ty U]) e1.fh hp
    refine ⟨v, p, [V.ty T, V.ty U], .type t, [.type T, .type U], isT t T || isT t U, rfl, upd_same, .cons (.ty T) (.cons (.ty U) .nil), tyx (e1.fh.trans x.hh) r1 ht, ?_, q _ _ _ _ h1 (e1.ext x) (s1.trans x.ff) (n1.trans x.kx) rfl⟩
    refine kitAny_cons (kit_ty (g d t ht)) (fun z => ?_) fun z => by rw [z]; rfl
    rw [z]
    refine kitAny_cons (kit_ty (g' d t ht)) (fun z => ?_) fun z => by rw [z]; rfl
    rw [z]
    exact kitAny_nil
  · exact h1.elim
end
end DL
set_option linter.all false
set_option autoImplicit false
set_option maxHeartbeats 2000000
/-! Statements, loops, comprehensions. -/
namespace DL
open PySem PySem.Spec PyProof.Rows L2

section
variable {Z : SrcK} {X : Cx} {E : L2.St → XK} {K : PySem.W.Frag} {a b e : Expr} {wa wb wc : EW} {pos : Pos} {c : Cfg} {F H : Hp} {σ : L2.St} {ρ : Env}
/-! ### a slot is stored -/
theorem EnvOk.setS {i : Nat} {s : SV} {v : V} (e : EnvOk Z K c F H σ ρ) (h : SlotOk K c F H s (some v)) (na : ∀ xs a, s = SV.own xs → v = V.ref a → ∀ (j : Nat) ys, j ≠ i → ρ[j]? = some (SV.own ys) → σ[j]? ≠ some (some (V.ref a))) :
    EnvOk Z K c F H (σ.set i (some v)) (ρ.set i s) := by
  refine ⟨by rw [List.length_set, List.length_set]; exact e.len, fun j t h1 => ?_, fun j k xs ys hjk h1 h2 => ?_, e.fh, e.f0, e.new, e.keep, e.all, e.src⟩
  · by_cases hj : j = i
    · subst hj
      by_cases hl : j < ρ.length
      · rw [List.getElem?_set_self hl] at h1
        cases h1
        exact ⟨some v, List.getElem?_set_self (by rw [e.len]; exact hl), h⟩
      · rw [List.getElem?_eq_none_iff.mpr (by rw [List.length_set]; omega)] at h1
        cases h1
    · rw [List.getElem?_set_ne (Ne.symm hj)] at h1 ⊢
      exact e.slot j t h1
  · by_cases hj : j = i
    · subst hj
      have hl : j < ρ.length := by
        by_cases hl : j < ρ.length
        · exact hl
        · rw [List.getElem?_eq_none_iff.mpr (by rw [List.length_set]; omega)] at h1
          cases h1
      rw [List.getElem?_set_self hl] at h1
      rw [List.getElem?_set_ne hjk] at h2
      rw [List.getElem?_set_self (by rw [e.len]; exact hl), List.getElem?_set_ne hjk]
      have h1 : s = SV.own xs := by simpa using h1
      subst h1
      obtain ⟨a, vs, r1, _⟩ := h
      have r1 : v = V.ref a := by simpa using r1
      rw [r1]
      exact fun z => na xs a rfl r1 k ys (Ne.symm hjk) h2 z.symm
    · by_cases hk : k = i
      · subst hk
        have hl : k < ρ.length := by
          by_cases hl : k < ρ.length
          · exact hl
          · rw [List.getElem?_eq_none_iff.mpr (by rw [List.length_set]; omega)] at h2
            cases h2
        rw [List.getElem?_set_self hl] at h2
        rw [List.getElem?_set_ne (Ne.symm hjk)] at h1
        rw [List.getElem?_set_self (by rw [e.len]; exact hl), List.getElem?_set_ne (Ne.symm hjk)]
        have h2 : s = SV.own ys := by simpa using h2
        subst h2
        obtain ⟨a, vs, r1, _⟩ := h
        have r1 : v = V.ref a := by simpa using r1
        rw [r1]
        exact na ys a rfl r1 j xs hjk h1
      · rw [List.getElem?_set_ne (Ne.symm hj)] at h1 ⊢
        rw [List.getElem?_set_ne (Ne.symm hk)] at h2 ⊢
        exact e.sep j k xs ys hjk h1 h2
theorem EnvOk.setD {i : Nat} {x : D} {v : V} (e : EnvOk Z K c F H σ ρ) (h : Rep K F x v) : EnvOk Z K c F H (σ.set i (some v)) (ρ.set i (.d x)) :=
  e.setS (s := .d x) ⟨v, rfl, h⟩ fun _ _ z => nomatch z
theorem EnvOk.notOwn {xs : List V} {p : Addr} {j : Nat} {ys : List D} (e : EnvOk Z K c F H σ ρ) (hp : H p = none) (h : ρ[j]? = some (SV.own ys)) : σ[j]? ≠ some (some (V.ref p)) := fun z => by
  obtain ⟨o, o1, b, ws, o2, o3, o4, o5, o6⟩ := e.slot j _ h
  rw [o1, o2] at z
  have z : b = p := by simpa using z
  rw [z, hp] at o5
  cases o5
theorem EnvOk.h0 {p : Addr} (e : EnvOk Z K c F H σ ρ) (hp : H p = none) : c.H0 p = none := by
  cases q1 : c.H0 p with
  | none => rfl
  | some u => exact absurd hp (e.all p (by rw [q1]; simp))
/-! ### targets -/
def LG (Z : SrcK) (K : PySem.W.Frag) (t : TG) (g : GW) : Prop := ∀ (c : Cfg) (F H : Hp) (σ : L2.St) (ρ : Env) (d : D) (v : V) (Qd : Env → Prop) (Qv : L2.St → Hp → Prop), EnvOk Z K c F H σ ρ → Rep K F d v → g d ρ Qd →
  (∀ σ' ρ' F' H', Qd ρ' → EnvOk Z K c F' H' σ' ρ' → Same F F' → Nx H H' → Qv σ' H') → t v σ H Qv
def LGs (Z : SrcK) (K : PySem.W.Frag) (t : TGs) (g : List D → Env → (Env → Prop) → Prop) : Prop := ∀ (c : Cfg) (F H : Hp) (σ : L2.St) (ρ : Env) (ds : List D) (vs : List V) (Qd : Env → Prop) (Qv : L2.St → Hp → Prop), EnvOk Z K c F H σ ρ → RepL K F ds vs → g ds ρ Qd →
  (∀ σ' ρ' F' H', Qd ρ' → EnvOk Z K c F' H' σ' ρ' → Same F F' → Nx H H' → Qv σ' H') → t vs σ H Qv
def DG (Z : SrcK) (X : Cx) (tg : Expr) (g : GW) : Prop := ∃ t, PG X tg t ∧ LG Z X.K t g
def DGs (Z : SrcK) (X : Cx) (n : Nat) (tgs : List Expr) (g : List D → Env → (Env → Prop) → Prop) : Prop := (∃ t, PGs X tgs t ∧ LGs Z X.K t g) ∧ ∀ ds ρ Q, g ds ρ Q → ds.length = n
theorem lg_name {i : Nat} : LG Z K (gName i) (gNm i) := fun c F H σ ρ d v Qd Qv e r h q => q _ _ F H h (e.setD r) (Same.refl _) (Nx.refl _)
theorem dg_name {x : Str} {p : Pos} (i : Nat) (hN : X.N.Nodup) (hi : X.N[i]? = some x := by rfl) (hx : Loc X.env.scope x := by first | exact Or.inl rfl | exact Or.inr rfl) (hf : X.fn x = true ∨ X.env.scope.names.lookup x = some .local := by first | exact .inl rfl | exact .inr rfl) : DG Z X (.Name x p) (gNm i) :=
  ⟨_, pg_name hN hi hx hf, lg_name⟩
theorem dgs_nil : DGs Z X 0 [] gNilW := ⟨⟨_, pgs_nil, fun c F H σ ρ ds vs Qd Qv e r h q => by
  obtain ⟨h1, h2⟩ := h
  subst h1
  have r : vs = [] := r
  exact ⟨r, q _ _ F H h2 e (Same.refl _) (Nx.refl _)⟩⟩, fun ds ρ Q h => by rw [h.1]; rfl⟩
theorem gConsW_len {g : GW} {r : List D → Env → (Env → Prop) → Prop} {n : Nat} (hg : ∀ d ρ Q, g d ρ Q → ∃ ρ', Q ρ') (hr : ∀ ds ρ Q, r ds ρ Q → ds.length = n) : ∀ ds ρ Q, gConsW g r ds ρ Q → ds.length = n + 1 := fun ds ρ Q h => by
  cases ds with
  | nil => exact h.elim
  | cons x t =>
    obtain ⟨ρ', h⟩ := hg _ _ _ h
    rw [List.length_cons, hr _ _ _ h]
theorem dgs_cons {t : Expr} {ts : List Expr} {g : GW} {r : List D → Env → (Env → Prop) → Prop} {n : Nat} (h1 : DG Z X t g) (h2 : DGs Z X n ts r) (hg : ∀ d ρ Q, g d ρ Q → ∃ ρ', Q ρ' := by exact fun _ _ _ h => ⟨_, h⟩) (hs : (assignEach (t :: ts) X.env).map (·.2) = assign t X.env :: (assignEach ts X.env).map (·.2) := by rfl) : DGs Z X (n + 1) (t :: ts) (gConsW g r) := by
  obtain ⟨u, p, l⟩ := h1
  obtain ⟨⟨u1, p1, l1⟩, hl⟩ := h2
  refine ⟨⟨_, pgs_cons p p1 hs, fun c F H σ ρ ds vs Qd Qv e rr h q => ?_⟩, gConsW_len hg hl⟩
  cases ds with
  | nil => exact h.elim
  | cons x t =>
    obtain ⟨v, vr, e1, r1, r2⟩ := rr
    refine ⟨v, vr, e1, ?_⟩
    refine l c F H σ ρ x v _ _ e r1 h fun σ' ρ' F1 H1 h1 e1 s1 n1 => ?_
    exact l1 c F1 H1 σ' ρ' t vr _ _ e1 (RepL.mono s1 _ _ r2) h1 fun σ2 ρ2 F2 H2 h2 e2 s2 n2 => q _ _ F2 H2 h2 e2 (s1.trans s2) (n1.trans n2)
theorem pg_or {t u : TG} (h : PG X e t) (k : PG X e u) : PG X e (fun v σ H Q => t v σ H Q ∨ u v σ H Q) :=
  ⟨fun pins s σ H v w Q I r z => z.elim (fun z => h.run pins s σ H v w Q I r z) fun z => k.run pins s σ H v w Q I r z⟩
theorem dg_tup {es : List Expr} {k n : Nat} {r : List D → Env → (Env → Prop) → Prop} (h : DGs Z X n es r) (hc : X.calm = true := by rfl) (hn : (assignEach es X.env).length = n := by rfl) (hst : (assignEach es X.env).findIdx? (·.1) = none := by rfl) : DG Z X (.Tuple es k pos) (gTupW r) := by
  obtain ⟨⟨u, p, l⟩, hl⟩ := h
  refine ⟨_, pg_or (pg_tup hc p hn hst) (pg_unl hc p hn hst), fun c F H σ ρ d v Qd Qv e rr h q => ?_⟩
  cases d with
  | tup xs =>
    obtain ⟨a, vs, e1, r1, r2⟩ := rr
    exact .inl ⟨a, vs, e1, same_t e.fh r1, by rw [r2.len]; exact hl _ _ _ h, l c F H σ ρ xs vs _ _ e r2 h q⟩
  | lst xs =>
    obtain ⟨a, vs, e1, r1, r2⟩ := rr
    exact .inr ⟨a, vs, e1, same_l e.fh r1, by rw [r2.len]; exact hl _ _ _ h, l c F H σ ρ xs vs _ _ e r2 h q⟩
  | non => exact h.elim
  | bl _ => exact h.elim
  | int _ => exact h.elim
  | str _ => exact h.elim
  | ins _ _ _ => exact h.elim

/-! ### blocks -/
variable {st : Stmt} {rest : List Stmt} {t u : SW} {w : EW}
theorem dss_nil : DSs Z X E [] sNext := ⟨_, pss_nil, fun c F H σ ρ Xd DD D e l h q => q.nx σ ρ F H h e (Same.refl _) (Nx.refl _)⟩
theorem ls_seq {t u : TS} {w v : SW} (h1 : LS Z K E t w) (h2 : LS Z K E u v) : LS Z K E (tSeq t u) (sSeq w v) := fun c F H σ ρ Xd DD D e l h q => by
  refine h1 c F H σ ρ Xd _ _ e l h ⟨fun σ' ρ' F' H' k e' s n => ?_, q.rt, q.bk, q.ct⟩
  exact h2 c F' H' σ' ρ' Xd DD D e' (l.mono s n) k (q.mono s n)
theorem dss_cons (h1 : DS Z X E st t) (h2 : DSs Z X E rest u) : DSs Z X E (st :: rest) (sSeq t u) := by
  obtain ⟨x, p, l⟩ := h1
  obtain ⟨y, p1, l1⟩ := h2
  exact ⟨_, pss_cons p p1, ls_seq l l1⟩
theorem dss_one (h1 : DS Z X E st t) : DSs Z X E [st] t := by
  obtain ⟨x, p, l⟩ := h1
  exact ⟨_, pss_one p, l⟩
theorem ds_pass : DS Z X E (.Pass pos) sNext := ⟨_, ps_pass, fun c F H σ ρ Xd DD D e l h q => q.nx σ ρ F H h e (Same.refl _) (Nx.refl _)⟩
theorem ds_break : DS Z X E (.Break pos) sBreak := ⟨_, ps_break, fun c F H σ ρ Xd DD D e l h q => q.bk σ ρ F H h e (Same.refl _) (Nx.refl _)⟩
theorem ds_continue : DS Z X E (.Continue pos) sCont := ⟨_, ps_continue, fun c F H σ ρ Xd DD D e l h q => q.ct σ ρ F H h e (Same.refl _) (Nx.refl _)⟩
theorem ds_never : DS Z X E st sNever := ⟨_, ps_never, fun c F H σ ρ Xd DD D e l h q => h.elim⟩
theorem dss_never {sts : List Stmt} : DSs Z X E sts sNever := ⟨_, pss_never, fun c F H σ ρ Xd DD D e l h q => h.elim⟩
theorem ds_drop (h : DE Z X E e w) (hs : swapsWith e none pos.line X.env = pure false := by rfl) : DS Z X E (.Expr e pos) (sDrop w) := by
  obtain ⟨x, p, l⟩ := h
  exact ⟨_, ps_expr p hs, fun c F H σ ρ Xd DD D e k h q => l c F H σ ρ Xd _ _ e k h fun d v F1 H1 h1 e1 s1 n1 _ => q.nx σ ρ F1 H1 h1 e1 s1 n1.nx⟩
theorem ds_ret (h : DE Z X E e w) : DS Z X E (.Return (some e) pos) (sRet w) := by
  obtain ⟨x, p, l⟩ := h
  exact ⟨_, ps_ret p, fun c F H σ ρ Xd DD D e k h q => l c F H σ ρ Xd _ _ e k h fun d v F1 H1 h1 e1 s1 n1 r1 => q.rt (.d d) v σ ρ F1 H1 h1 e1 s1 r1⟩
theorem ds_retN : DS Z X E (.Return none pos) sRetN := ⟨_, ps_retN, fun c F H σ ρ Xd DD D e k h q => q.rt (.d .non) .non σ ρ F H h e (Same.refl _) rfl⟩
theorem ds_retOwn {x : Str} {p : Pos} (i : Nat) (hN : X.N[i]? = some x := by rfl) (hv : Vis X.env.scope x := by first | exact Or.inl rfl | exact Or.inr (Or.inl rfl) | exact Or.inr (Or.inr rfl)) (hd : (x == ("__debug__" : Str)) = false := by decide)
    (hcd : (x == ("__classdict__" : Str)) = false := by decide) : DS Z X E (.Return (some (.Name x p)) pos) (sRetOwn i) := by
  refine ⟨_, ps_ret (pe_var hN hv hd hcd), fun c F H σ ρ Xd DD D e k h q => ?_⟩
  unfold sRetOwn at h
  cases q1 : ρ[i]? with
  | none => rw [q1] at h; exact h.elim
  | some s =>
    rw [q1] at h
    cases s with
    | own xs =>
      obtain ⟨o, h1, a, vs, h2, h3, h4, h5, h6⟩ := e.slot i _ q1
      subst h2
      exact ⟨.ref a, h1, q.rt (.own xs) (.ref a) σ ρ F H h e (Same.refl _) ⟨a, vs, rfl, h3, h4, h5, h6⟩⟩
    | un => exact h.elim
    | src => exact h.elim
    | d _ => exact h.elim
    | obj _ _ _ => exact h.elim
theorem ds_retL {w : LW} (h : DLs Z X E e w) : DS Z X E (.Return (some e) pos) (sRetL w) := by
  obtain ⟨x, p, l⟩ := h
  exact ⟨_, ps_ret p, fun c F H σ ρ Xd DD D e k h q => l c F H σ ρ Xd _ _ e k h fun xs a vs F1 H1 h1 e1 s1 n1 f1 f2 f3 r1 => q.rt (.own xs) (.ref a) σ ρ F1 H1 h1 e1 s1 ⟨a, vs, rfl, f2, e.h0 f1, f3, r1⟩⟩
theorem ds_if {cnd : Expr} {p q : List Stmt} {wt : TW} (hc : DT Z X E cnd wt) (h1 : DSs Z X E p t) (h2 : DSs Z X E q u) : DS Z X E (.If cnd p q pos) (sIf wt t u) := by
  obtain ⟨x, px, lx⟩ := hc
  obtain ⟨y, py, ly⟩ := h1
  obtain ⟨z, pz, lz⟩ := h2
  refine ⟨_, ps_if px py pz, fun c F H σ ρ Xd DD D e k h q => lx c F H σ ρ Xd _ _ e k h fun b F1 H1 h1 e1 s1 n1 => ?_⟩
  cases b with
  | true => exact ly c F1 H1 σ ρ Xd DD D e1 (k.mono s1 n1.nx) h1 (q.mono s1 n1.nx)
  | false => exact lz c F1 H1 σ ρ Xd DD D e1 (k.mono s1 n1.nx) h1 (q.mono s1 n1.nx)
theorem ds_asg {tg : Expr} {g : GW} (h : DE Z X E e w) (hg : DG Z X tg g) (hs : swapsWithSole [tg] e pos.line X.env = pure false := by rfl) (hw : swappedStores [tg] e X.env = pure none := by rfl)
    (h1 : (assignEach [tg] X.env).map (·.2) = [assign tg X.env] := by rfl) : DS Z X E (.Assign [tg] e pos) (sAsg w g) := by
  obtain ⟨x, p, l⟩ := h
  obtain ⟨y, p1, l1⟩ := hg
  refine ⟨_, ps_asg p p1 hs hw h1, fun c F H σ ρ Xd DD D e k h q => l c F H σ ρ Xd _ _ e k h fun d v F1 H1 h1 e1 s1 n1 r1 => ?_⟩
  exact l1 c F1 H1 σ ρ d v _ _ e1 r1 h1 fun σ2 ρ2 F2 H2 h2 e2 s2 n2 => q.nx _ _ F2 H2 h2 e2 (s1.trans s2) (n1.nx.trans n2)
theorem ds_set {x : Str} {pos' : Pos} (i : Nat) (hN : X.N.Nodup) (h : DE Z X E e w) (hi : X.N[i]? = some x := by rfl) (hx : Loc X.env.scope x := by first | exact Or.inl rfl | exact Or.inr rfl) (hs : swapsWith e (some (.Name x pos')) pos.line X.env = pure false := by rfl)
    (hf : X.fn x = true ∨ X.env.scope.names.lookup x = some .local := by first | exact .inl rfl | exact .inr rfl) : DS Z X E (.Assign [.Name x pos'] e pos) (sAsg w (gNm i)) := by
  obtain ⟨y, p, l⟩ := h
  refine ⟨_, ps_set hN hi hx p hs hf, fun c F H σ ρ Xd DD D e k h q => l c F H σ ρ Xd _ _ e k h fun d v F1 H1 h1 e1 s1 n1 r1 => ?_⟩
  exact q.nx _ _ F1 H1 h1 (e1.setD r1) s1 n1.nx
theorem EnvOk.setOwn {i : Nat} {xs : List D} {p : Addr} {vs : List V} {F1 H1 : Hp} (e : EnvOk Z K c F H σ ρ) (e1 : EnvOk Z K c F1 H1 σ ρ) (f1 : H p = none) (f2 : F1 p = none) (f3 : H1 p = some (.lst vs)) (r : RepL K F1 xs vs) : EnvOk Z K c F1 H1 (σ.set i (some (.ref p))) (ρ.set i (.own xs)) :=
  e1.setS (s := .own xs) ⟨p, vs, rfl, f2, e.h0 f1, f3, r⟩ fun ys a _ z j zs _ hj => by
    have z : p = a := by simpa using z
    subst z
    exact e.notOwn (xs := vs) f1 hj
theorem ds_setL {x : Str} {pos' : Pos} {w : LW} (i : Nat) (hN : X.N.Nodup) (h : DLs Z X E e w) (hi : X.N[i]? = some x := by rfl) (hx : Loc X.env.scope x := by first | exact Or.inl rfl | exact Or.inr rfl) (hs : swapsWith e (some (.Name x pos')) pos.line X.env = pure false := by rfl)
    (hf : X.fn x = true ∨ X.env.scope.names.lookup x = some .local := by first | exact .inl rfl | exact .inr rfl) : DS Z X E (.Assign [.Name x pos'] e pos) (sSetL i w) := by
  obtain ⟨y, p, l⟩ := h
  refine ⟨_, ps_set hN hi hx p hs hf, fun c F H σ ρ Xd DD D e k h q => l c F H σ ρ Xd _ _ e k h fun xs a vs F1 H1 h1 e1 s1 n1 f1 f2 f3 r1 => ?_⟩
  exact q.nx _ _ F1 H1 h1 (e.setOwn e1 f1 f2 f3 r1) s1 n1.nx
theorem ds_augI {x : Str} {pos' : Pos} {op : Operator} {f : Int → Int → Int} (i : Nat) (hN : X.N.Nodup) (ho : PIp X op (ipI f)) (h : DE Z X E e w) (hi : X.N[i]? = some x := by rfl) (hx : Loc X.env.scope x := by first | exact Or.inl rfl | exact Or.inr rfl)
    (hf : X.fn x = true ∨ X.env.scope.names.lookup x = some .local := by first | exact .inl rfl | exact .inr rfl) : DS Z X E (.AugAssign (.Name x pos') op e pos) (sAugI i f w) := by
  obtain ⟨y, p, l⟩ := h
  refine ⟨_, ps_aug hN hi hx p ho hf, fun c F H σ ρ Xd DD D e k h q => ?_⟩
  unfold sAugI at h
  cases q1 : ρ[i]? with
  | none => rw [q1] at h; exact h.elim
  | some s =>
    rw [q1] at h
    cases s with
    | d x0 =>
      cases x0 with
      | int n =>
        obtain ⟨o, o1, v, o2, o3⟩ := e.slot i _ q1
        have o3 : v = V.int n := o3
        subst o2 o3
        refine ⟨V.int n, o1, l c F H σ ρ Xd _ _ e k h fun d v F1 H1 h1 e1 s1 n1 r1 => ?_⟩
        cases d with
        | int m =>
          have r1 : v = V.int m := r1
          exact ⟨n, m, rfl, r1, q.nx _ _ F1 H1 h1 (e1.setD (x := .int (f n m)) rfl) s1 n1.nx⟩
        | non => exact h1.elim
        | bl _ => exact h1.elim
        | str _ => exact h1.elim
        | tup _ => exact h1.elim
        | lst _ => exact h1.elim
        | ins _ _ _ => exact h1.elim
      | non => exact h.elim
      | bl _ => exact h.elim
      | str _ => exact h.elim
      | tup _ => exact h.elim
      | lst _ => exact h.elim
      | ins _ _ _ => exact h.elim
    | un => exact h.elim
    | own _ => exact h.elim
    | src => exact h.elim
    | obj _ _ _ => exact h.elim
/-! ### the frame's own lists -/
theorem EnvOk.mutate {i : Nat} {xs ys : List D} {p : Addr} {vs ws : List V} (e : EnvOk Z K c F H σ ρ) (h : ρ[i]? = some (SV.own xs)) (hs : σ[i]? = some (some (V.ref p))) (hp : H p = some (.lst vs)) (hf : F p = none) (h0 : c.H0 p = none) (r : RepL K F ys ws) : EnvOk Z K c F (upd H p (.lst ws)) σ (ρ.set i (.own ys)) := by
  have hl : i < ρ.length := by
    rcases Nat.lt_or_ge i ρ.length with z | z
    · exact z
    · rw [List.getElem?_eq_none_iff.mpr z] at h
      cases h
  have nF : ∀ b o, F b = some o → b ≠ p := fun b o q z => by
    rw [z, hf] at q
    cases q
  refine ⟨by rw [List.length_set]; exact e.len, fun j t h1 => ?_, fun j k us zs hjk h1 h2 => ?_, fun b o q => ?_, e.f0, e.new, fun b o q hb => ?_, fun b q => ?_, fun a fp q => ?_⟩
  · by_cases hj : j = i
    · subst hj
      rw [List.getElem?_set_self hl] at h1
      cases h1
      exact ⟨_, hs, p, ws, rfl, hf, h0, upd_same, r⟩
    · rw [List.getElem?_set_ne (Ne.symm hj)] at h1
      obtain ⟨o, o1, o2⟩ := e.slot j t h1
      refine ⟨o, o1, ?_⟩
      cases t with
      | own us =>
        obtain ⟨a, us', r1, r2, r3, r4, r5⟩ := o2
        refine ⟨a, us', r1, r2, r3, ?_, r5⟩
        have ha : a ≠ p := fun z => e.sep j i us xs hj h1 h (by rw [o1, hs, r1, z])
        rw [upd_ne ha]
        exact r4
      | un => trivial
      | d y => exact o2
      | src => exact o2
      | obj px C fs => exact obj_kx o2 (Same.refl _) (fun a u z _ nl => by rw [upd_ne (fun z2 => nl vs (by rw [z2, hp] at z; exact (Option.some.inj z).symm))]; exact z) fun b z => .inl z
  · have f : ∀ (j : Nat) us, (ρ.set i (SV.own ys))[j]? = some (SV.own us) → ∃ us', ρ[j]? = some (SV.own us') := fun j us h1 => by
      by_cases hj : j = i
      · subst hj
        exact ⟨xs, h⟩
      · rw [List.getElem?_set_ne (Ne.symm hj)] at h1
        exact ⟨us, h1⟩
    obtain ⟨u1, h1⟩ := f j us h1
    obtain ⟨u2, h2⟩ := f k zs h2
    exact e.sep j k u1 u2 hjk h1 h2
  · rw [upd_ne (nF b o q)]
    exact e.fh b o q
  · have hb2 : b ≠ p := fun z => by rw [z, h0] at q; cases q
    rw [upd_ne hb2]
    exact e.keep b o q hb
  · have hb2 : b ≠ p := fun z => by rw [z, h0] at q; exact q rfl
    rw [upd_ne hb2]
    exact e.all b q
  · obtain ⟨q1, q2⟩ := e.src a fp q
    refine ⟨Z.loc q1 fun b hb => ?_, q2⟩
    have hb2 : b ≠ p := fun z => (q2 b hb).2 (by rw [z]; exact h0)
    rw [upd_ne hb2]
theorem EnvOk.own_at {i : Nat} {xs : List D} (e : EnvOk Z K c F H σ ρ) (h : ρ[i]? = some (SV.own xs)) : ∃ p vs, σ[i]? = some (some (V.ref p)) ∧ F p = none ∧ c.H0 p = none ∧ H p = some (.lst vs) ∧ RepL K F xs vs := by
  obtain ⟨o, o1, a, vs, r1, r2, r3, r4, r5⟩ := e.slot i _ h
  exact ⟨a, vs, by rw [o1, r1], r2, r3, r4, r5⟩
theorem nx_mut {H : Hp} {p : Addr} {o : HO} : Nx H (upd H p o) := fun b h => by
  by_cases hb : b = p
  · subst hb
    rw [upd_same]
    simp
  · rw [upd_ne hb]
    exact h
theorem own_cases {i : Nat} {P : List D → Prop} (h : match ρ[i]? with
  | some (SV.own xs) => P xs
  | _ => False) : ∃ xs, ρ[i]? = some (SV.own xs) ∧ P xs := by
  cases q1 : ρ[i]? with
  | none => rw [q1] at h; exact h.elim
  | some s =>
    rw [q1] at h
    cases s with
    | own xs => exact ⟨xs, rfl, h⟩
    | un => exact h.elim
    | src => exact h.elim
    | d _ => exact h.elim
    | obj _ _ _ => exact h.elim
theorem ds_append {x : Str} {p p1 p2 p3 : Pos} (i : Nat) (h : DE Z X E e w) (hN : X.N[i]? = some x := by rfl) (hv : Vis X.env.scope x := by first | exact Or.inl rfl | exact Or.inr (Or.inl rfl) | exact Or.inr (Or.inr rfl)) (hd : (x == ("__debug__" : Str)) = false := by decide)
    (hcd : (x == ("__classdict__" : Str)) = false := by decide) (hpe : ∀ {ta te : TE}, PE X (.Name x p) ta → PE X e te → PE X (.Call (.Attribute (.Name x p) "append" p1) [e] [] p2) (tBM X.K "list" rAppend ta (tCons te tNil)) := by
      exact fun ha he => pe_bm PySem.F.plainAttrs_list PySem.F.slot_list_append PySem.F.type_list_append mt_append ha (pa_cons he pa_nil)) (hs : swapsWith (.Call (.Attribute (.Name x p) "append" p1) [e] [] p2) none p3.line X.env = pure false := by rfl) :
    DS Z X E (.Expr (.Call (.Attribute (.Name x p) "append" p1) [e] [] p2) p3) (sAppend i w) := by
  obtain ⟨y, py, l⟩ := h
  refine ⟨_, ps_expr (hpe (pe_var hN hv hd hcd) py) hs, fun c F H σ ρ Xd DD D e k h q => ?_⟩
  obtain ⟨xs, q1, h⟩ := own_cases h
  obtain ⟨a, vs, h2, h3, h4, h5, h6⟩ := e.own_at q1
  refine ⟨.ref a, h2, .inl ⟨rfl, vs, SqL.of h5⟩, ?_⟩
  refine l c F H σ ρ Xd _ _ e k h fun d v F1 H1 h1 e1 s1 n1 r1 => ?_
  obtain ⟨a', ws, h2', h3', h4', h5', h6'⟩ := e1.own_at q1
  rw [h2] at h2'
  cases h2'
  exact ⟨a, ws, v, rfl, rfl, h5', by rw [h6'.len]; exact szlt h1.1, q.nx _ _ F1 _ h1.2 (e1.mutate q1 h2 h5' h3' h4' (h6'.app (RepL.one r1))) s1 (n1.nx.trans nx_mut)⟩
theorem ixN_len {n : Nat} {k : Int} {j : Nat} (h : ixN n k = some j) : j < n := (ixN_seq h).2.1
theorem ds_setItem {x : Str} {p p1 : Pos} {ke : Expr} {wk : EW} (i : Nat) (h : DE Z X E e w) (hk : DE Z X E ke wk) (hN : X.N[i]? = some x := by rfl) (hv : Vis X.env.scope x := by first | exact Or.inl rfl | exact Or.inr (Or.inl rfl) | exact Or.inr (Or.inr rfl)) (hd : (x == ("__debug__" : Str)) = false := by decide)
    (hcd : (x == ("__classdict__" : Str)) = false := by decide)
    (hps : ∀ {to ti te : TE}, PE X (.Name x p) to → PE X ke ti → PE X e te → PS X (.Assign [.Subscript (.Name x p) ke p1] e pos) (tAsg te (gSub to ti rSetL)) := by exact fun h1 h2 h3 => ps_asg h3 (pg_sub h1 h2 set_list)) :
    DS Z X E (.Assign [.Subscript (.Name x p) ke p1] e pos) (sSetItem i wk w) := by
  obtain ⟨y, py, l⟩ := h
  obtain ⟨y2, py2, l2⟩ := hk
  refine ⟨_, hps (pe_var hN hv hd hcd) py2 py, fun c F H σ ρ Xd DD D e k h q => ?_⟩
  obtain ⟨xs, q1, h⟩ := own_cases h
  refine l c F H σ ρ Xd _ _ e k h fun d v F1 H1 h1 e1 s1 n1 r1 => ?_
  obtain ⟨a, ws, h2, h3, h4, h5, h6⟩ := e1.own_at q1
  refine ⟨.ref a, h2, ?_⟩
  refine l2 c F1 H1 σ ρ Xd _ _ e1 (k.mono s1 n1.nx) h1 fun d2 v2 F2 H2 h1 e2 s2 n2 r2 => ?_
  obtain ⟨a', ws, h2', h3, h4, h5, h6⟩ := e2.own_at q1
  rw [h2] at h2'
  cases h2'
  cases d2 with
  | int m =>
    have r2 : v2 = V.int m := r2
    cases q3 : ixN xs.length m with
    | none =>
      have h1 : (match ixN xs.length m with
        | some n => DD.nx (ρ.set i (.own (xs.set n d)))
        | none => False) := h1
      rw [q3] at h1
      exact h1.elim
    | some j =>
      have h1 : (match ixN xs.length m with
        | some n => DD.nx (ρ.set i (.own (xs.set n d)))
        | none => False) := h1
      rw [q3] at h1
      exact ⟨a, ws, m, j, rfl, r2, h5, by rw [h6.len]; exact q3, q.nx _ _ F2 _ h1 (e2.mutate q1 h2 h5 h3 h4 (h6.set j (Rep.mono s2 _ _ r1))) (s1.trans s2) ((n1.nx.trans n2.nx).trans nx_mut)⟩
  | non => exact h1.elim
  | bl _ => exact h1.elim
  | str _ => exact h1.elim
  | tup _ => exact h1.elim
  | lst _ => exact h1.elim
  | ins _ _ _ => exact h1.elim
theorem ds_pop {x : Str} {p p1 p2 p3 : Pos} (i : Nat) (hN : X.N[i]? = some x := by rfl) (hv : Vis X.env.scope x := by first | exact Or.inl rfl | exact Or.inr (Or.inl rfl) | exact Or.inr (Or.inr rfl)) (hd : (x == ("__debug__" : Str)) = false := by decide)
    (hcd : (x == ("__classdict__" : Str)) = false := by decide) (hpe : ∀ {ta : TE}, PE X (.Name x p) ta → PE X (.Call (.Attribute (.Name x p) "pop" p1) [] [] p2) (tBM0 X.K "list" rPop ta) := by
      exact fun ha => pe_bm0 PySem.F.plainAttrs_list PySem.F.slot_list_pop PySem.F.type_list_pop mt_pop ha) (hs : swapsWith (.Call (.Attribute (.Name x p) "pop" p1) [] [] p2) none p3.line X.env = pure false := by rfl) :
    DS Z X E (.Expr (.Call (.Attribute (.Name x p) "pop" p1) [] [] p2) p3) (sPop i) := by
  refine ⟨_, ps_expr (hpe (pe_var hN hv hd hcd)) hs, fun c F H σ ρ Xd DD D e k h q => ?_⟩
  obtain ⟨xs, q1, h⟩ := own_cases h
  obtain ⟨a, vs, h2, h3, h4, h5, h6⟩ := e.own_at q1
  have hl : 0 < vs.length := by
    rw [h6.len]
    exact List.length_pos_iff.mpr h.1
  exact ⟨.ref a, h2, .inl ⟨rfl, vs, SqL.of h5⟩, a, vs, vs[vs.length - 1]'(by omega), rfl, rfl, h5, List.getElem?_eq_getElem (by omega), q.nx _ _ F _ h.2 (e.mutate q1 h2 h5 h3 h4 h6.dropLast) (Same.refl _) nx_mut⟩
/-- the own list is data from here on -/
theorem EnvOk.freezeS {i : Nat} {xs : List D} (e : EnvOk Z K c F H σ ρ) (h : ρ[i]? = some (SV.own xs)) : ∃ F', Same F F' ∧ EnvOk Z K c F' H σ (ρ.set i (.d (.lst xs))) := by
  obtain ⟨a, vs, h2, h3, h4, h5, h6⟩ := e.own_at h
  have sF : Same F (upd F a (.lst vs)) := fun b u hb => by
    rw [upd_ne (ne_of_none hb h3)]
    exact hb
  have w : EnvOk Z K c F H σ (ρ.set i .un) := by
    refine ⟨by rw [List.length_set]; exact e.len, fun j t h1 => ?_, fun j k us zs hjk h1 h2 => ?_, e.fh, e.f0, e.new, e.keep, e.all, e.src⟩
    · by_cases hj : j = i
      · subst hj
        have hl : j < ρ.length := by
          rcases Nat.lt_or_ge j ρ.length with z | z
          · exact z
          · rw [List.getElem?_eq_none_iff.mpr z] at h
            cases h
        rw [List.getElem?_set_self hl] at h1
        cases h1
        exact ⟨_, h2, trivial⟩
      · rw [List.getElem?_set_ne (Ne.symm hj)] at h1
        exact e.slot j t h1
    · have f : ∀ (j : Nat) us, (ρ.set i SV.un)[j]? = some (SV.own us) → ρ[j]? = some (SV.own us) := fun j us h1 => by
        by_cases hj : j = i
        · subst hj
          rcases Nat.lt_or_ge j ρ.length with z | z
          · rw [List.getElem?_set_self z] at h1
            cases h1
          · rw [List.getElem?_eq_none_iff.mpr (by rw [List.length_set]; exact z)] at h1
            cases h1
        · rw [List.getElem?_set_ne (Ne.symm hj)] at h1
          exact h1
      exact e.sep j k us zs hjk (f j us h1) (f k zs h2)
  have w2 := w.freeze h3 h4 h5 (fun j ys hj z => by
    by_cases hji : j = i
    · subst hji
      rcases Nat.lt_or_ge j ρ.length with q | q
      · rw [List.getElem?_set_self q] at hj
        cases hj
      · rw [List.getElem?_eq_none_iff.mpr (by rw [List.length_set]; exact q)] at hj
        cases hj
    · rw [List.getElem?_set_ne (Ne.symm hji)] at hj
      exact e.sep j i ys xs hji hj h (z.trans h2.symm))
  refine ⟨_, sF, ?_⟩
  have w3 := w2.setD (i := i) (x := .lst xs) (v := .ref a) ⟨a, vs, rfl, SqL.of upd_same, RepL.mono sF _ _ h6⟩
  rw [List.set_set] at w3
  have e3 : σ.set i (some (V.ref a)) = σ := by
    apply List.ext_getElem?
    intro j
    by_cases hj : j = i
    · subst hj
      rw [List.getElem?_set_self (List.getElem?_eq_some_iff.mp h2).1, h2]
    · rw [List.getElem?_set_ne (Ne.symm hj)]
  rw [e3] at w3
  exact w3
theorem dss_freeze {sts : List Stmt} (i : Nat) (h : DSs Z X E sts t) : DSs Z X E sts (sFreeze i t) := by
  obtain ⟨y, p, l⟩ := h
  refine ⟨y, p, fun c F H σ ρ Xd DD D e k h q => ?_⟩
  unfold sFreeze at h
  cases q1 : ρ[i]? with
  | none => rw [q1] at h; exact h.elim
  | some s =>
    rw [q1] at h
    cases s with
    | own xs =>
      obtain ⟨F', s1, e1⟩ := e.freezeS q1
      exact l c F' H σ _ Xd DD D e1 (k.mono s1 (Nx.refl _)) h (q.mono s1 (Nx.refl _))
    | d _ => exact l c F H σ ρ Xd DD D e k h q
    | un => exact h.elim
    | src => exact h.elim
    | obj _ _ _ => exact h.elim
theorem de_ixOwn {x : Str} {p : Pos} (i : Nat) (hb : DE Z X E b wb) (hs : PlainIx b := by exact fun _ _ => rfl) (hN : X.N[i]? = some x := by rfl) (hv : Vis X.env.scope x := by first | exact Or.inl rfl | exact Or.inr (Or.inl rfl) | exact Or.inr (Or.inr rfl)) (hd : (x == ("__debug__" : Str)) = false := by decide)
    (hcd : (x == ("__classdict__" : Str)) = false := by decide) : DE Z X E (.Subscript (.Name x p) b pos) (wIxOwn i wb) := by
  obtain ⟨y, py, l⟩ := hb
  refine ⟨_, pe_ix ix_list (pe_var hN hv hd hcd) py hs, fun c F H σ ρ Xd Qd Qv e k h q => ?_⟩
  obtain ⟨xs, q1, h⟩ := own_cases h
  obtain ⟨a, vs, h2, h3, h4, h5, h6⟩ := e.own_at q1
  refine ⟨.ref a, h2, ?_⟩
  refine l c F H σ ρ Xd _ _ e k h fun d v F1 H1 h1 e1 s1 n1 r1 => ?_
  obtain ⟨a', ws, h2', h3', h4', h5', h6'⟩ := e1.own_at q1
  rw [h2] at h2'
  cases h2'
  cases d with
  | int m =>
    have r1 : v = V.int m := r1
    cases q3 : atI xs m with
    | none =>
      have h1 : (match atI xs m with
        | some d => Qd d
        | none => False) := h1
      rw [q3] at h1
      exact h1.elim
    | some d =>
      have h1 : (match atI xs m with
        | some d => Qd d
        | none => False) := h1
      rw [q3] at h1
      obtain ⟨u, z1, z2⟩ := atI_rep h6' q3
      exact ⟨a, ws, m, u, rfl, r1, SqL.of h5', z1, q d u F1 H1 h1 e1 s1 n1 z2⟩
  | non => exact h1.elim
  | bl _ => exact h1.elim
  | str _ => exact h1.elim
  | tup _ => exact h1.elim
  | lst _ => exact h1.elim
  | ins _ _ _ => exact h1.elim
theorem elk0 {F H : Hp} : ELk Z K c F H E (fun _ _ => False) := fun _ _ _ _ _ _ _ z => z.elim
/-- behind an expression that was reckoned with slot i as data, its value being no object: all is as it was -/
theorem EnvOk.unfreeze {i : Nat} {xs : List D} {F' H' : Hp} (e : EnvOk Z K c F H σ ρ) (h : ρ[i]? = some (SV.own xs)) {Fa : Hp} (n : Kx c.fp Fa H F' H') (e' : EnvOk Z K c F' H' σ (ρ.set i (.d (.lst xs)))) : EnvOk Z K c F H' σ ρ := by
  have up : ∀ a u, H a = some u → c.H0 a = none → H' a = some u := fun a u q q0 => n.kp a u q fun z => by
    obtain ⟨x, fp, z1, z2⟩ := Cfg.of_fp z
    exact (e.src x fp z1).2 a z2 |>.2 q0
  refine ⟨e.len, fun j t h1 => ?_, e.sep, fun b u hb => ?_, e.f0, e.new, e'.keep, e'.all, fun x fp q => ⟨(e'.src x fp q).1, (e.src x fp q).2⟩⟩
  · obtain ⟨o, o1, o2⟩ := e.slot j t h1
    refine ⟨o, o1, ?_⟩
    cases t with
    | own ys =>
      obtain ⟨a, vs, r1, r2, r3, r4, r5⟩ := o2
      exact ⟨a, vs, r1, r2, r3, up _ _ r4 r3, r5⟩
    | un => trivial
    | d y => exact o2
    | src => exact o2
    | obj px C fs => exact obj_kx o2 (Same.refl _) (fun a u z z0 _ => up _ _ z z0) fun b z => .inl z
  · refine n.kp b u (e.fh b u hb) fun z => ?_
    obtain ⟨x, fp, z1, z2⟩ := Cfg.of_fp z
    rw [((e.src x fp z1).2 b z2).1] at hb
    cases hb
theorem rep_scalar {F F' : Hp} {d : D} {v : V} (h : scalarD d) (r : Rep K F d v) : Rep K F' d v := by
  cases d with
  | non => exact r
  | bl _ => exact r
  | int _ => exact r
  | str _ => exact r
  | tup _ => exact h.elim
  | lst _ => exact h.elim
  | ins _ _ _ => exact h.elim
theorem de_borrow (i : Nat) (h : DE Z X E e w) : DE Z X E e (wBorrow i w) := by
  obtain ⟨y, py, l⟩ := h
  refine ⟨y, py, fun c F H σ ρ Xd Qd Qv e k h q => ?_⟩
  obtain ⟨xs, q1, h⟩ := own_cases h
  obtain ⟨F', s1, e1⟩ := e.freezeS q1
  refine l c F' H σ _ _ _ _ e1 elk0 h fun d v F1 H1 h1 e2 s2 n2 r1 => ?_
  exact q d v F H1 h1.2 (e.unfreeze q1 n2 e2) (Same.refl _) ⟨n2.nx, n2.kp, fun _ z => .inl z⟩ (rep_scalar h1.1 r1)
theorem dt_borrow {w : TW} (i : Nat) (h : DT Z X E e w) : DT Z X E e (tBorrow i w) := by
  obtain ⟨y, py, l⟩ := h
  refine ⟨y, py, fun c F H σ ρ Xd Qd Qv e k h q => ?_⟩
  obtain ⟨xs, q1, h⟩ := own_cases h
  obtain ⟨F', s1, e1⟩ := e.freezeS q1
  refine l c F' H σ _ _ _ _ e1 elk0 h fun d F1 H1 h1 e2 s2 n2 => ?_
  exact q d F H1 h1 (e.unfreeze q1 n2 e2) (Same.refl _) ⟨n2.nx, n2.kp, fun _ z => .inl z⟩
end
end DL
set_option linter.all false
set_option autoImplicit false
set_option maxHeartbeats 2000000
/-! Loops and comprehensions. -/
namespace DL
open PySem PySem.Spec PyProof.Rows L2

/-- what an iterator gives, turn by turn -/
def ItemsOk (K : PySem.W.Frag) (F : Hp) (J : It) (ds : List D) : Prop := ∃ (G : Hp → Prop) (Y : Nat → Hp → V → Hp → Prop), Walk J ds.length G Y ∧ (∀ H, Same F H → G H) ∧
  ∀ (i : Nat) (d : D) (H1 : Hp) (x : V) (H2 F1 : Hp), ds[i]? = some d → Y i H1 x H2 → Same F F1 → Same F1 H1 → ∃ F2, Ext F1 H1 F2 H2 ∧ Rep K F2 d x
def LI (Z : SrcK) (K : PySem.W.Frag) (E : L2.St → XK) (t : TI) (w : IW) : Prop :=
  ∀ (c : Cfg) (F H : Hp) (σ : L2.St) (ρ : Env) (Xd : XD) (Qd : List D → Prop) (R : It → Hp → Prop), EnvOk Z K c F H σ ρ → ELk Z K c F H E Xd → w Xd ρ Qd →
    (∀ ds J F' H', Qd ds → EnvOk Z K c F' H' σ ρ → Same F F' → Kx c.fp F H F' H' → ItemsOk K F' J ds → R J H') → t σ H R
def DI (Z : SrcK) (X : Cx) (E : L2.St → XK) (tg iter : Expr) (w : IW) : Prop := ∃ t, PI X tg iter t ∧ LI Z X.K E t w

section
variable {Z : SrcK} {X : Cx} {E : L2.St → XK} {K : PySem.W.Frag} {a b e tg : Expr} {wa wb wc : EW} {pos : Pos} {c : Cfg} {F H : Hp} {σ : L2.St} {ρ : Env}
def iSeqT (K : PySem.W.Frag) (tl : TE) : TI := fun σ H R => tl σ H fun x H1 => (∃ a, x = .ref a ∧ (∃ xs, SqL K H1 a xs) ∧ R (Itl K a) H1) ∨ (∃ a, x = .ref a ∧ (∃ xs, SqT K H1 a xs) ∧ R (Itt K a) H1) ∨ ∃ s, x = .str s ∧ R (Its s) H1
theorem pi_seqT {l : Expr} {tl : TE} (hl : PE X l tl) : PI X tg l (iSeqT X.K tl) := by
  refine ⟨fun pins s σ H R I h => ?_⟩
  refine thn (hl.run pins s σ H _ I h) fun v s1 ⟨x, H1, I1, r1, q1⟩ => ?_
  rcases q1 with ⟨a, e, ⟨xs, hq⟩, q⟩ | ⟨a, e, ⟨xs, hq⟩, q⟩ | ⟨y, ex, q⟩
  · subst e
    cases r1
    obtain ⟨its, rv, p, hz⟩ := I1.list hq
    refine wpAny_pyIter_list p.isList ?_
    refine ⟨s1.heap.objs.size, [s1.heap.objs.size], _, _, H1, rfl, I1.kept (t' := s1.toks) fun b o e => Heap.get?_push_of_some _ e, turn_list a _, ⟨_, Heap.get?_push_size _ rfl, rfl, rfl⟩, fun b hb => ?_, q⟩
    have e : b = s1.heap.objs.size := by simpa using hb
    subst e
    exact I1.fpOk (Nat.le_refl _) (I1.hok.fresh (Nat.le_refl _))
  · subst e
    cases r1
    obtain ⟨its, rv, p, hz⟩ := I1.tuple hq
    refine wpAny_pyIter_tuple (show s1.heap.IsTuple a its.toArray from p) ?_
    refine ⟨s1.heap.objs.size, [s1.heap.objs.size], _, _, H1, rfl, I1.kept (t' := s1.toks) fun b o e => Heap.get?_push_of_some _ e, turn_tuple a _, ⟨_, Heap.get?_push_size _ rfl, rfl, rfl⟩, fun b hb => ?_, q⟩
    have e : b = s1.heap.objs.size := by simpa using hb
    subst e
    exact I1.fpOk (Nat.le_refl _) (I1.hok.fresh (Nat.le_refl _))
  · subst ex
    obtain ⟨t, rfl⟩ := r1
    cases ha : y.cps.all (· < 128)
    · exact wpAny_pyIter_wide ha (pi_one (tk := s1.toks) I1 _ (turn_str _ y t "str_iterator" (.inr rfl)) ⟨_, Heap.get?_push_size _ rfl, rfl, rfl⟩ q)
    · exact wpAny_pyIter_ascii ha (pi_one (tk := s1.toks) I1 _ (turn_str _ y t "str_ascii_iterator" (.inl rfl)) ⟨_, Heap.get?_push_size _ rfl, rfl, rfl⟩ q)
theorem items_list {a : Addr} {xs : List D} {vs : List V} (h : SqL K F a vs) (r : RepL K F xs vs) : ItemsOk K F (Itl K a) xs := by
  refine ⟨fun H => SqL K H a vs, YAt vs, r.len ▸ walk_list, fun H s => same_l s h, fun i d H1 x H2 F1 hd y s1 s2 => ?_⟩
  obtain ⟨e1, e2⟩ := y
  subst e1
  obtain ⟨v, h1, h2⟩ := r.get hd
  rw [e2] at h1
  cases h1
  exact ⟨F1, Ext.refl s2, Rep.mono s1 _ _ h2⟩
theorem items_tup {a : Addr} {xs : List D} {vs : List V} (h : SqT K F a vs) (r : RepL K F xs vs) : ItemsOk K F (Itt K a) xs := by
  refine ⟨fun H => SqT K H a vs, YAt vs, r.len ▸ walk_tup, fun H s => same_t s h, fun i d H1 x H2 F1 hd y s1 s2 => ?_⟩
  obtain ⟨e1, e2⟩ := y
  subst e1
  obtain ⟨v, h1, h2⟩ := r.get hd
  rw [e2] at h1
  cases h1
  exact ⟨F1, Ext.refl s2, Rep.mono s1 _ _ h2⟩
theorem items_str {z : Str} : ItemsOk K F (Its z) (z.cps.toList.map fun c => .str ⟨#[c]⟩) := by
  refine ⟨fun _ => True, _, (by
    have e : (z.cps.toList.map fun c => (D.str ⟨#[c]⟩)).length = z.cps.size := by simp
    rw [e]
    exact walk_str), fun _ _ => trivial, fun i d H1 x H2 F1 hd y s1 s2 => ?_⟩
  obtain ⟨e1, cc, e2, e3⟩ := y
  subst e1
  rw [List.getElem?_map] at hd
  have e4 : z.cps.toList[i]? = some cc := by simpa using e2
  rw [e4] at hd
  cases hd
  exact ⟨F1, Ext.refl s2, e3⟩
theorem di_seq (h : DE Z X E e wa) : DI Z X E tg e (iSeq wa) := by
  obtain ⟨t, p, l⟩ := h
  refine ⟨_, pi_seqT p, fun c F H σ ρ Xd Qd R e k h q => ?_⟩
  refine l c F H σ ρ Xd _ _ e k h fun d v F1 H1 h1 e1 s1 n1 r1 => ?_
  cases d with
  | lst xs =>
    obtain ⟨a, vs, e2, h2, h3⟩ := r1
    exact .inl ⟨a, e2, ⟨vs, same_l e1.fh h2⟩, q xs _ F1 H1 h1 e1 s1 n1 (items_list h2 h3)⟩
  | tup xs =>
    obtain ⟨a, vs, e2, h2, h3⟩ := r1
    exact .inr (.inl ⟨a, e2, ⟨vs, same_t e1.fh h2⟩, q xs _ F1 H1 h1 e1 s1 n1 (items_tup h2 h3)⟩)
  | str z => exact .inr (.inr ⟨z, r1, q _ _ F1 H1 h1 e1 s1 n1 items_str⟩)
  | non => exact h1.elim
  | bl _ => exact h1.elim
  | int _ => exact h1.elim
  | ins _ _ _ => exact h1.elim
theorem rangeD_len {lo : Int} {n : Nat} : (rangeD lo n).length = n := by simp [rangeD]
theorem rangeD_get {lo : Int} {n i : Nat} {d : D} (h : (rangeD lo n)[i]? = some d) : d = .int (lo + (i : Int)) ∧ i < n := by
  unfold rangeD at h
  rw [List.getElem?_map] at h
  by_cases hi : i < n
  · rw [List.getElem?_eq_getElem (by simpa using hi)] at h
    simp only [List.getElem_range, Option.map_some, Option.some.injEq] at h
    exact ⟨h.symm, hi⟩
  · rw [List.getElem?_eq_none_iff.mpr (by simp; omega)] at h
    cases h
theorem items_range {lo : Int} {n : Nat} : ItemsOk K F (Itr lo n) (rangeD lo n) := by
  refine ⟨fun _ => True, YFn fun i => .int (lo + i), rangeD_len.symm ▸ walk_range, fun _ _ => trivial, fun i d H1 x H2 F1 hd y s1 s2 => ?_⟩
  obtain ⟨e1, e2⟩ := y
  subst e1
  rw [(rangeD_get hd).1]
  exact ⟨F1, Ext.refl s2, e2⟩
theorem di_range1 {p : Pos} (hm : X.mg "range" = none) (ha : DE Z X E a wa) (hg : Gl X "range" := by rfl) (hs : starEach [a] X.env = [(false, eval a X.env)] := by rfl) : DI Z X E tg (.Call (.Name "range" p) [a] [] pos) (iRange1 wa) := by
  obtain ⟨t, pa, l⟩ := ha
  refine ⟨_, pi_range1 hg hm (pa_cons pa pa_nil hs) hs, fun c F H σ ρ Xd Qd R e k h q => ?_⟩
  refine l c F H σ ρ Xd _ _ e k h fun d v F1 H1 h1 e1 s1 n1 r1 => ?_
  cases d with
  | int n =>
    have r1 : v = V.int n := r1
    exact ⟨n, by rw [r1], h1.1.1, h1.1.2, q _ _ F1 H1 h1.2 e1 s1 n1 items_range⟩
  | non => exact h1.elim
  | bl _ => exact h1.elim
  | str _ => exact h1.elim
  | tup _ => exact h1.elim
  | lst _ => exact h1.elim
  | ins _ _ _ => exact h1.elim
theorem di_range2 {p : Pos} (hm : X.mg "range" = none) (ha : DE Z X E a wa) (hb : DE Z X E b wb) (hg : Gl X "range" := by rfl) (hs : starEach [a, b] X.env = [(false, eval a X.env), (false, eval b X.env)] := by rfl) (hs2 : starEach [b] X.env = [(false, eval b X.env)] := by rfl) :
    DI Z X E tg (.Call (.Name "range" p) [a, b] [] pos) (iRange2 wa wb) := by
  obtain ⟨t, pa, l⟩ := ha
  obtain ⟨u, pb, l2⟩ := hb
  refine ⟨_, pi_range2 hg hm (pa_cons pa (pa_cons pb pa_nil hs2) (by rw [hs, hs2])) hs hs2, fun c F H σ ρ Xd Qd R e k h q => ?_⟩
  refine l c F H σ ρ Xd _ _ e k h fun d v F1 H1 h1 e1 s1 n1 r1 => ?_
  refine l2 c F1 H1 σ ρ Xd _ _ e1 (k.mono s1 n1.nx) h1 fun d2 v2 F2 H2 h2 e2 s2 n2 r2 => ?_
  cases d with
  | int m =>
    cases d2 with
    | int n =>
      have r1 : v = V.int m := r1
      have r2 : v2 = V.int n := r2
      subst r1 r2
      exact ⟨m, n, rfl, h2.1, q _ _ F2 H2 h2.2 e2 (s1.trans s2) (n1.trans n2) items_range⟩
    | non => exact h2.elim
    | bl _ => exact h2.elim
    | str _ => exact h2.elim
    | tup _ => exact h2.elim
    | lst _ => exact h2.elim
    | ins _ _ _ => exact h2.elim
  | non => exact h2.elim
  | bl _ => exact h2.elim
  | str _ => exact h2.elim
  | tup _ => exact h2.elim
  | lst _ => exact h2.elim
  | ins _ _ _ => exact h2.elim
/-! ### for -/
theorem ls_for {ti : TI} {g : TG} {tb : TS} {wi : IW} {gw : GW} {wb : SW} (hi : LI Z K E ti wi) (hg : LG Z K g gw) (hb : LS Z K E tb wb) : LS Z K E (tFor ti g tb) (sFor wi gw wb) := fun c F H σ ρ Xd DD D e l h q => by
  refine hi c F H σ ρ Xd _ _ e l h fun ds J F1 H1 h1 e1 s1 n1 it => ?_
  obtain ⟨G, Y, w, hG, hY⟩ := it
  refine for_it w (fun i σ' H' => ∃ F' ρ', EnvOk Z K c F' H' σ' ρ' ∧ Same F1 F' ∧ Nx H1 H' ∧ forGo gw wb Xd DD (ds.drop i) ρ') ⟨F1, ρ, e1, Same.refl _, Nx.refl _, h1⟩ (fun i σ' H' _ ⟨F', ρ', e', s', _, _⟩ => hG _ (s'.trans e'.fh)) ?_ ?_
  · rintro i x σ' Ha Hb hi' ⟨F', ρ', e', s', n', k⟩ y
    obtain ⟨F2, x2, r2⟩ := hY i ds[i] Ha x Hb F' (List.getElem?_eq_getElem hi') y s' e'.fh
    rw [List.drop_eq_getElem_cons hi'] at k
    have e2 := e'.ext x2
    refine hg c F2 Hb σ' ρ' ds[i] x _ _ e2 r2 k fun σ3 ρ3 F3 H3 h3 e3 s3 n3 => ?_
    have sF : Same F1 F3 := (s'.trans x2.ff).trans s3
    have nF : Nx H1 H3 := (n'.trans (Same.nx x2.hh)).trans n3
    exact hb c F3 H3 σ3 ρ3 Xd _ _ e3 (l.mono (s1.trans sF) (n1.nx.trans nF)) h3 ⟨fun σ4 ρ4 F4 H4 z1 z2 z3 z4 => ⟨F4, ρ4, z2, sF.trans z3, nF.trans z4, z1⟩, (q.mono (s1.trans sF) (n1.nx.trans nF)).rt, (q.mono (s1.trans sF) (n1.nx.trans nF)).nx,
      fun σ4 ρ4 F4 H4 z1 z2 z3 z4 => ⟨F4, ρ4, z2, sF.trans z3, nF.trans z4, z1⟩⟩
  · rintro σ' H' ⟨F', ρ', e', s', n', k⟩
    rw [List.drop_length] at k
    exact q.nx σ' ρ' F' H' k e' (s1.trans s') (n1.nx.trans n')
theorem ds_for {iter : Expr} {body : List Stmt} {wi : IW} {gw : GW} {wb : SW} (hp : PassesOwn (model X.prog X.w) X.A X.env X.xe) (hi : DI Z X E tg iter wi) (hg : DG Z X tg gw) (hb : DSs Z X E body wb) (hc : X.calm = true := by rfl)
    (hs : ∀ x, foldedSetIterable iter X.env x = pure x := by intro _; rfl) : DS Z X E (.For tg iter body [] pos) (sFor wi gw wb) := by
  obtain ⟨t, p, l⟩ := hi
  obtain ⟨t1, p1, l1⟩ := hg
  obtain ⟨t2, p2, l2⟩ := hb
  exact ⟨_, ps_for hp hc p p1 p2 hs, ls_for l l1 l2⟩
/-! ### while -/
theorem ls_while {tc : TT} {tb : TS} {wc : TW} {wb : SW} (hc : LT Z K E tc wc) (hb : LS Z K E tb wb) : LS Z K E (tWhile tc tb) (sWhile wc wb) := fun c F H σ ρ Xd DD D e l h q => by
  obtain ⟨I, ⟨m0, i0⟩, step⟩ := h
  refine ⟨fun m σ' H' => ∃ F' ρ', EnvOk Z K c F' H' σ' ρ' ∧ Same F F' ∧ Nx H H' ∧ I m ρ', ⟨m0, F, ρ, e, Same.refl _, Nx.refl _, i0⟩, ?_⟩
  rintro m σ' H' ⟨F', ρ', e', s', n', i'⟩
  refine hc c F' H' σ' ρ' Xd _ _ e' (l.mono s' n') (step m ρ' i') fun b F1 H1 h1 e1 s1 n1 => ?_
  have sF := s'.trans s1
  have nF := n'.trans n1.nx
  cases b with
  | true =>
    rw [if_pos rfl] at h1 ⊢
    refine ⟨fun σ4 H4 => ∃ m', m' < m ∧ ∃ F4 ρ4, EnvOk Z K c F4 H4 σ4 ρ4 ∧ Same F F4 ∧ Nx H H4 ∧ I m' ρ4, fun σ4 H4 z => z, ?_⟩
    exact hb c F1 H1 σ' ρ' Xd _ _ e1 (l.mono sF nF) h1 ⟨fun σ4 ρ4 F4 H4 ⟨m', z0, z1⟩ z2 z3 z4 => ⟨m', z0, F4, ρ4, z2, sF.trans z3, nF.trans z4, z1⟩, (q.mono sF nF).rt, (q.mono sF nF).nx,
      fun σ4 ρ4 F4 H4 ⟨m', z0, z1⟩ z2 z3 z4 => ⟨m', z0, F4, ρ4, z2, sF.trans z3, nF.trans z4, z1⟩⟩
  | false =>
    rw [if_neg Bool.false_ne_true] at h1 ⊢
    exact q.nx σ' ρ' F1 H1 h1 e1 sF nF
theorem ds_while {cnd : Expr} {body : List Stmt} {wc : TW} {wb : SW} (hp : PassesOwn (model X.prog X.w) X.A X.env X.xe) (hc : DT Z X E cnd wc) (hb : DSs Z X E body wb) : DS Z X E (.While cnd body [] pos) (sWhile wc wb) := by
  obtain ⟨t, p, l⟩ := hc
  obtain ⟨t1, p1, l1⟩ := hb
  exact ⟨_, ps_while hp p p1, ls_while l l1⟩
/-! ### comprehensions -/
theorem EnvOk.wipe (e : EnvOk Z K c F H σ ρ) : ∀ vs : List Nat, EnvOk Z K c F H (L2.wipe σ vs) (wipeW ρ vs)
  | [] => e
  | v :: vs => by
    have w := EnvOk.wipe e vs
    refine ⟨by
      show ((L2.wipe σ vs).set v none).length = ((wipeW ρ vs).set v .un).length
      rw [List.length_set, List.length_set]; exact w.len, fun j t h1 => ?_, fun j k us zs hjk h1 h2 => ?_, w.fh, w.f0, w.new, w.keep, w.all, w.src⟩
    · have h1 : ((wipeW ρ vs).set v SV.un)[j]? = some t := h1
      show ∃ o, ((L2.wipe σ vs).set v none)[j]? = some o ∧ _
      by_cases hj : j = v
      · subst hj
        rcases Nat.lt_or_ge j (wipeW ρ vs).length with z | z
        · rw [List.getElem?_set_self z] at h1
          cases h1
          exact ⟨none, List.getElem?_set_self (by rw [w.len]; exact z), trivial⟩
        · rw [List.getElem?_eq_none_iff.mpr (by rw [List.length_set]; exact z)] at h1
          cases h1
      · rw [List.getElem?_set_ne (Ne.symm hj)] at h1 ⊢
        exact w.slot j t h1
    · have f : ∀ (j : Nat) us, ((wipeW ρ vs).set v SV.un)[j]? = some (SV.own us) → (wipeW ρ vs)[j]? = some (SV.own us) ∧ j ≠ v := fun j us h1 => by
        by_cases hj : j = v
        · subst hj
          rcases Nat.lt_or_ge j (wipeW ρ vs).length with z | z
          · rw [List.getElem?_set_self z] at h1
            cases h1
          · rw [List.getElem?_eq_none_iff.mpr (by rw [List.length_set]; exact z)] at h1
            cases h1
        · rw [List.getElem?_set_ne (Ne.symm hj)] at h1
          exact ⟨h1, hj⟩
      obtain ⟨a1, a2⟩ := f j us h1
      obtain ⟨b1, b2⟩ := f k zs h2
      show ((L2.wipe σ vs).set v none)[j]? ≠ ((L2.wipe σ vs).set v none)[k]?
      rw [List.getElem?_set_ne (Ne.symm a2), List.getElem?_set_ne (Ne.symm b2)]
      exact w.sep j k us zs hjk a1 b1
/-! ### the reading that stands for what is asked of data -/
def canE (Z : SrcK) (K : PySem.W.Frag) (E : L2.St → XK) (w : EW) : TE := fun σ H Qv => ∃ (c : Cfg) (F : Hp) (ρ : Env) (Xd : XD) (Qd : D → Prop), EnvOk Z K c F H σ ρ ∧ ELk Z K c F H E Xd ∧ w Xd ρ Qd ∧
  ∀ d v F' H', Qd d → EnvOk Z K c F' H' σ ρ → Same F F' → Kx c.fp F H F' H' → Rep K F' d v → Qv v H'
def canT (Z : SrcK) (K : PySem.W.Frag) (E : L2.St → XK) (w : TW) : TT := fun σ H Qv => ∃ (c : Cfg) (F : Hp) (ρ : Env) (Xd : XD) (Qd : Bool → Prop), EnvOk Z K c F H σ ρ ∧ ELk Z K c F H E Xd ∧ w Xd ρ Qd ∧
  ∀ d F' H', Qd d → EnvOk Z K c F' H' σ ρ → Same F F' → Kx c.fp F H F' H' → Qv d H'
def canG (Z : SrcK) (K : PySem.W.Frag) (g : GW) : TG := fun v σ H Qv => ∃ (c : Cfg) (F : Hp) (ρ : Env) (d : D) (Qd : Env → Prop), EnvOk Z K c F H σ ρ ∧ Rep K F d v ∧ g d ρ Qd ∧
  ∀ σ' ρ' F' H', Qd ρ' → EnvOk Z K c F' H' σ' ρ' → Same F F' → Nx H H' → Qv σ' H'
theorem le_can {w : EW} : LE Z K E (canE Z K E w) w := fun c F H σ ρ Xd Qd Qv e l h q => ⟨c, F, ρ, Xd, Qd, e, l, h, q⟩
theorem lt_can {w : TW} : LT Z K E (canT Z K E w) w := fun c F H σ ρ Xd Qd Qv e l h q => ⟨c, F, ρ, Xd, Qd, e, l, h, q⟩
theorem lg_can {g : GW} : LG Z K (canG Z K g) g := fun c F H σ ρ d v Qd Qv e r h q => ⟨c, F, ρ, d, Qd, e, r, h, q⟩
theorem pe_can {w : EW} (h : DE Z X E e w) : PE X e (canE Z X.K E w) := by
  obtain ⟨t, p, l⟩ := h
  exact ⟨fun pins s σ H Q I ⟨c, F, ρ, Xd, Qd, e, k, h, q⟩ => p.run pins s σ H Q I (l c F H σ ρ Xd Qd Q e k h q)⟩
theorem pt_can {w : TW} (h : DT Z X E e w) : PT X e (canT Z X.K E w) := by
  obtain ⟨t, p, l⟩ := h
  exact ⟨fun pins s σ H Q I ⟨c, F, ρ, Xd, Qd, e, k, h, q⟩ => p.run pins s σ H Q I (l c F H σ ρ Xd Qd Q e k h q)⟩
theorem pg_can {g : GW} (h : DG Z X e g) : PG X e (canG Z X.K g) := by
  obtain ⟨t, p, l⟩ := h
  exact ⟨fun pins s σ H v u Q I r ⟨c, F, ρ, d, Qd, e, r2, h, q⟩ => p.run pins s σ H v u Q I r (l c F H σ ρ d v Qd Q e r2 h q)⟩
/-- the tests of a comprehension -/
def DTs (Z : SrcK) (X : Cx) (E : L2.St → XK) (ifs : List Expr) (w : TW) : Prop := ∃ t, PTs X ifs t ∧ LT Z X.K E t w
theorem dts_nil : DTs Z X E [] tYesW := ⟨_, pts_nil, fun c F H σ ρ Xd Qd Qv e _ h q => q true F H h e (Same.refl _) (Kx.refl _ _ _)⟩
theorem dts_one {w : TW} (h : DT Z X E e w) : DTs Z X E [e] w := by
  obtain ⟨t, p, l⟩ := h
  exact ⟨_, pts_one p, l⟩
theorem pts_can {ifs : List Expr} {w : TW} (h : DTs Z X E ifs w) : PTs X ifs (canT Z X.K E w) := by
  obtain ⟨t, p, l⟩ := h
  exact ⟨fun pins s σ H Q I ⟨c, F, ρ, Xd, Qd, e, k, h, q⟩ => p.run pins s σ H Q I (l c F H σ ρ Xd Qd Q e k h q)⟩
abbrev E00 : L2.St → XK := fun _ => E0
theorem wipe_idem (σ : L2.St) : ∀ vs : List Nat, L2.wipe (L2.wipe σ vs) vs = L2.wipe σ vs := fun vs => by
  apply List.ext_getElem?
  have key : ∀ (vs : List Nat) (σ : L2.St) (i : Nat), (L2.wipe σ vs)[i]? = if i ∈ vs ∧ i < σ.length then some none else σ[i]? := fun vs => by
    induction vs with
    | nil => intro σ i; simp [L2.wipe]
    | cons v vs ih =>
      intro σ i
      show ((L2.wipe σ vs).set v none)[i]? = _
      by_cases hi : i = v
      · subst hi
        by_cases hl : i < σ.length
        · rw [List.getElem?_set_self (by rw [L2.wipe_length]; exact hl)]
          simp [hl]
        · rw [List.getElem?_eq_none_iff.mpr (by rw [List.length_set, L2.wipe_length]; omega)]
          rw [if_neg (by simp [hl]), List.getElem?_eq_none_iff.mpr (by omega)]
      · rw [List.getElem?_set_ne (Ne.symm hi), ih]
        simp [hi]
  intro i
  rw [key, key, L2.wipe_length]
  split
  · rfl
  · rfl
theorem wipe_set {σ : L2.St} {v : Option V} : ∀ {vs : List Nat} {i : Nat}, i ∈ vs → L2.wipe (σ.set i v) vs = L2.wipe σ vs := fun {vs i} hi => by
  have key : ∀ (vs : List Nat) (σ : L2.St) (i : Nat), (L2.wipe σ vs)[i]? = if i ∈ vs ∧ i < σ.length then some none else σ[i]? := fun vs => by
    induction vs with
    | nil => intro σ i; simp [L2.wipe]
    | cons v vs ih =>
      intro σ i
      show ((L2.wipe σ vs).set v none)[i]? = _
      by_cases hi : i = v
      · subst hi
        by_cases hl : i < σ.length
        · rw [List.getElem?_set_self (by rw [L2.wipe_length]; exact hl)]
          simp [hl]
        · rw [List.getElem?_eq_none_iff.mpr (by rw [List.length_set, L2.wipe_length]; omega)]
          rw [if_neg (by simp [hl]), List.getElem?_eq_none_iff.mpr (by omega)]
      · rw [List.getElem?_set_ne (Ne.symm hi), ih]
        simp [hi]
  apply List.ext_getElem?
  intro j
  rw [key, key, List.length_set]
  by_cases hj : j ∈ vs ∧ j < σ.length
  · rw [if_pos hj, if_pos hj]
  · rw [if_neg hj, if_neg hj]
    by_cases hji : j = i
    · subst hji
      have hl : ¬ j < σ.length := fun z => hj ⟨hi, z⟩
      rw [List.getElem?_eq_none_iff.mpr (by rw [List.length_set]; omega), List.getElem?_eq_none_iff.mpr (by omega)]
    · rw [List.getElem?_set_ne (Ne.symm hji)]
/-- what a target stores lies in the comprehension's own slots -/
def LGW (Z : SrcK) (K : PySem.W.Frag) (us : List Nat) (t : TG) (g : GW) : Prop := ∀ (c : Cfg) (F H : Hp) (σ : L2.St) (ρ : Env) (d : D) (v : V) (Qd : Env → Prop) (Qv : L2.St → Hp → Prop), EnvOk Z K c F H σ ρ → Rep K F d v → g d ρ Qd →
  (∀ σ' ρ' F' H', Qd ρ' → EnvOk Z K c F' H' σ' ρ' → Same F F' → Kx c.fp F H F' H' → L2.wipe σ' us = L2.wipe σ us → Qv σ' H') → t v σ H Qv
def LGWs (Z : SrcK) (K : PySem.W.Frag) (us : List Nat) (t : TGs) (g : List D → Env → (Env → Prop) → Prop) : Prop := ∀ (c : Cfg) (F H : Hp) (σ : L2.St) (ρ : Env) (ds : List D) (vs : List V) (Qd : Env → Prop) (Qv : L2.St → Hp → Prop), EnvOk Z K c F H σ ρ → RepL K F ds vs → g ds ρ Qd →
  (∀ σ' ρ' F' H', Qd ρ' → EnvOk Z K c F' H' σ' ρ' → Same F F' → Kx c.fp F H F' H' → L2.wipe σ' us = L2.wipe σ us → Qv σ' H') → t vs σ H Qv
def DGW (Z : SrcK) (X : Cx) (us : List Nat) (tg : Expr) (g : GW) : Prop := ∃ t, PG X tg t ∧ LGW Z X.K us t g
def DGWs (Z : SrcK) (X : Cx) (us : List Nat) (n : Nat) (tgs : List Expr) (g : List D → Env → (Env → Prop) → Prop) : Prop := (∃ t, PGs X tgs t ∧ LGWs Z X.K us t g) ∧ ∀ ds ρ Q, g ds ρ Q → ds.length = n
theorem dgw_name {us : List Nat} {x : Str} {p : Pos} (i : Nat) (hN : X.N.Nodup) (hu : i ∈ us) (hi : X.N[i]? = some x := by rfl) (hx : Loc X.env.scope x := by first | exact Or.inl rfl | exact Or.inr rfl) (hf : X.fn x = true ∨ X.env.scope.names.lookup x = some .local := by first | exact .inl rfl | exact .inr rfl) : DGW Z X us (.Name x p) (gNm i) :=
  ⟨_, pg_name hN hi hx hf, fun c F H σ ρ d v Qd Qv e r h q => q _ _ F H h (e.setD r) (Same.refl _) (Kx.refl _ _ _) (wipe_set hu)⟩
theorem dgws_nil {us : List Nat} : DGWs Z X us 0 [] gNilW := ⟨⟨_, pgs_nil, fun c F H σ ρ ds vs Qd Qv e r h q => by
  obtain ⟨h1, h2⟩ := h
  subst h1
  have r : vs = [] := r
  exact ⟨r, q _ _ F H h2 e (Same.refl _) (Kx.refl _ _ _) rfl⟩⟩, fun ds ρ Q h => by rw [h.1]; rfl⟩
theorem dgws_cons {us : List Nat} {t : Expr} {ts : List Expr} {g : GW} {r : List D → Env → (Env → Prop) → Prop} {n : Nat} (h1 : DGW Z X us t g) (h2 : DGWs Z X us n ts r) (hg : ∀ d ρ Q, g d ρ Q → ∃ ρ', Q ρ' := by exact fun _ _ _ h => ⟨_, h⟩) (hs : (assignEach (t :: ts) X.env).map (·.2) = assign t X.env :: (assignEach ts X.env).map (·.2) := by rfl) : DGWs Z X us (n + 1) (t :: ts) (gConsW g r) := by
  obtain ⟨u, p, l⟩ := h1
  obtain ⟨⟨u1, p1, l1⟩, hl⟩ := h2
  refine ⟨⟨_, pgs_cons p p1 hs, fun c F H σ ρ ds vs Qd Qv e rr h q => ?_⟩, gConsW_len hg hl⟩
  cases ds with
  | nil => exact h.elim
  | cons x t =>
    obtain ⟨v, vr, e1, r1, r2⟩ := rr
    refine ⟨v, vr, e1, ?_⟩
    refine l c F H σ ρ x v _ _ e r1 h fun σ' ρ' F1 H1 h1 e1 s1 n1 w1 => ?_
    exact l1 c F1 H1 σ' ρ' t vr _ _ e1 (RepL.mono s1 _ _ r2) h1 fun σ2 ρ2 F2 H2 h2 e2 s2 n2 w2 => q _ _ F2 H2 h2 e2 (s1.trans s2) (n1.trans n2) (w2.trans w1)
theorem dgw_tup {us : List Nat} {es : List Expr} {k n : Nat} {r : List D → Env → (Env → Prop) → Prop} (h : DGWs Z X us n es r) (hc : X.calm = true) (hn : (assignEach es X.env).length = n := by rfl) (hst : (assignEach es X.env).findIdx? (·.1) = none := by rfl) : DGW Z X us (.Tuple es k pos) (gTupW r) := by
  obtain ⟨⟨u, p, l⟩, hl⟩ := h
  refine ⟨_, pg_or (pg_tup hc p hn hst) (pg_unl hc p hn hst), fun c F H σ ρ d v Qd Qv e rr h q => ?_⟩
  cases d with
  | tup xs =>
    obtain ⟨a, vs, e1, r1, r2⟩ := rr
    exact .inl ⟨a, vs, e1, same_t e.fh r1, by rw [r2.len]; exact hl _ _ _ h, l c F H σ ρ xs vs _ _ e r2 h q⟩
  | lst xs =>
    obtain ⟨a, vs, e1, r1, r2⟩ := rr
    exact .inr ⟨a, vs, e1, same_l e.fh r1, by rw [r2.len]; exact hl _ _ _ h, l c F H σ ρ xs vs _ _ e r2 h q⟩
  | non => exact h.elim
  | bl _ => exact h.elim
  | int _ => exact h.elim
  | str _ => exact h.elim
  | ins _ _ _ => exact h.elim
def canGW (Z : SrcK) (K : PySem.W.Frag) (us : List Nat) (g : GW) : TG := fun v σ H Qv => ∃ (c : Cfg) (F : Hp) (ρ : Env) (d : D) (Qd : Env → Prop), EnvOk Z K c F H σ ρ ∧ Rep K F d v ∧ g d ρ Qd ∧
  ∀ σ' ρ' F' H', Qd ρ' → EnvOk Z K c F' H' σ' ρ' → Same F F' → Kx c.fp F H F' H' → L2.wipe σ' us = L2.wipe σ us → Qv σ' H'
theorem lgw_can {us : List Nat} {g : GW} : LGW Z K us (canGW Z K us g) g := fun c F H σ ρ d v Qd Qv e r h q => ⟨c, F, ρ, d, Qd, e, r, h, q⟩
theorem pgw_can {us : List Nat} {g : GW} (h : DGW Z X us e g) : PG X e (canGW Z X.K us g) := by
  obtain ⟨t, p, l⟩ := h
  exact ⟨fun pins s σ H v u Q I r ⟨c, F, ρ, d, Qd, e, r2, h, q⟩ => p.run pins s σ H v u Q I r (l c F H σ ρ d v Qd Q e r2 h q)⟩
theorem upd_lst_env {D : Addr} {ws vs : List V} (e : EnvOk Z K c F H σ ρ) (hD : H D = some (.lst vs)) (hF : F D = none) (h0 : c.H0 D = none) (na : ∀ (j : Nat) ys, ρ[j]? = some (SV.own ys) → σ[j]? ≠ some (some (V.ref D))) : EnvOk Z K c F (upd H D (.lst ws)) σ ρ := by
  have nF : ∀ b o, F b = some o → b ≠ D := fun b o q z => by
    rw [z, hF] at q
    cases q
  refine ⟨e.len, fun j t h1 => ?_, e.sep, fun b o q => ?_, e.f0, e.new, fun b o q hb => ?_, fun b q => ?_, fun a fp q => ?_⟩
  · obtain ⟨o, o1, o2⟩ := e.slot j t h1
    refine ⟨o, o1, ?_⟩
    cases t with
    | own us =>
      obtain ⟨a, us', r1, r2, r3, r4, r5⟩ := o2
      refine ⟨a, us', r1, r2, r3, ?_, r5⟩
      have ha : a ≠ D := fun z => na j us h1 (by rw [o1, r1, z])
      rw [upd_ne ha]
      exact r4
    | un => trivial
    | d y => exact o2
    | src => exact o2
    | obj px C fs => exact obj_kx o2 (Same.refl _) (fun a u z _ nl => by rw [upd_ne (fun z2 => nl vs (by rw [z2, hD] at z; exact (Option.some.inj z).symm))]; exact z) fun b z => .inl z
  · rw [upd_ne (nF b o q)]
    exact e.fh b o q
  · have hb2 : b ≠ D := fun z => by rw [z, h0] at q; cases q
    rw [upd_ne hb2]
    exact e.keep b o q hb
  · have hb2 : b ≠ D := fun z => by rw [z, h0] at q; exact q rfl
    rw [upd_ne hb2]
    exact e.all b q
  · obtain ⟨q1, q2⟩ := e.src a fp q
    refine ⟨Z.loc q1 fun b hb => ?_, q2⟩
    have hb2 : b ≠ D := fun z => (q2 b hb).2 (by rw [z]; exact h0)
    rw [upd_ne hb2]
theorem not_fp (e : EnvOk Z K c F H σ ρ) {D : Addr} (h0 : c.H0 D = none) : D ∉ c.fp := fun z => by
  obtain ⟨x, fp, z1, z2⟩ := Cfg.of_fp z
  exact ((e.src x fp z1).2 D z2).2 h0
theorem ll_comp {ti : TI} {wi : IW} {g : GW} {tt : TW} {w : EW} {us : List Nat} (hi : LI Z K E ti wi) : LL Z K E (tLc ti (canGW Z K us g) (canT Z K E00 tt) (canE Z K E00 w) us) (lComp wi g tt w us) := fun c F H σ ρ Xd Qd Qv e l h q => by
  refine hi c F H σ ρ Xd _ _ e l h fun ds J F1 H1 h1 e1 s1 n1 it => ?_
  obtain ⟨G, Y, wk, hG, hY⟩ := it
  intro D hD
  have hD0 : c.H0 D = none := e1.h0 hD
  have hDF : F1 D = none := e1.fh.free hD
  have nown : ∀ (j : Nat) ys, (wipeW ρ us)[j]? = some (SV.own ys) → (L2.wipe σ us)[j]? ≠ some (some (V.ref D)) := fun j ys hj => (e1.wipe us).notOwn (xs := []) hD hj
  have start : EnvOk Z K c F1 (upd H1 D (.lst [])) (L2.wipe σ us) (wipeW ρ us) := (e1.wipe us).lay hD
  refine lc_it wk (fun i H' => ∃ F' acc vacc, EnvOk Z K c F' H' (L2.wipe σ us) (wipeW ρ us) ∧ EnvOk Z K c F' H' σ ρ ∧ Same F1 F' ∧ Kx c.fp F1 H1 F' H' ∧ F' D = none ∧ H' D = some (.lst vacc) ∧ RepL K F' acc vacc ∧ compGo g tt w (wipeW ρ us) Qd (ds.drop i) acc)
    ⟨F1, [], [], start, e1.lay hD, Same.refl _, Kx.lay hD, hDF, upd_same, rfl, h1⟩ (fun i H' _ ⟨F', _, _, e', _, s', _⟩ => hG _ (s'.trans e'.fh)) ?_ ?_
  · rintro i x Ha Hb hi' ⟨F', acc, vacc, e', e'', s', n', f', d', r', k⟩ y
    obtain ⟨F2, x2, r2⟩ := hY i ds[i] Ha x Hb F' (List.getElem?_eq_getElem hi') y s' e'.fh
    rw [List.drop_eq_getElem_cons hi'] at k
    have e2 := e'.ext x2
    have e2' := e''.ext x2
    have dD := not_fp e' hD0
    refine lgw_can c F2 Hb (L2.wipe σ us) (wipeW ρ us) ds[i] x _ _ e2 r2 k fun σ3 ρ3 F3 H3 h3 e3 s3 n3 w3 => ⟨w3.trans (wipe_idem _ _), ?_⟩
    refine lt_can c F3 H3 σ3 ρ3 _ _ _ e3 elk0 h3 fun b F4 H4 h4 e4 s4 n4 => ?_
    have kk : ∀ F5 H5, Kx c.fp F4 H4 F5 H5 → Kx c.fp F' Ha F5 H5 := fun F5 H5 m => ((x2.kx.trans n3).trans n4).trans m
    have back : ∀ F5 H5 σ5 ρ5, EnvOk Z K c F5 H5 σ5 ρ5 → Same F4 F5 → Kx c.fp F4 H4 F5 H5 → ∀ {σ6 : L2.St} {ρ6 : Env}, EnvOk Z K c F' Ha σ6 ρ6 → EnvOk Z K c F5 H5 σ6 ρ6 := fun F5 H5 σ5 ρ5 e5 s5 n5 {σ6 ρ6} e6 => by
      have kx := kk F5 H5 n5
      have sF : Same F' F5 := ((x2.ff.trans s3).trans s4).trans s5
      refine ⟨e6.len, fun j t h1 => ?_, e6.sep, e5.fh, e5.f0, e5.new, e5.keep, e5.all, e5.src⟩
      obtain ⟨o, o1, o2⟩ := e6.slot j t h1
      refine ⟨o, o1, ?_⟩
      cases t with
      | own ys =>
        obtain ⟨a, vs, z1, z2, z3, z4, z5⟩ := o2
        refine ⟨a, vs, z1, ?_, z3, kx.kp _ _ z4 (not_fp e6 z3), RepL.mono sF _ _ z5⟩
        cases z6 : F5 a with
        | none => rfl
        | some u =>
          rcases kx.new a (by rw [z6]; simp) with m | m
          · exact absurd z2 m
          · rw [m] at z4
            cases z4
      | un => trivial
      | d y =>
        obtain ⟨v, z1, z2⟩ := o2
        exact ⟨v, z1, Rep.mono sF _ _ z2⟩
      | src => exact o2
      | obj px C fs => exact obj_kx o2 sF (fun a u z z0 _ => kx.kp _ _ z (not_fp e6 z0)) fun b z => (kx.new b z).elim .inl fun z => .inr (.inl z)
    have fD : ∀ F5 H5, Kx c.fp F4 H4 F5 H5 → F5 D = none := fun F5 H5 m => by
      cases z6 : F5 D with
      | none => rfl
      | some u =>
        rcases (kk F5 H5 m).new D (by rw [z6]; simp) with m | m
        · exact absurd f' m
        · rw [m] at d'
          cases d'
    cases b with
    | true =>
      rw [if_pos rfl]
      rw [if_pos rfl] at h4
      refine le_can c F4 H4 σ3 ρ3 _ _ _ e4 elk0 h4 fun y v F5 H5 h5 e5 s5 n5 r5 => ?_
      have kx := kk F5 H5 n5
      have sF : Same F' F5 := ((x2.ff.trans s3).trans s4).trans s5
      have d5 := kx.kp D _ d' dD
      have f5 := fD F5 H5 n5
      refine ⟨vacc, d5, by rw [r'.len]; exact szlt h5.1, F5, acc ++ [y], vacc ++ [v], ?_, ?_, s'.trans sF, ?_, f5, upd_same, (RepL.mono sF _ _ r').app (RepL.one r5), h5.2⟩
      · exact upd_lst_env (back F5 H5 σ3 ρ3 e5 s5 n5 e') d5 f5 hD0 nown
      · exact upd_lst_env (back F5 H5 σ3 ρ3 e5 s5 n5 e'') d5 f5 hD0 fun j ys hj => e1.notOwn (xs := []) hD hj
      · have kz := n'.trans kx
        refine ⟨kz.nx.trans nx_mut, fun b o hb nb => ?_, kz.new⟩
        have hbD : b ≠ D := fun z => by rw [z, hD] at hb; cases hb
        rw [upd_ne hbD]
        exact kz.kp b o hb nb
    | false =>
      rw [if_neg Bool.false_ne_true]
      rw [if_neg Bool.false_ne_true] at h4
      have kx := kk F4 H4 (Kx.refl _ _ _)
      have sF : Same F' F4 := (x2.ff.trans s3).trans s4
      exact ⟨F4, acc, vacc, back F4 H4 σ3 ρ3 e4 (Same.refl _) (Kx.refl _ _ _) e', back F4 H4 σ3 ρ3 e4 (Same.refl _) (Kx.refl _ _ _) e'', s'.trans sF, n'.trans kx, fD F4 H4 (Kx.refl _ _ _), kx.kp D _ d' dD, RepL.mono sF _ _ r', h4⟩
  · rintro H' ⟨F', acc, vacc, e', e'', s', n', f', d', r', k⟩
    rw [List.drop_length] at k
    exact q acc D vacc F' H' k e'' (s1.trans s') (n1.trans n') (n1.free hD) f' d' r'
theorem dl_comp {elt iter : Expr} {ifs : List Expr} {scope : Scope} {own : List (Str × Nat)} {wi : IW} {g : GW} {tt : TW} {w : EW} (hc : X.calm = true) (hN : X.N.Nodup) (hi : DI Z X E tg iter wi) (ok : BlkOk X.N X.env.scope scope own)
    (hg : ∀ (s : Shared) (H : Hp) (C : Addr) (cl : List (Str × Addr)) (fp : List Addr), DGW Z (X.blk s H scope (compEnvC scope cl C X.env) fp) (own.map (·.2)) tg g)
    (ht : ∀ (s : Shared) (H : Hp) (C : Addr) (cl : List (Str × Addr)) (fp : List Addr), DTs Z (X.blk s H scope (compEnvC scope cl C X.env) fp) E00 ifs tt)
    (he : ∀ (s : Shared) (H : Hp) (C : Addr) (cl : List (Str × Addr)) (fp : List Addr), DE Z (X.blk s H scope (compEnvC scope cl C X.env) fp) E00 elt w)
    (hs : ∀ x, foldedSetIterable iter X.env x = pure x := by intro _; rfl) : DLs Z X E (.ListComp elt [⟨tg, iter, ifs, 0⟩] scope pos) (lComp wi g tt w (own.map (·.2))) := by
  obtain ⟨t, p, l⟩ := hi
  exact ⟨_, pe_lc hc hN p ok (fun s H C cl fp => pgw_can (hg s H C cl fp)) (fun s H C cl fp => pts_can (ht s H C cl fp)) (fun s H C cl fp => pe_can (he s H C cl fp)) hs, ll_comp l⟩
end
end DL
set_option linter.all false
set_option autoImplicit false
set_option maxHeartbeats 2000000
/-! Calls, and what a def promises. -/
namespace DL
open PySem PySem.Spec PyProof.Rows L2

/-- behind a call -/
structure After (Z : SrcK) (src : Option (Addr × List Addr)) (fp : List Addr) (F H F' H' : Hp) : Prop where
  ff : Same F F'
  fh : Same F' H'
  new : ∀ b, F' b ≠ none → F b ≠ none ∨ H b = none
  keep : ∀ b o, H b = some o → b ∉ fp → H' b = some o
  all : ∀ b, H b ≠ none → H' b ≠ none
  src : ∀ a fp', src = some (a, fp') → Z.P a fp' H' ∧ ∀ b ∈ fp', F' b = none
def fpOf (src : Option (Addr × List Addr)) : List Addr := match src with
  | some p => p.2
  | none => []
def ArgOk2 (K : PySem.W.Frag) (src : Option (Addr × List Addr)) (F : Hp) (ss : List SV) (vs : List V) : Prop := ArgsOk K src F ss vs
/-- a promise over data as the hand layer's promise -/
def spOf (Z : SrcK) (K : PySem.W.Frag) (sp : Spec) : Sp := fun vs H Q E => ∃ (src : Option (Addr × List Addr)) (F : Hp) (ss : List SV) (Qd : RV → Prop) (Xe : Exc → Prop),
  Same F H ∧ (∀ a fp, src = some (a, fp) → Z.P a fp H ∧ ∀ b ∈ fp, F b = none) ∧ ArgsOk K src F ss vs ∧ sp ss Qd Xe ∧
  (∀ r v F' H', Qd r → After Z src (fpOf src) F H F' H' → RepR K F' H H' r v → Q v H') ∧
  (∀ ex F' H' cls dd, Xe ex → After Z src (fpOf src) F H F' H' → ExRep K F' ex cls dd → E cls dd H')
section
variable {Z : SrcK} {X : Cx} {E : L2.St → XK} {K : PySem.W.Frag} {a b e tg : Expr} {wa wb wc : EW} {pos : Pos} {c : Cfg} {F H F' H' : Hp} {σ : L2.St} {ρ : Env}
theorem fp_eq : fpOf c.src = c.fp := by
  unfold fpOf Cfg.fp
  cases c.src <;> rfl
theorem EnvOk.srcOk (e : EnvOk Z K c F H σ ρ) : ∀ a fp, c.src = some (a, fp) → Z.P a fp H ∧ ∀ b ∈ fp, F b = none := fun a fp h => ⟨(e.src a fp h).1, fun b hb => ((e.src a fp h).2 b hb).1⟩
theorem After.kx (x : After Z c.src c.fp F H F' H') : Kx c.fp F H F' H' := ⟨x.all, x.keep, x.new⟩
theorem EnvOk.after (e : EnvOk Z K c F H σ ρ) (x : After Z c.src c.fp F H F' H') : EnvOk Z K c F' H' σ ρ where
  len := e.len
  slot := fun i s h => by
    obtain ⟨o, h1, h2⟩ := e.slot i s h
    refine ⟨o, h1, ?_⟩
    cases s with
    | un => trivial
    | d y =>
      obtain ⟨v, r1, r2⟩ := h2
      exact ⟨v, r1, Rep.mono x.ff _ _ r2⟩
    | own ys =>
      obtain ⟨a, vs, r1, r2, r3, r4, r5⟩ := h2
      refine ⟨a, vs, r1, ?_, r3, x.keep _ _ r4 (not_fp e r3), RepL.mono x.ff _ _ r5⟩
      cases q : F' a with
      | none => rfl
      | some u =>
        rcases x.new a (by rw [q]; simp) with z | z
        · exact absurd r2 z
        · rw [r4] at z
          cases z
    | src => exact h2
    | obj px C fs => exact obj_kx h2 x.ff (fun a u z z0 _ => x.keep _ _ z (not_fp e z0)) fun b z => (x.new b z).elim .inl fun z => .inr (.inl z)
  sep := e.sep
  fh := x.fh
  f0 := e.f0.trans x.ff
  new := fun b h => (x.new b h).elim (e.new b) fun n => .inr (e.h0 n)
  keep := fun b o h hb => x.keep _ _ (e.keep b o h hb) hb
  all := fun b h => x.all b (e.all b h)
  src := fun a fp h => ⟨(x.src a fp h).1, fun b hb => ⟨(x.src a fp h).2 b hb, ((e.src a fp h).2 b hb).2⟩⟩
theorem call_core {sp : Spec} {Xd : XD} {Qd : D → Prop} {Qv : VK} {F1 H1 : Hp} {ss : List SV} {vs : List V} (l : ELk Z K c F H E Xd) (h1 : sp ss (fun r => Qd r.toD) (Xd ρ)) (e1 : EnvOk Z K c F1 H1 σ ρ) (s1 : Same F F1) (n1 : Kx c.fp F H F1 H1) (r1 : ArgsOk K c.src F1 ss vs)
    (q : ∀ d v F' H', Qd d → EnvOk Z K c F' H' σ ρ → Same F F' → Kx c.fp F H F' H' → Rep K F' d v → Qv v H') : spOf Z K sp vs H1 Qv (E σ) := by
  refine ⟨c.src, F1, ss, _, _, e1.fh, e1.srcOk, r1, h1, fun r v F2 H2 h2 x r2 => ?_, fun ex F2 H2 cls dd h2 x r2 => ?_⟩
  · rw [fp_eq] at x
    have e2 := e1.after x
    cases r with
    | d y => exact q y v F2 H2 h2 e2 (s1.trans x.ff) (n1.trans x.kx) r2
    | own ys =>
      obtain ⟨p, vs', rfl, f1, f2, f3, f4⟩ := r2
      have na : ∀ (i : Nat) zs, ρ[i]? = some (SV.own zs) → σ[i]? ≠ some (some (V.ref p)) := fun i zs hi => e1.notOwn (xs := vs') f2 hi
      have sF : Same F2 (upd F2 p (.lst vs')) := fun b u hb => by
        rw [upd_ne (ne_of_none hb f1)]
        exact hb
      refine q _ _ _ H2 h2 (e2.freeze f1 (e1.h0 f2) f3 na) ((s1.trans x.ff).trans sF) ?_ ⟨p, vs', rfl, SqL.of upd_same, RepL.mono sF _ _ f4⟩
      have k := n1.trans x.kx
      refine ⟨k.nx, k.kp, fun b hb => ?_⟩
      by_cases hbp : b = p
      · exact .inr (by rw [hbp]; exact n1.free f2)
      · rw [upd_ne hbp] at hb
        exact k.new b hb
  · rw [fp_eq] at x
    exact l σ ρ ex F2 H2 cls dd h2 (e1.after x) (s1.trans x.ff) (n1.nx.trans x.all) r2
theorem le_call {sp : Spec} {ta : TA} {ws : AW} (ha : LA Z K E ta ws) : LE Z K E (tCallS (spOf Z K sp) E ta) (wCall sp ws) := fun c F H σ ρ Xd Qd Qv e l h q => by
  refine ha c F H σ ρ Xd _ _ e l h fun ss vs F1 H1 h1 e1 s1 n1 r1 => ?_
  exact call_core l h1 e1 s1 n1 r1 q
theorem ll_call {sp : Spec} {ta : TA} {ws : AW} (ha : LA Z K E ta ws) : LL Z K E (tCallS (spOf Z K sp) E ta) (lCall sp ws) := fun c F H σ ρ Xd Qd Qv e l h q => by
  refine ha c F H σ ρ Xd _ _ e l h fun ss vs F1 H1 h1 e1 s1 n1 r1 => ?_
  refine ⟨c.src, F1, ss, _, _, e1.fh, e1.srcOk, r1, h1, fun r v F2 H2 h2 x r2 => ?_, fun ex F2 H2 cls dd h2 x r2 => ?_⟩
  · rw [fp_eq] at x
    have e2 := e1.after x
    cases r with
    | d y => exact h2.elim
    | own ys =>
      obtain ⟨p, vs', rfl, f1, f2, f3, f4⟩ := r2
      exact q ys p vs' F2 H2 h2 e2 (s1.trans x.ff) (n1.trans x.kx) (n1.free f2) f1 f3 f4
  · rw [fp_eq] at x
    exact l σ ρ ex F2 H2 cls dd h2 (e1.after x) (s1.trans x.ff) (n1.nx.trans x.all) r2
/-- how keywords alone bind -/
structure KwOk (fd : FuncData) (ps ks : List Str) (idx : List Nat) : Prop where
  to : ∀ ws : List Value, ws.length = ks.length → bindArgs fd ⟨[], ks.zip ws⟩ = pure (ps.zip (permL idx ws))
  len : ks.length = idx.length
/-- a def of the text, as its callers know it -/
structure Fd (P : Program) (w : World) (K : PySem.W.Frag) (mg : Str → Option Value) (base : Heap) (Z : SrcK) (k : Nat) (x : Str) (ps : List Str) (kws : List (List Str × List Nat)) (sp : Spec) : Prop where
  ex : ∃ (f : Addr) (fd : FuncData), FnOk P w K mg base (L2.CX P w) k f fd ps (spOf Z K sp) ∧ mg x = some (.ref f) ∧ PySem.W.keepIn K (.ref f) = true ∧ Binds K fd ps [] ∧ ∀ p ∈ kws, KwOk fd ps p.1 p.2
/-- where one stands: what calls need -/
structure At (X : Cx) (E : L2.St → XK) (k : Nat) : Prop where
  room : Room k X.A
  tk : Takes X (fun cls d σ H => E σ cls d H)
theorem At.pass {k : Nat} (A : At X E k) : ∀ σ, PassesAt (L2.CX X.prog X.w) X σ (E σ) := fun σ => passAt A.tk σ
variable {es : List Expr} {ws : AW}
theorem de_call {k j : Nat} {x : Str} {p : Pos} {ps : List Str} {kws : List (List Str × List Nat)} {sp : Spec} (A : At X E k) (hk : j ≤ k) (G : Fd X.prog X.w X.K X.mg X.base Z j x ps kws sp) (ha : DA Z X E (e :: es) ws) (hg : Gl X x := by rfl) (hdb : (x == ("__debug__" : Str)) = false := by decide)
    (he : starEach (e :: es) X.env = (false, eval e X.env) :: starEach es X.env := by rfl) (hpl : (backTo pos (starEach es X.env)).any (·.1) = false := by rfl) : DE Z X E (.Call (.Name x p) (e :: es) [] pos) (wCall sp ws) := by
  obtain ⟨f, fd, F, hm, hkp, hb, _⟩ := G.ex
  obtain ⟨t, pa, la⟩ := ha
  exact ⟨_, pe_callS F (A.room.mono hk) hg hm hkp hb A.pass pa hdb he hpl, le_call la⟩
theorem dl_call {k j : Nat} {x : Str} {p : Pos} {ps : List Str} {kws : List (List Str × List Nat)} {sp : Spec} (A : At X E k) (hk : j ≤ k) (G : Fd X.prog X.w X.K X.mg X.base Z j x ps kws sp) (ha : DA Z X E (e :: es) ws) (hg : Gl X x := by rfl) (hdb : (x == ("__debug__" : Str)) = false := by decide)
    (he : starEach (e :: es) X.env = (false, eval e X.env) :: starEach es X.env := by rfl) (hpl : (backTo pos (starEach es X.env)).any (·.1) = false := by rfl) : DLs Z X E (.Call (.Name x p) (e :: es) [] pos) (lCall sp ws) := by
  obtain ⟨f, fd, F, hm, hkp, hb, _⟩ := G.ex
  obtain ⟨t, pa, la⟩ := ha
  exact ⟨_, pe_callS F (A.room.mono hk) hg hm hkp hb A.pass pa hdb he hpl, ll_call la⟩
/-- within a comprehension nothing is let out -/
theorem At.blk {k : Nat} (A : At X E k) (s : Shared) (H : Hp) (scope : Scope) (cenv : PySem.Env) (fp : List Addr) : At (X.blk s H scope cenv fp) E00 k :=
  ⟨A.room, fun _ _ ⟨_, _, _, _, _, _, _, _, _, _, _, _, _, _, _, _, z⟩ => z.elim⟩
/-! ### keywords -/
theorem ArgsOk.get {src : Option (Addr × List Addr)} {F : Hp} : ∀ {ss : List SV} {vs : List V}, ArgsOk K src F ss vs → vs.length = ss.length ∧ ∀ (i : Nat) s, ss[i]? = some s → ∃ v, vs[i]? = some v ∧ ArgOk K src F s v
  | [], vs, r => by
    have r : vs = [] := r
    subst r
    exact ⟨rfl, fun i s h => by simp at h⟩
  | s :: r, vs, h => by
    obtain ⟨v, t, rfl, h1, h2⟩ := h
    obtain ⟨i1, i2⟩ := ArgsOk.get h2
    refine ⟨by rw [List.length_cons, List.length_cons, i1], fun i u hu => ?_⟩
    cases i with
    | zero =>
      have hu : s = u := by simpa using hu
      subst hu
      exact ⟨v, rfl, h1⟩
    | succ i =>
      have hu : r[i]? = some u := by simpa using hu
      obtain ⟨v2, z1, z2⟩ := i2 i u hu
      exact ⟨v2, by simpa using z1, z2⟩
theorem ArgsOk.perm {src : Option (Addr × List Addr)} {F : Hp} {ss : List SV} {vs : List V} (h : ArgsOk K src F ss vs) : ∀ idx : List Nat, ArgsOk K src F (permL idx ss) (permL idx vs)
  | [] => rfl
  | i :: idx => by
    have ih := ArgsOk.perm h idx
    obtain ⟨l, g⟩ := h.get
    unfold permL at ih ⊢
    cases q : ss[i]? with
    | none =>
      have q2 : vs[i]? = none := List.getElem?_eq_none_iff.mpr (by rw [l]; exact List.getElem?_eq_none_iff.mp q)
      rw [List.filterMap_cons_none q, List.filterMap_cons_none q2]
      exact ih
    | some s =>
      obtain ⟨v, h1, h2⟩ := g i s q
      rw [List.filterMap_cons_some q, List.filterMap_cons_some h1]
      exact ⟨v, _, rfl, h2, ih⟩
theorem Vals.perm {vs : List V} {us : List Value} (h : Vals vs us) : ∀ idx : List Nat, Vals (permL idx vs) (permL idx us)
  | [] => .nil
  | i :: idx => by
    have ih := Vals.perm h idx
    unfold permL at ih ⊢
    cases q : vs[i]? with
    | none => rw [List.filterMap_cons_none q, List.filterMap_cons_none (h.none_of q)]; exact ih
    | some v =>
      obtain ⟨u, h1, h2⟩ := h.get q
      rw [List.filterMap_cons_some q, List.filterMap_cons_some h1]
      exact .cons h2 ih
def tCallKS (sp : Sp) (idx : List Nat) (E : L2.St → XK) (tk : TA) : TE := fun σ H Q => tk σ H fun zs H2 => zs.length = idx.length ∧ sp (permL idx zs) H2 Q (E σ)
theorem pe_callKS {CX : CXT} {k : Nat} {f : Addr} {fd : FuncData} {ps ks : List Str} {idx : List Nat} {sp : Sp} {x : Str} {p : Pos} {kws : List Keyword} {tk : TA} (F : FnOk X.prog X.w X.K X.mg X.base CX k f fd ps sp) (hr : Room k X.A) (hg : Gl X x) (hm : X.mg x = some (.ref f)) (hk : PySem.W.keepIn X.K (.ref f) = true)
    (hb : KwOk fd ps ks idx) (hx : ∀ σ, PassesAt CX X σ (E σ)) (hkw : PK X kws tk) (hall : (backToKw pos (keywordEach kws X.env)).all (·.1.isSome) = true) (hks : (backToKw pos (keywordEach kws X.env)).filterMap (·.1) = ks)
    (hdb : (x == ("__debug__" : Str)) = false) (hpl : ((backTo pos (starEach [] X.env)).any (·.1) || (backToKw pos (keywordEach kws X.env)).any (·.1.isNone)) = false) :
    PE X (.Call (.Name x p) [] kws pos) (tCallKS sp idx E tk) := by
  refine ⟨fun pins s σ H Q I h => ?_⟩
  refine wpAny_Call_Name_kw (ld_glob I hg hm ?_ hdb)
  refine PySem.W.callWith_KW0 (h₀ := X.base) I.ok.mod.kin hk hall (thn (hkw.run pos pins s σ H _ I h) fun ws s2 ⟨zs, H2, I2, rz, hl, q2⟩ => ⟨I2.kIn, ?_⟩) hpl
  rw [hks]
  have r2 := Vals.perm rz idx
  have hl2 : ws.length = ks.length := by rw [← rz.length, hl, hb.len]
  refine wpAny_call (codeAny_mono (F.run X.A X.stack s2 H2 ⟨[], ks.zip ws⟩ (permL idx ws) (permL idx zs) Q (E σ) hr I2.env0 (.of_eq (hb.to ws hl2)) r2 q2) fun r s' hq => ?_)
  cases r with
  | error e => exact hx σ pins H2 s2 e s' I2 hq
  | ok fl =>
    cases fl with
    | ret u => exact I2.after hq
    | next => exact False.elim hq
    | brk => exact False.elim hq
    | cont => exact False.elim hq
/-- the values of keywords -/
def DK (Z : SrcK) (X : Cx) (E : L2.St → XK) (kws : List Keyword) (w : AW) : Prop := ∃ t, PK X kws t ∧ LA Z X.K E t w
theorem dk_nil : DK Z X E [] wNil := ⟨_, pk_nil, fun c F H σ ρ Xd Qd Qv e _ h q => q [] [] F H h e (Same.refl _) (Kx.refl _ _ _) rfl⟩
theorem dk_cons {nm : Option Str} {kp : Pos} {kws : List Keyword} {ws : AW} (ha : DE Z X E e wa) (hr : DK Z X E kws ws) : DK Z X E (⟨nm, e, kp⟩ :: kws) (wCons wa ws) := by
  obtain ⟨t, p, l⟩ := ha
  obtain ⟨t1, p1, l1⟩ := hr
  refine ⟨_, pk_cons p p1, fun c F H σ ρ Xd Qd Qv e k h q => ?_⟩
  refine l c F H σ ρ Xd _ _ e k h fun d v F1 H1 h1 e1 s1 n1 r1 => ?_
  refine l1 c F1 H1 σ ρ Xd _ _ e1 (k.mono s1 n1.nx) h1 fun ss vs F2 H2 h2 e2 s2 n2 r2 => ?_
  exact q _ _ F2 H2 h2 e2 (s1.trans s2) (n1.trans n2) ⟨v, vs, rfl, Rep.mono s2 _ _ r1, r2⟩
theorem le_callK {sp : Spec} {idx : List Nat} {ta : TA} {ws : AW} (ha : LA Z K E ta ws) : LE Z K E (tCallKS (spOf Z K sp) idx E ta) (wCallK sp idx ws) := fun c F H σ ρ Xd Qd Qv e l h q => by
  refine ha c F H σ ρ Xd _ _ e l h fun ss vs F1 H1 h1 e1 s1 n1 r1 => ⟨by rw [r1.get.1]; exact h1.1, ?_⟩
  exact call_core l h1.2 e1 s1 n1 (r1.perm idx) q
theorem de_callK {k j : Nat} {x : Str} {p : Pos} {ps ks : List Str} {idx : List Nat} {kws : List (List Str × List Nat)} {sp : Spec} {kw : List Keyword} {ws : AW} (A : At X E k) (hk : j ≤ k) (G : Fd X.prog X.w X.K X.mg X.base Z j x ps kws sp) (hkw : (ks, idx) ∈ kws) (ha : DK Z X E kw ws) (hg : Gl X x := by rfl)
    (hall : (backToKw pos (keywordEach kw X.env)).all (·.1.isSome) = true := by rfl) (hks : (backToKw pos (keywordEach kw X.env)).filterMap (·.1) = ks := by rfl)
    (hdb : (x == ("__debug__" : Str)) = false := by decide) (hpl : ((backTo pos (starEach [] X.env)).any (·.1) || (backToKw pos (keywordEach kw X.env)).any (·.1.isNone)) = false := by rfl) : DE Z X E (.Call (.Name x p) [] kw pos) (wCallK sp idx ws) := by
  obtain ⟨f, fd, F, hm, hkp, hb, hkws⟩ := G.ex
  obtain ⟨t, pa, la⟩ := ha
  exact ⟨_, pe_callKS F (A.room.mono hk) hg hm hkp (hkws _ hkw) A.pass pa hall hks hdb hpl, le_callK la⟩
/-! ### name = [..] -/
variable {iter elt : Expr} {ifs : List Expr} {scope : Scope} {own : List (Str × Nat)} {wi : IW} {g : GW} {tt : TW} {w : EW}
theorem ds_setLc {y : Str} {py spos : Pos} (i : Nat) (hN : X.N.Nodup) (hi : DI Z X E tg iter wi) (ok : BlkOk X.N X.env.scope scope own)
    (hg : ∀ (s : Shared) (H : Hp) (C : Addr) (cl : List (Str × Addr)) (fp : List Addr), DGW Z (X.blk s H scope (compEnvC scope cl C X.env) fp) (own.map (·.2)) tg g)
    (ht : ∀ (s : Shared) (H : Hp) (C : Addr) (cl : List (Str × Addr)) (fp : List Addr), DTs Z (X.blk s H scope (compEnvC scope cl C X.env) fp) E00 ifs tt)
    (he : ∀ (s : Shared) (H : Hp) (C : Addr) (cl : List (Str × Addr)) (fp : List Addr), DE Z (X.blk s H scope (compEnvC scope cl C X.env) fp) E00 elt w)
    (hsw : swapsWith (.ListComp elt [⟨tg, iter, ifs, 0⟩] scope pos) (some (.Name y py)) spos.line X.env = pure true) (hc : X.calm = true := by rfl) (hy : X.N[i]? = some y := by rfl) (hyl : X.env.scope.names.lookup y = some .local := by rfl)
    (hs : ∀ x, foldedSetIterable iter X.env x = pure x := by intro _; rfl) : DS Z X E (.Assign [.Name y py] (.ListComp elt [⟨tg, iter, ifs, 0⟩] scope pos) spos) (sSetL i (lComp wi g tt w (own.map (·.2)))) := by
  obtain ⟨t, p, l⟩ := hi
  refine ⟨_, ps_setLc (g := canGW Z X.K (own.map (·.2)) g) (tt := canT Z X.K E00 tt) (te := canE Z X.K E00 w) hc hN hy hyl hsw p ok (fun s H C cl fp => pgw_can (hg s H C cl fp)) (fun s H C cl fp => pts_can (ht s H C cl fp)) (fun s H C cl fp => pe_can (he s H C cl fp)) hs, fun c F H σ ρ Xd DD D e k h q => ?_⟩
  exact ll_comp l c F H σ ρ Xd _ _ e k h fun xs a vs F1 H1 h1 e1 s1 n1 f1 f2 f3 r1 => q.nx _ _ F1 H1 h1 (e.setOwn e1 f1 f2 f3 r1) s1 n1.nx
theorem ds_setLcD {y : Str} {py spos : Pos} (i : Nat) (hN : X.N.Nodup) (hi : DI Z X E tg iter wi) (ok : BlkOk X.N X.env.scope scope own)
    (hg : ∀ (s : Shared) (H : Hp) (C : Addr) (cl : List (Str × Addr)) (fp : List Addr), DGW Z (X.blk s H scope (compEnvC scope cl C X.env) fp) (own.map (·.2)) tg g)
    (ht : ∀ (s : Shared) (H : Hp) (C : Addr) (cl : List (Str × Addr)) (fp : List Addr), DTs Z (X.blk s H scope (compEnvC scope cl C X.env) fp) E00 ifs tt)
    (he : ∀ (s : Shared) (H : Hp) (C : Addr) (cl : List (Str × Addr)) (fp : List Addr), DE Z (X.blk s H scope (compEnvC scope cl C X.env) fp) E00 elt w)
    (hsw : swapsWith (.ListComp elt [⟨tg, iter, ifs, 0⟩] scope pos) (some (.Name y py)) spos.line X.env = pure true) (hc : X.calm = true := by rfl) (hy : X.N[i]? = some y := by rfl) (hyl : X.env.scope.names.lookup y = some .local := by rfl)
    (hs : ∀ x, foldedSetIterable iter X.env x = pure x := by intro _; rfl) : DS Z X E (.Assign [.Name y py] (.ListComp elt [⟨tg, iter, ifs, 0⟩] scope pos) spos) (sAsg (wOfL (lComp wi g tt w (own.map (·.2)))) (gNm i)) := by
  obtain ⟨t, p, l⟩ := hi
  refine ⟨_, ps_setLc (g := canGW Z X.K (own.map (·.2)) g) (tt := canT Z X.K E00 tt) (te := canE Z X.K E00 w) hc hN hy hyl hsw p ok (fun s H C cl fp => pgw_can (hg s H C cl fp)) (fun s H C cl fp => pts_can (ht s H C cl fp)) (fun s H C cl fp => pe_can (he s H C cl fp)) hs, fun c F H σ ρ Xd DD D e k h q => ?_⟩
  refine ll_comp l c F H σ ρ Xd _ _ e k h fun xs a vs F1 H1 h1 e1 s1 n1 f1 f2 f3 r1 => ?_
  have sF : Same F1 (upd F1 a (.lst vs)) := fun b u hb => by
    rw [upd_ne (ne_of_none hb f2)]
    exact hb
  exact q.nx _ _ _ H1 h1 ((e1.freeze f2 (e.h0 f1) f3 fun j ys hj => e.notOwn (xs := vs) f1 hj).setD (x := .lst xs) ⟨a, vs, rfl, SqL.of upd_same, RepL.mono sF _ _ r1⟩) (s1.trans sF) n1.nx
/-! ### a, b = x, y -/
def ArgsOo (K : PySem.W.Frag) (c : Cfg) (F' H' H : Hp) : List SV → List V → Prop
  | [], vs => vs = []
  | s :: r, vs => ∃ (v : V) (t : List V), vs = v :: t ∧ SlotOk K c F' H' s (some v) ∧ (∀ xs a, s = SV.own xs → v = V.ref a → H a = none ∧ ∀ (j : Nat) ys, r[j]? = some (SV.own ys) → t[j]? ≠ some (V.ref a)) ∧ ArgsOo K c F' H' H r t
def LAo (Z : SrcK) (K : PySem.W.Frag) (E : L2.St → XK) (t : TA) (w : AW) : Prop :=
  ∀ (c : Cfg) (F H : Hp) (σ : L2.St) (ρ : Env) (Xd : XD) (Qd : List SV → Prop) (Qv : List V → Hp → Prop), EnvOk Z K c F H σ ρ → ELk Z K c F H E Xd → w Xd ρ Qd →
    (∀ ss vs F' H', Qd ss → EnvOk Z K c F' H' σ ρ → Same F F' → Kx c.fp F H F' H' → ArgsOo K c F' H' H ss vs → Qv vs H') → t σ H Qv
def DAo (Z : SrcK) (X : Cx) (E : L2.St → XK) (es : List Expr) (w : AW) : Prop := ∃ t, PA X es t ∧ LAo Z X.K E t w
theorem dao_nil : DAo Z X E [] wNil := ⟨_, pa_nil, fun c F H σ ρ Xd Qd Qv e _ h q => q [] [] F H h e (Same.refl _) (Kx.refl _ _ _) rfl⟩
theorem ArgsOo.back {Ha H0 : Hp} (n : Nx Ha H0) : ∀ {ss : List SV} {vs : List V}, ArgsOo K c F H H0 ss vs → ArgsOo K c F H Ha ss vs
  | [], _, h => h
  | s :: r, vs, h => by
    obtain ⟨v, t, e1, e2, e3, e4⟩ := h
    exact ⟨v, t, e1, e2, fun xs a z1 z2 => ⟨n.free (e3 xs a z1 z2).1, (e3 xs a z1 z2).2⟩, ArgsOo.back n e4⟩
theorem ArgsOo.fresh {Ha : Hp} : ∀ {ss : List SV} {vs : List V}, ArgsOo K c F H Ha ss vs → ∀ (j : Nat) ys a, ss[j]? = some (SV.own ys) → vs[j]? = some (V.ref a) → Ha a = none
  | [], _, _, j, ys, a, h1, _ => by simp at h1
  | s :: r, vs, h, j, ys, a, h1, h2 => by
    obtain ⟨v, t, rfl, e2, e3, e4⟩ := h
    cases j with
    | zero =>
      have h1 : s = SV.own ys := by simpa using h1
      have h2 : v = V.ref a := by simpa using h2
      exact (e3 ys a h1 h2).1
    | succ j => exact ArgsOo.fresh e4 j ys a (by simpa using h1) (by simpa using h2)
theorem SlotOk.kx {s : SV} {o : Option V} {F' H' : Hp} (e : EnvOk Z K c F H σ ρ) (h : SlotOk K c F H s o) (sF : Same F F') (n : Kx c.fp F H F' H') : SlotOk K c F' H' s o := by
  cases s with
  | un => trivial
  | d y =>
    obtain ⟨v, r1, r2⟩ := h
    exact ⟨v, r1, Rep.mono sF _ _ r2⟩
  | own ys =>
    obtain ⟨a, vs, r1, r2, r3, r4, r5⟩ := h
    refine ⟨a, vs, r1, ?_, r3, n.kp _ _ r4 (not_fp e r3), RepL.mono sF _ _ r5⟩
    cases q : F' a with
    | none => rfl
    | some u =>
      rcases n.new a (by rw [q]; simp) with z | z
      · exact absurd r2 z
      · rw [r4] at z
        cases z
  | src => exact h
  | obj px C fs => exact obj_kx h sF (fun a u z z0 _ => n.kp _ _ z (not_fp e z0)) fun b z => (n.new b z).elim .inl fun z => .inr (.inl z)
theorem dao_cons {ws : AW} (ha : DE Z X E e wa) (hr : DAo Z X E es ws) (hs : starEach (e :: es) X.env = (false, eval e X.env) :: starEach es X.env := by rfl) : DAo Z X E (e :: es) (wCons wa ws) := by
  obtain ⟨t, p, l⟩ := ha
  obtain ⟨t1, p1, l1⟩ := hr
  refine ⟨_, pa_cons p p1 hs, fun c F H σ ρ Xd Qd Qv e k h q => ?_⟩
  refine l c F H σ ρ Xd _ _ e k h fun d v F1 H1 h1 e1 s1 n1 r1 => ?_
  refine l1 c F1 H1 σ ρ Xd _ _ e1 (k.mono s1 n1.nx) h1 fun ss vs F2 H2 h2 e2 s2 n2 r2 => ?_
  exact q _ _ F2 H2 h2 e2 (s1.trans s2) (n1.trans n2) ⟨v, vs, rfl, ⟨v, rfl, Rep.mono s2 _ _ r1⟩, fun _ _ z => (nomatch z), r2.back n1.nx⟩
theorem dao_consL {ws : AW} {l : LW} (ha : DLs Z X E e l) (hr : DAo Z X E es ws) (hs : starEach (e :: es) X.env = (false, eval e X.env) :: starEach es X.env := by rfl) : DAo Z X E (e :: es) (wConsL l ws) := by
  obtain ⟨t, p, l⟩ := ha
  obtain ⟨t1, p1, l1⟩ := hr
  refine ⟨_, pa_cons p p1 hs, fun c F H σ ρ Xd Qd Qv e k h q => ?_⟩
  refine l c F H σ ρ Xd _ _ e k h fun xs a vl F1 H1 h1 e1 s1 n1 f1 f2 f3 r1 => ?_
  refine l1 c F1 H1 σ ρ Xd _ _ e1 (k.mono s1 n1.nx) h1 fun ss vs F2 H2 h2 e2 s2 n2 r2 => ?_
  have so : SlotOk X.K c F1 H1 (SV.own xs) (some (V.ref a)) := ⟨a, vl, rfl, f2, e.h0 f1, f3, r1⟩
  refine q _ _ F2 H2 h2 e2 (s1.trans s2) (n1.trans n2) ⟨.ref a, vs, rfl, SlotOk.kx e1 so s2 n2, fun ys b z1 z2 => ?_, r2.back n1.nx⟩
  have z2 : a = b := by simpa using z2
  subst z2
  refine ⟨f1, fun j zs hj hk => ?_⟩
  have := r2.fresh j zs a hj hk
  rw [f3] at this
  cases this
theorem setAll_env {c : Cfg} {F H Ha : Hp} : ∀ {is : List Nat} {ss : List SV} {vs : List V} {ρ ρ' : Env} {σ : L2.St}, setAll is ss ρ = some ρ' → ArgsOo K c F H Ha ss vs → EnvOk Z K c F H σ ρ →
    (∀ (j : Nat) ys b, ss[j]? = some (SV.own ys) → vs[j]? = some (V.ref b) → ∀ (i : Nat) zs, ρ[i]? = some (SV.own zs) → σ[i]? ≠ some (some (V.ref b))) → EnvOk Z K c F H ((is.zip vs).foldl (fun s p => s.set p.1 (some p.2)) σ) ρ'
  | [], [], vs, ρ, ρ', σ, h, r, e, _ => by
    cases h
    exact e
  | i :: is, s :: ss, vs, ρ, ρ', σ, h, r, e, na => by
    obtain ⟨v, t, rfl, e2, e3, e4⟩ := r
    have h : setAll is ss (ρ.set i s) = some ρ' := h
    refine setAll_env (is := is) (ss := ss) h e4 (e.setS e2 fun xs a z1 z2 j ys _ hj => na 0 xs a (by simp [z1]) (by have z2 : v = V.ref a := z2; simp [z2]) j ys hj) fun j ys b h1 h2 k zs hk hk2 => ?_
    by_cases hki : k = i
    · subst hki
      rcases Nat.lt_or_ge k ρ.length with z | z
      · rw [List.getElem?_set_self z] at hk
        have hk : s = SV.own zs := by simpa using hk
        rw [List.getElem?_set_self (by rw [e.len]; exact z)] at hk2
        have hk2 : v = V.ref b := by simpa using hk2
        exact (e3 zs b hk hk2).2 j ys h1 h2
      · rw [List.getElem?_eq_none_iff.mpr (by rw [List.length_set]; exact z)] at hk
        cases hk
    · rw [List.getElem?_set_ne (Ne.symm hki)] at hk hk2
      exact na (j + 1) ys b (by simpa using h1) (by simpa using h2) k zs hk hk2
  | [], _ :: _, _, _, _, _, h, _, _, _ => by cases h
  | _ :: _, [], _, _, _, _, h, _, _, _ => by cases h
theorem ArgsOo.len {Ha : Hp} : ∀ {ss : List SV} {vs : List V}, ArgsOo K c F H Ha ss vs → vs.length = ss.length
  | [], _, h => by
    have h : _ = [] := h
    rw [h] <;> rfl
  | s :: r, vs, h => by
    obtain ⟨v, t, rfl, _, _, e4⟩ := h
    rw [List.length_cons, List.length_cons, e4.len]
theorem setAll_len : ∀ {is : List Nat} {ss : List SV} {ρ ρ' : Env}, setAll is ss ρ = some ρ' → ss.length = is.length
  | [], [], _, _, _ => rfl
  | i :: is, s :: ss, ρ, ρ', h => by
    have h : setAll is ss (ρ.set i s) = some ρ' := h
    rw [List.length_cons, List.length_cons, setAll_len h]
  | [], _ :: _, _, _, h => by cases h
  | _ :: _, [], _, _, h => by cases h
theorem par_core {ta : TA} {ws : AW} {is : List Nat} (ha : LAo Z K E ta ws) {Xd : XD} {DD : DEnds} {D : Ends} {Qv : List V → Hp → Prop} (e : EnvOk Z K c F H σ ρ) (k : ELk Z K c F H E Xd) (h : sPar is ws Xd DD ρ) (q : EndsOk Z K c F H DD D)
    (hq : ∀ vs H1, vs.length = is.length → D.nx ((is.zip vs).foldl (fun s p => s.set p.1 (some p.2)) σ) H1 → Qv vs H1) : ta σ H Qv := by
  refine ha c F H σ ρ Xd _ _ e k h fun ss vs F1 H1 h1 e1 s1 n1 r1 => ?_
  cases z : setAll is ss ρ with
  | none => rw [z] at h1; exact h1.elim
  | some ρ' =>
    rw [z] at h1
    refine hq _ _ (r1.len.trans (setAll_len z)) (q.nx _ _ F1 H1 h1 (setAll_env z r1 e1 fun j ys b hj hb i zs hi => ?_) s1 n1.nx)
    exact e.notOwn (xs := []) (r1.fresh j ys b hj hb) hi
theorem len2 {α : Type} {vs : List α} (h : vs.length = 2) : ∃ v w, vs = [v, w] := by
  match vs, h with
  | [v, w], _ => exact ⟨v, w, rfl⟩
theorem len3 {α : Type} {vs : List α} (h : vs.length = 3) : ∃ v w u, vs = [v, w, u] := by
  match vs, h with
  | [v, w, u], _ => exact ⟨v, w, u, rfl⟩
theorem ds_par2 {x y : Str} {px py pt : Pos} {kt k2 : Nat} {pt2 : Pos} {ws : AW} (i j : Nat) (hN : X.N.Nodup) (ha : DAo Z X E [a, b] ws) (hw : swappedStores [.Tuple [.Name x px, .Name y py] kt pt] (.Tuple [a, b] k2 pt2) X.env = pure (some [x, y]) := by rfl) (hij : i ≠ j := by decide) (hi : X.N[i]? = some x := by rfl) (hj : X.N[j]? = some y := by rfl)
    (hx : X.env.scope.names.lookup x = some .local := by rfl) (hy : X.env.scope.names.lookup y = some .local := by rfl) (hc : X.calm = true := by rfl)
    (hs : swapsWithSole [.Tuple [.Name x px, .Name y py] kt pt] (.Tuple [a, b] k2 pt2) pos.line X.env = pure false := by rfl) : DS Z X E (.Assign [.Tuple [.Name x px, .Name y py] kt pt] (.Tuple [a, b] k2 pt2) pos) (sPar [i, j] ws) := by
  obtain ⟨t, p, l⟩ := ha
  refine ⟨_, ps_par hc hN hi hj hij hx hy p hw hs, fun c F H σ ρ Xd DD D e k h q => par_core (is := [i, j]) l e k h q fun vs H1 hl z => ?_⟩
  obtain ⟨v, w, rfl⟩ := len2 hl
  exact ⟨v, w, rfl, z⟩
theorem ds_par3 {b' : Expr} {x y z : Str} {px py pz pt : Pos} {kt k2 : Nat} {pt2 : Pos} {ws : AW} (i j m : Nat) (hN : X.N.Nodup) (ha : DAo Z X E [a, b, b'] ws) (hw : swappedStores [.Tuple [.Name x px, .Name y py, .Name z pz] kt pt] (.Tuple [a, b, b'] k2 pt2) X.env = pure (some [x, y, z]) := by rfl)
    (hij : i ≠ j := by decide) (him : i ≠ m := by decide) (hjm : j ≠ m := by decide) (hi : X.N[i]? = some x := by rfl) (hj : X.N[j]? = some y := by rfl) (hm : X.N[m]? = some z := by rfl)
    (hx : X.env.scope.names.lookup x = some .local := by rfl) (hy : X.env.scope.names.lookup y = some .local := by rfl) (hz : X.env.scope.names.lookup z = some .local := by rfl) (hc : X.calm = true := by rfl)
    (hs : swapsWithSole [.Tuple [.Name x px, .Name y py, .Name z pz] kt pt] (.Tuple [a, b, b'] k2 pt2) pos.line X.env = pure false := by rfl) : DS Z X E (.Assign [.Tuple [.Name x px, .Name y py, .Name z pz] kt pt] (.Tuple [a, b, b'] k2 pt2) pos) (sPar [i, j, m] ws) := by
  obtain ⟨t, p, l⟩ := ha
  refine ⟨_, ps_par3 hc hN hi hj hm hij him hjm hx hy hz p hw hs, fun c F H σ ρ Xd DD D e k h q => par_core (is := [i, j, m]) l e k h q fun vs H1 hl z => ?_⟩
  obtain ⟨v, w, u, rfl⟩ := len3 hl
  exact ⟨v, w, u, rfl, z⟩
/-- the same by a tuple that is made and taken apart -/
def namesAt (X : Cx) : List Expr → List Nat → Prop
  | [], [] => True
  | .Name x _ :: r, i :: is => X.N[i]? = some x ∧ Loc X.env.scope x ∧ (X.fn x = true ∨ X.env.scope.names.lookup x = some .local) ∧ namesAt X r is
  | _, _ => False
/-! ### a def's body -/
theorem after_of {src : Option (Addr × List Addr)} (e : EnvOk Z K ⟨src, F, H⟩ F' H' σ ρ) : After Z src (fpOf src) F H F' H' := by
  have h := fp_eq (c := ⟨src, F, H⟩)
  refine ⟨e.f0, e.fh, e.new, fun b o q n => e.keep b o q ?_, e.all, fun a fp q => ⟨(e.src a fp q).1, fun b hb => ((e.src a fp q).2 b hb).1⟩⟩
  rw [← h]
  exact n
theorem env_start {src : Option (Addr × List Addr)} {ss : List SV} {vs : List V} {N : List Str} (s : Same F H) (hs : ∀ a fp, src = some (a, fp) → Z.P a fp H ∧ ∀ b ∈ fp, F b = none) (r : ArgsOk K src F ss vs) (hl : vs.length ≤ N.length) :
    EnvOk Z K ⟨src, F, H⟩ F H (L2.start N vs) (ss ++ List.replicate (N.length - ss.length) .un) := by
  have key : ∀ {ss : List SV} {vs : List V}, ArgsOk K src F ss vs → vs.length = ss.length ∧ (∀ (i : Nat) s, ss[i]? = some s → ∃ v, vs[i]? = some v ∧ ArgOk K src F s v) := fun {ss} => by
    induction ss with
    | nil =>
      intro vs r
      have r : vs = [] := r
      subst r
      exact ⟨rfl, fun i s h => by simp at h⟩
    | cons s r ih =>
      intro vs h
      obtain ⟨v, t, rfl, h1, h2⟩ := h
      obtain ⟨i1, i2⟩ := ih h2
      refine ⟨by rw [List.length_cons, List.length_cons, i1], fun i u hu => ?_⟩
      cases i with
      | zero =>
        have hu : s = u := by simpa using hu
        subst hu
        exact ⟨v, rfl, h1⟩
      | succ i =>
        have hu : r[i]? = some u := by simpa using hu
        obtain ⟨v2, z1, z2⟩ := i2 i u hu
        exact ⟨v2, by simpa using z1, z2⟩
  obtain ⟨l1, l2⟩ := key r
  refine ⟨?_, fun i u h => ?_, fun i j xs ys hij h1 h2 => ?_, s, Same.refl _, fun b h => .inl h, fun b o h _ => h, fun b h => h, fun a fp h => ⟨(hs a fp h).1, fun b hb => ⟨(hs a fp h).2 b hb, (Z.tr (hs a fp h).1).2 b hb⟩⟩⟩
  · unfold L2.start
    rw [List.length_append, List.length_append, List.length_map, List.length_replicate, List.length_replicate, l1]
  · unfold L2.start
    by_cases hi : i < ss.length
    · rw [List.getElem?_append_left hi] at h
      obtain ⟨v, z1, z2⟩ := l2 i u h
      refine ⟨some v, ?_, ?_⟩
      · rw [List.getElem?_append_left (by rw [List.length_map, l1]; exact hi), List.getElem?_map, z1]
        rfl
      · cases u with
        | un => trivial
        | d x => exact ⟨v, rfl, z2⟩
        | own _ => exact z2.elim
        | src =>
          obtain ⟨p, fp, z3, z4⟩ := z2
          exact ⟨p, fp, z3, by rw [z4]⟩
        | obj _ _ _ => exact z2.elim
    · rw [List.getElem?_append_right (by omega), List.getElem?_replicate] at h
      split at h
      · cases h
        refine ⟨none, ?_, trivial⟩
        rw [List.getElem?_append_right (by rw [List.length_map, l1]; omega), List.getElem?_replicate, List.length_map, l1]
        rw [if_pos (by omega)]
      · cases h
  · have none_own : ∀ (i : Nat) xs, (ss ++ List.replicate (N.length - ss.length) SV.un)[i]? ≠ some (SV.own xs) := fun i xs h => by
      by_cases hi : i < ss.length
      · rw [List.getElem?_append_left hi] at h
        obtain ⟨v, z1, z2⟩ := l2 i _ h
        exact z2
      · rw [List.getElem?_append_right (by omega), List.getElem?_replicate] at h
        split at h <;> cases h
    exact absurd h1 (none_own i xs)
end
section
variable {P : Program} {w : World} {K : PySem.W.Frag} {mg : Str → Option Value} {base : Heap} {Z : SrcK}
theorem PassesOwn.cx {N : List Str} {qual : Str} {scope : Scope} {f : Addr} {cd : Value} {A : Around} {outer : List PySem.Env} {s : Shared} {H : Hp} {E : XK} :
    PassesOwn (model P w) (A.deeper (envOfC qual scope s.heap.objs.size f cd)) (envOfC qual scope s.heap.objs.size f cd) (cxOf (L2.CX P w) P w K mg base N qual scope f cd A outer s H E).xe := passes_of (E₁ := fun e' s'' => L2.CX P w outer H s E e' s'') rfl
theorem at_cx {k : Nat} {N : List Str} {qual : Str} {scope : Scope} {f : Addr} {cd : Value} {A : Around} {outer : List PySem.Env} {s : Shared} {H : Hp} {E : XK} (hr : Room k (A.deeper (envOfC qual scope s.heap.objs.size f cd))) :
    At (cxOf (L2.CX P w) P w K mg base N qual scope f cd A outer s H E) (fun _ => E) k :=
  ⟨hr, takes_of rfl rfl rfl rfl⟩
/-- THE RULE for a def: its body asks w0 of data, and its promise gives that -/
theorem fd_of {x y : Str} {st : Stmt} {f : Addr} {fd : FuncData} {N ps : List Str} {k : Nat} {sp : Spec} {wb : SW} (F : Fun K x x st f fd) (S : FnScope N ps (defScope st)) (hm : mg y = some (.ref f)) (hb : Binds K fd ps []) {kws : List (List Str × List Nat)} (hkw : ∀ p ∈ kws, KwOk fd ps p.1 p.2)
    (hl : ∀ ss Q Xe, sp ss Q Xe → ss.length = ps.length)
    (hbody : ∀ (cdv : Value) (A : Around) (outer : List PySem.Env) (s : Shared) (H : Hp) (E : XK), Room k (A.deeper (envOfC x (defScope st) s.heap.objs.size f cdv)) →
      DSs Z (cxOf (L2.CX P w) P w K mg base N x (defScope st) f cdv A outer s H E) (fun _ => E) (defBody st) wb)
    (hw : ∀ ss Q Xe, sp ss Q Xe → wb (fun _ => Xe) { nx := fun _ => Q (.d .non), rt := Q } (ss ++ List.replicate (N.length - ss.length) .un)) : Fd P w K mg base Z (k + 1) y ps kws sp := by
  have len : ∀ {ss : List SV} {src : Option (Addr × List Addr)} {F0 : Hp} {vs : List V}, ArgsOk K src F0 ss vs → vs.length = ss.length := fun {ss} => by
    induction ss with
    | nil =>
      intro src F0 vs r
      have r : vs = [] := r
      rw [r]
      rfl
    | cons s r ih =>
      intro src F0 vs h
      obtain ⟨v, t, rfl, h1, h2⟩ := h
      rw [List.length_cons, List.length_cons, ih h2]
  refine ⟨f, fd, F.okX S (fun vs H Q E h => ?_) (fun cdv A outer s H vs Q E hr h => ?_), hm, F.kp, hb, hkw⟩
  · obtain ⟨src, F0, ss, Qd, Xe, _, _, r, h1, _⟩ := h
    rw [len r]
    exact hl _ _ _ h1
  · obtain ⟨src, F0, ss, Qd, Xe, s1, s2, r, h1, q1, q2⟩ := h
    obtain ⟨t, p, l⟩ := hbody cdv A outer s H E hr
    refine ⟨t, p, ?_⟩
    have hN : vs.length ≤ N.length := by
      rw [len r, hl _ _ _ h1]
      have e := congrArg List.length S.pre
      rw [List.length_take] at e
      omega
    have e0 := env_start (Z := Z) (K := K) s1 s2 r hN
    refine l ⟨src, F0, H⟩ F0 H _ _ _ _ _ e0 (fun σ ρ ex F' H' cls dd x e' s' _ r' => q2 ex F' H' cls dd x (after_of e') r') (hw ss Qd Xe h1) ⟨fun σ ρ F' H' x e' s' n' => ?_, fun r v σ ρ F' H' x e' s' r' => ?_, fun _ _ _ _ x => x.elim, fun _ _ _ _ x => x.elim⟩
    · exact q1 (.d .non) .non F' H' x (after_of e') rfl
    · exact q1 r v F' H' x (after_of e') r'
end
end DL
set_option linter.all false
set_option autoImplicit false
set_option maxHeartbeats 2000000
set_option maxRecDepth 100000
/-! enumerate and zip over lists and tuples in any mix. -/
namespace DL
open PySem PySem.Spec PyProof.Rows L2

/-! ### a list or a tuple -/
def IsSeq (tp : Bool) (h : Heap) (a : Addr) (items : Array Value) : Prop := match tp with
  | true => h.IsTuple a items
  | false => h.IsList a items
def IsSeqIter (tp : Bool) (h : Heap) (it a : Addr) (i : Nat) : Prop := match tp with
  | true => h.IsTupleIter it a i
  | false => h.IsListIter it a i
def seqIt (tp : Bool) (a : Addr) : Obj := match tp with
  | true => { cls := .type "tuple_iterator", data := .fields #[.ref a, .int 0 0] }
  | false => { cls := .type "list_iterator", data := .fields #[.ref a, .int 0 0] }
theorem begins_seq (tp : Bool) (a : Addr) (items : Array Value) : Begins (.ref a) (seqIt tp a) (fun h => IsSeq tp h a items) := by
  cases tp with
  | true => exact begins_tuple a items
  | false => exact begins_list a items
theorem draws_seq {P : Program} {w : World} {A : Around} (hh : A.handled = none) (tp : Bool) (it a : Addr) (hne : a ≠ it) (items : Array Value) :
    Draws P w A it [it, a] items.size (fun i v => items[i]? = some v) (fun i h => IsSeqIter tp h it a i ∧ IsSeq tp h a items) := by
  cases tp with
  | true => exact Draws.tuple hh it a hne items
  | false => exact Draws.list hh it a hne items
theorem seq_start {tp : Bool} {h : Heap} {it a : Addr} (e : h.get? it = some (seqIt tp a)) : IsSeqIter tp h it a 0 := by
  cases tp with
  | true => exact ⟨_, e, rfl, rfl⟩
  | false => exact ⟨_, e, rfl, rfl⟩
theorem seqIter_obj {tp : Bool} {h : Heap} {it a : Addr} {i : Nat} (e : IsSeqIter tp h it a i) : ∃ o, h.get? it = some o ∧ ∀ v, o.data ≠ .cell v := by
  cases tp with
  | true =>
    obtain ⟨o, e1, c, d⟩ := e
    exact ⟨o, e1, fun v z => by rw [d] at z; cases z⟩
  | false =>
    obtain ⟨o, e1, c, d⟩ := e
    exact ⟨o, e1, fun v z => by rw [d] at z; cases z⟩
theorem seqIter_at {tp : Bool} {h h' : Heap} {it a : Addr} {i : Nat} (e : IsSeqIter tp h it a i) (k : ∀ o, h.get? it = some o → h'.get? it = some o) : IsSeqIter tp h' it a i := by
  cases tp with
  | true =>
    obtain ⟨o, e1, c, d⟩ := e
    exact ⟨o, k o e1, c, d⟩
  | false =>
    obtain ⟨o, e1, c, d⟩ := e
    exact ⟨o, k o e1, c, d⟩
def SqS (K : PySem.W.Frag) (tp : Bool) (H : Hp) (a : Addr) (xs : List V) : Prop := match tp with
  | true => SqT K H a xs
  | false => SqL K H a xs
section
variable {X : Cx} {pins : List (Addr × Obj)} {σ : L2.St} {H : Hp} {s : Shared} {a : Addr} {xs ys : List V}
theorem Inv.seqS {tp : Bool} (I : Inv X pins σ H s) (h : SqS X.K tp H a xs) : ∃ its : List Value, Vals xs its ∧ IsSeq tp s.heap a its.toArray := by
  cases tp with
  | true =>
    obtain ⟨its, r, p, _⟩ := I.tuple h
    exact ⟨its, r, p⟩
  | false =>
    obtain ⟨its, r, p, _⟩ := I.list h
    exact ⟨its, r, p.isList⟩
theorem Inv.seq_inj {tp : Bool} (I : Inv X pins σ H s) (h : SqS X.K tp H a xs) (h' : SqS X.K tp H a ys) : xs = ys := by
  cases tp with
  | true => exact I.tuple_inj h h'
  | false => exact I.list_inj h h'
theorem seq_lt {tp : Bool} {h : Heap} {items : Array Value} (e : IsSeq tp h a items) : a < h.objs.size := by
  cases tp with
  | true =>
    obtain ⟨o, e1, _⟩ := e
    exact Heap.lt_size e1
  | false =>
    obtain ⟨o, e1, _⟩ := e
    exact Heap.lt_size e1
end
theorem sqs_same {K : PySem.W.Frag} {tp : Bool} {F F' : Hp} {a : Addr} {xs : List V} (e : Same F F') (h : SqS K tp F a xs) : SqS K tp F' a xs := by
  cases tp with
  | true => exact same_t e h
  | false =>
    rcases h with h | h
    · exact .inl (rd_same e h)
    · exact .inr h
/-! ### an iterator that gives new tuples, by what the library says of it -/
theorem turn_gen {P : Program} {w : World} {K : PySem.W.Frag} {elts : List Expr} {kk : Nat} {tpos : Pos} (J : It) (recs : List Addr) (I0 : Addr) (Rec : Nat → Heap → Prop) (mem : I0 ∈ recs)
    (obj : ∀ i h, Rec i h → ∀ b ∈ recs, ∃ o, h.get? b = some o ∧ ∀ v, o.data ≠ .cell v)
    (keep : ∀ i h h', Rec i h → (∀ b ∈ recs, ∀ o, h.get? b = some o → h'.get? b = some o) → Rec i h')
    (self : ∀ (A : Around) (i : Nat) (s : Shared) (Q : Value → Shared → Prop) (E : Value → Shared → Prop), Rec i s.heap → Q (.ref I0) s → wpAny (model P w) A (pyIter (.ref I0)) Q E s)
    (hgo : ∀ (X : Cx), X.prog = P → X.w = w → X.K = K → X.calm = true → ∀ (i : Nat) (pins : List (Addr × Obj)) (s : Shared) (σ : L2.St) (H : Hp), Inv X pins σ H s → Rec i s.heap → J.go i H →
      ∃ (fp wr : List Addr) (n : Nat) (Pt : Nat → Array Value → Prop) (St : Nat → Heap → Prop) (Mid : Nat → Addr → Heap → Prop), WalksT P w X.A I0 fp wr n Pt St Mid ∧ i < n ∧ St i s.heap ∧ (∀ b ∈ wr, b ∈ recs) ∧ (∀ h, St (i + 1) h → Rec (i + 1) h) ∧
        ∀ vals, Pt i vals → ∃ xs, Vals xs vals.toList ∧ xs.length ≤ sizeLine ∧ ∀ T, H T = none → J.yld i H (.ref T) (upd H T (.tup xs)))
    (hstop : ∀ (X : Cx), X.prog = P → X.w = w → X.K = K → X.calm = true → ∀ (i : Nat) (pins : List (Addr × Obj)) (s : Shared) (σ : L2.St) (H : Hp), Inv X pins σ H s → Rec i s.heap → J.stop i H →
      ∃ (fp wr : List Addr) (Pt : Nat → Array Value → Prop) (St : Nat → Heap → Prop) (Mid : Nat → Addr → Heap → Prop), WalksT P w X.A I0 fp wr i Pt St Mid ∧ St i s.heap ∧ (∀ b ∈ wr, b ∈ recs)) :
    Turn P w K (.Tuple elts kk tpos) J recs I0 Rec where
  mem := mem
  obj := obj
  keep := keep
  item := by
    intro X hP hw hK hc i pins s σ H E I hf st hg
    obtain ⟨fp, wr, n, Pt, St, Mid, W, hi, hst, hwr, hrec, hval⟩ := hgo X hP hw hK hc i pins s σ H I st hg
    subst hP hw hK
    refine W.item i s _ _ hi hst fun T vals h' tk hPt hT hTup hMid hk => ⟨_, rfl, ?_⟩
    refine W.go elts kk tpos i T { s with heap := h', toks := tk } _ _ hMid fun h'' hSt hk2 => ?_
    obtain ⟨xs, rv, hz, hy⟩ := hval vals hPt
    have hTn : H T = none := I.hok.fresh hT
    have apart : T ∉ wr := W.apart _ _ _ hMid
    have hT2 : h''.IsTuple T vals := by
      obtain ⟨o, e1, e2⟩ := hTup
      exact ⟨o, hk2 T o apart e1, e2⟩
    have new : ObjOk X.prog X.w (upd H T (.tup xs)) h'' T (.tup xs) := ⟨hz, vals.toList, rv, by
      show h''.IsTuple T vals.toList.toArray
      simpa using hT2⟩
    have I1 : Inv X pins σ (upd H T (.tup xs)) { s with heap := h'', toks := tk } :=
      I.turnedNew (ch := wr) (fun b o hb e => hk2 b o hb (hk b o hb e)) (fun b hb => hf b (hwr b hb)) hT new
    refine ⟨.ref T, _, I1, rfl, hy T hTn, hrec _ hSt, fun b hb => ?_⟩
    have hbT : b ≠ T := fun z => by
      obtain ⟨o, e, _⟩ := obj _ _ st b hb
      exact absurd (Heap.lt_size e) (by rw [z]; exact Nat.not_lt.mpr hT)
    rw [upd_ne hbT]
    exact (hf b hb).1
  done := by
    intro X hP hw hK hc i pins s σ H E I hf st hg
    obtain ⟨fp, wr, Pt, St, Mid, W, hst, hwr⟩ := hstop X hP hw hK hc i pins s σ H I st hg
    subst hP hw hK
    exact W.done s _ _ hst fun h' tk hk => ⟨rfl, I.turnedL (t' := tk) (ch := wr) (fun b o hb e => hk b o hb e) fun b hb => hf b (hwr b hb)⟩
  self := fun A i s Q E st h => self A i s Q E st h
/-! ### enumerate -/
set_option maxHeartbeats 1000000 in
theorem meets_enum1 {v : Value} {o : Obj} {H : Heap → Prop} (B : Begins v o H) :
    Meets (Builtin.«enumerate.__new__» ⟨[.type "enumerate", v], []⟩) (fun _ R s => H s.heap ∧
      R (.ok (.ret (.ref (s.heap.push o).objs.size))) { s with heap := (s.heap.push o).push { cls := .type "enumerate", data := .fields #[.none, .bool false, .ref s.heap.objs.size, rawInt 0, .none, .none] } }) :=
  .of_wp fun prog w A R s h => by
    obtain ⟨hp, g, d, tk, os⟩ := s; obtain ⟨h1, h⟩ := h
    have hsub := sub_enumerate
    have q1 : ∀ {A' : Around} {E : Value → Shared → Prop} {Q : Value → Shared → Prop}, Q (.ref hp.objs.size) ⟨hp.push o, g, d, tk, os⟩ → wpAny (model prog w) A' (pyIter v) Q E ⟨hp, g, d, tk, os⟩ :=
      fun q => B.iter prog w _ _ ⟨hp, g, d, tk, os⟩ _ h1 q
    wp_walk using q1
    refine wpAny_stack_any fun st => wpAny_pure ?_
    split
    · rename_i c _ _ _ _ _
      cases (c == Value.type "enumerate")
      · wp_walk using q1
        exact ⟨_, rfl, h⟩
      · wp_walk using q1
        exact ⟨_, rfl, h⟩
    · wp_walk using q1
      exact ⟨_, rfl, h⟩
theorem enum_begins1 {P : Program} {w : World} {A : Around} {E : Value → Shared → Prop} {s : Shared} {v : Value} {o : Obj} {H : Heap → Prop} {Q : Value → Shared → Prop} (B : Begins v o H) (h1 : H s.heap)
    (h : ∀ h', IsEnum h' (s.heap.objs.size + 1) s.heap.objs.size 0 .none → h'.get? s.heap.objs.size = some o → h'.objs.size = s.heap.objs.size + 2 →
      (∀ b o, s.heap.get? b = some o → h'.get? b = some o) → Q (.ref (s.heap.objs.size + 1)) { s with heap := h' }) :
    wpAny (model P w) A (call (.type "enumerate") [v]) Q E s := by
  refine callType_new F.called_enumerate (by decide) (F.typeCall_enumerate_1 _) (F.newCall_enumerate_1 _) (fun obj => F.args_object_init_2 obj _) F.entry_enumerate_new
    (meets_enum1 B) ⟨h1, ?_⟩
  have hz : (s.heap.push o).objs.size = s.heap.objs.size + 1 := Heap.size_push ..
  show _ ∧ _
  rw [hz]
  have he : IsEnum ((s.heap.push o).push { cls := .type "enumerate", data := .fields #[.none, .bool false, .ref s.heap.objs.size, rawInt 0, .none, .none] }) (s.heap.objs.size + 1) s.heap.objs.size 0 .none := by
    have := Heap.get?_push_size (s.heap.push o) (o := { cls := .type "enumerate", data := .fields #[.none, .bool false, .ref s.heap.objs.size, rawInt 0, .none, .none] }) rfl
    rw [hz] at this; exact this
  refine ⟨⟨_, he, rfl⟩, h _ he (Heap.get?_push_of_some _ (Heap.get?_push_size _ B.free)) (by rw [Heap.size_push, hz]) fun b o x => Heap.get?_push_of_some _ (Heap.get?_push_of_some _ x)⟩
def IteS (K : PySem.W.Frag) (tp : Bool) (a : Addr) : It :=
  ⟨fun i H => ∃ (xs : List V) (x : V), SqS K tp H a xs ∧ xs[i]? = some x, fun i H v H' => ∃ T x, v = .ref T ∧ H T = none ∧ H' = upd H T (.tup [.int (i : Nat), x]) ∧ ∀ xs, SqS K tp H a xs → xs[i]? = some x, fun i H => ∃ xs : List V, SqS K tp H a xs ∧ xs.length = i⟩
theorem turn_enumS {P : Program} {w : World} {K : PySem.W.Frag} {elts : List Expr} {kk : Nat} {tpos : Pos} (tp : Bool) (a e it : Addr) (hei : e ≠ it) (hea : e ≠ a) (hia : a ≠ it) :
    Turn P w K (.Tuple elts kk tpos) (IteS K tp a) [e, it] e (fun i h => (∃ old, IsEnum h e it (0 + (i : Int)) old) ∧ IsSeqIter tp h it a i) := by
  have hef : e ∉ [it, a] := by simp [hei, hea]
  have wtop : ∀ (X : Cx), X.A.handled = none → ∀ its : List Value, WalksT P w X.A e (e :: [it, a]) [e, it] its.toArray.size _ _ _ := fun X hh its =>
    WalksT.enumFrom 0 (draws_seq (P := P) (w := w) (A := X.A.in1) (by simpa using hh) tp it a hia its.toArray) e hei hef (by simp)
  refine turn_gen _ _ _ _ (by simp) (fun i h st b hb => ?_) (fun i h h' st k => ?_) (fun A i s Q E st h => ?_) ?_ ?_
  · obtain ⟨⟨old, he⟩, hi⟩ := st
    have e' : b = e ∨ b = it := by simpa using hb
    rcases e' with z | z
    · rw [z]; exact ⟨_, he, fun v q => nomatch q⟩
    · rw [z]; exact seqIter_obj hi
  · obtain ⟨⟨old, he⟩, hi⟩ := st
    exact ⟨⟨old, k e (by simp) _ he⟩, seqIter_at hi fun o q => k it (by simp) o q⟩
  · obtain ⟨⟨old, he⟩, _⟩ := st
    exact wpAny_pyIter_enum he h
  · intro X hP hw hK hc i pins s σ H I st hg
    obtain ⟨xs, x, hq, hx⟩ := hg
    subst hK
    obtain ⟨its, rv, p⟩ := Inv.seqS I hq
    obtain ⟨u, hu, ru⟩ := rv.get hx
    have hi : i < its.toArray.size := by
      have := (List.getElem?_eq_some_iff.mp hu).1
      simpa using this
    refine ⟨_, _, _, _, _, _, wtop X (I.ok.hd hc) its, hi, ⟨st.1, st.2, p⟩, fun b hb => hb, fun h hs => ⟨hs.1, hs.2.1⟩, fun vals hv => ?_⟩
    obtain ⟨t, y, hy, rfl⟩ := hv
    have hy : its[i]? = some y := by simpa using hy
    rw [hu] at hy
    cases hy
    refine ⟨[.int (i : Nat), x], .cons ⟨t, by rw [Int.zero_add]⟩ (.cons ru .nil), by show 2 ≤ sizeLine; decide, fun T hT => ⟨T, x, rfl, hT, rfl, fun ys hys => by rw [Inv.seq_inj I hys hq]; exact hx⟩⟩
  · intro X hP hw hK hc i pins s σ H I st hg
    obtain ⟨xs, hq, hx⟩ := hg
    subst hK
    obtain ⟨its, rv, p⟩ := Inv.seqS I hq
    have hl : i = its.toArray.size := by rw [← hx, rv.length]; simp
    refine ⟨e :: [it, a], [e, it], _, _, _, hl ▸ wtop X (I.ok.hd hc) its, ⟨st.1, st.2, p⟩, fun b hb => hb⟩
/-! ### zip -/
def It2S (K : PySem.W.Frag) (tp tq : Bool) (a b : Addr) : It :=
  ⟨fun i H => ∃ (xs ys : List V) (x y : V), SqS K tp H a xs ∧ SqS K tq H b ys ∧ xs[i]? = some x ∧ ys[i]? = some y,
    fun i H v H' => ∃ T x y, v = .ref T ∧ H T = none ∧ H' = upd H T (.tup [x, y]) ∧ (∀ xs, SqS K tp H a xs → xs[i]? = some x) ∧ ∀ ys, SqS K tq H b ys → ys[i]? = some y,
    fun i H => ∃ xs ys : List V, SqS K tp H a xs ∧ SqS K tq H b ys ∧ i = min xs.length ys.length⟩
theorem turn_zip2S {P : Program} {w : World} {K : PySem.W.Frag} {elts : List Expr} {kk : Nat} {tpos : Pos} (tp tq : Bool) (a b N : Addr) (ha : a < N) (hb : b < N) :
    Turn P w K (.Tuple elts kk tpos) (It2S K tp tq a b) [N + 4, N + 2, N + 3, N, N + 1] (N + 4) (fun i h => IsZip h (N + 4) (N + 2) (N + 3) .none ∧ IsTupOf2 h (N + 2) (.ref N) (.ref (N + 1)) ∧ (∃ a1 a2, IsTupOf2 h (N + 3) a1 a2) ∧ IsSeqIter tp h N a i ∧ IsSeqIter tq h (N + 1) b i) := by
  have S : ZipSep2 (N + 4) (N + 2) (N + 3) N (N + 1) [N, a] [N + 1, b] := zip_sep2 (N := N) (fp1 := [a]) (fp2 := [b]) (fun z hz => by simp at hz; rw [hz]; exact ha) (fun z hz => by simp at hz; rw [hz]; exact hb)
  have wtop : ∀ (X : Cx), X.A.handled = none → ∀ its its2 : List Value, WalksT P w X.A (N + 4) _ _ (min its.toArray.size its2.toArray.size) _ _ _ := fun X hh its its2 =>
    WalksT.zipD2 S (draws_seq (P := P) (w := w) (A := X.A.in1) (by simpa using hh) tp N a (Nat.ne_of_lt ha) its.toArray) (draws_seq (P := P) (w := w) (A := X.A.in1) (by simpa using hh) tq (N + 1) b (Nat.ne_of_lt (Nat.lt_succ_of_lt hb)) its2.toArray)
  refine turn_gen _ _ _ _ (by simp) (fun i h st c hc => ?_) (fun i h h' st k => ?_) (fun A i s Q E st h => ?_) ?_ ?_
  · obtain ⟨hz, hTI, ⟨x, y, hTO⟩, h1, h2⟩ := st
    have e' : c = N + 4 ∨ c = N + 2 ∨ c = N + 3 ∨ c = N ∨ c = N + 1 := by simpa using hc
    rcases e' with q | q | q | q | q
    · rw [q]; exact ⟨_, hz, fun v q => nomatch q⟩
    · rw [q]; exact ⟨_, hTI, fun v q => nomatch q⟩
    · rw [q]; exact ⟨_, hTO, fun v q => nomatch q⟩
    · rw [q]; exact seqIter_obj h1
    · rw [q]; exact seqIter_obj h2
  · obtain ⟨hz, hTI, ⟨x, y, hTO⟩, h1, h2⟩ := st
    exact ⟨k (N + 4) (by simp) _ hz, k (N + 2) (by simp) _ hTI, ⟨x, y, k (N + 3) (by simp) _ hTO⟩, seqIter_at h1 fun o q => k N (by simp) o q, seqIter_at h2 fun o q => k (N + 1) (by simp) o q⟩
  · exact wpAny_pyIter_zip st.1 h
  · intro X hP hw hK hc i pins s σ H I st hg
    obtain ⟨xs, ys, x, y, hq, hq2, hx, hy⟩ := hg
    subst hK
    obtain ⟨its, rv, p⟩ := Inv.seqS I hq
    obtain ⟨its2, rv2, p2⟩ := Inv.seqS I hq2
    obtain ⟨u, hu, ru⟩ := rv.get hx
    obtain ⟨u2, hu2, ru2⟩ := rv2.get hy
    have hi : i < min its.toArray.size its2.toArray.size := by
      have h1 := (List.getElem?_eq_some_iff.mp hu).1
      have h2 := (List.getElem?_eq_some_iff.mp hu2).1
      simp
      omega
    obtain ⟨hz, hTI, hTO, h1, h2⟩ := st
    refine ⟨_, _, _, _, _, _, wtop X (I.ok.hd hc) its its2, hi, ⟨hz, hTI, hTO, ⟨h1, p⟩, ⟨h2, p2⟩⟩, fun c hcm => ?_, fun h hs => ⟨hs.1, hs.2.1, hs.2.2.1, hs.2.2.2.1.1, hs.2.2.2.2.1⟩, fun vals hv => ?_⟩
    · have e' : c = N + 4 ∨ c = N + 3 ∨ c = N ∨ c = N + 1 := by simpa using hcm
      rcases e' with q | q | q | q <;> simp [q]
    · obtain ⟨z1, z2, y1, y2, rfl⟩ := hv
      have y1 : its[i]? = some z1 := by simpa using y1
      have y2 : its2[i]? = some z2 := by simpa using y2
      rw [hu] at y1
      rw [hu2] at y2
      cases y1
      cases y2
      exact ⟨[x, y], .cons ru (.cons ru2 .nil), by show 2 ≤ sizeLine; decide, fun T hT => ⟨T, x, y, rfl, hT, rfl, fun l hl => by rw [Inv.seq_inj I hl hq]; exact hx, fun l hl => by rw [Inv.seq_inj I hl hq2]; exact hy⟩⟩
  · intro X hP hw hK hc i pins s σ H I st hg
    obtain ⟨xs, ys, hq, hq2, hx⟩ := hg
    subst hK
    obtain ⟨its, rv, p⟩ := Inv.seqS I hq
    obtain ⟨its2, rv2, p2⟩ := Inv.seqS I hq2
    have hl : i = min its.toArray.size its2.toArray.size := by rw [hx, rv.length, rv2.length]; simp
    obtain ⟨hz, hTI, hTO, h1, h2⟩ := st
    refine ⟨_, _, _, _, _, hl ▸ wtop X (I.ok.hd hc) its its2, ⟨hz, hTI, hTO, ⟨h1, p⟩, ⟨h2, p2⟩⟩, fun c hcm => ?_⟩
    have e' : c = N + 4 ∨ c = N + 3 ∨ c = N ∨ c = N + 1 := by simpa using hcm
    rcases e' with q | q | q | q <;> simp [q]
def It3S (K : PySem.W.Frag) (tp tq tr : Bool) (a b d : Addr) : It :=
  ⟨fun i H => ∃ (xs ys zs : List V) (x y z : V), SqS K tp H a xs ∧ SqS K tq H b ys ∧ SqS K tr H d zs ∧ xs[i]? = some x ∧ ys[i]? = some y ∧ zs[i]? = some z,
    fun i H v H' => ∃ T x y z, v = .ref T ∧ H T = none ∧ H' = upd H T (.tup [x, y, z]) ∧ (∀ xs, SqS K tp H a xs → xs[i]? = some x) ∧ (∀ ys, SqS K tq H b ys → ys[i]? = some y) ∧ ∀ zs, SqS K tr H d zs → zs[i]? = some z,
    fun i H => ∃ xs ys zs : List V, SqS K tp H a xs ∧ SqS K tq H b ys ∧ SqS K tr H d zs ∧ i = min (min xs.length ys.length) zs.length⟩
theorem turn_zip3S {P : Program} {w : World} {K : PySem.W.Frag} {elts : List Expr} {kk : Nat} {tpos : Pos} (tp tq tr : Bool) (a b d N : Addr) (ha : a < N) (hb : b < N) (hd : d < N) :
    Turn P w K (.Tuple elts kk tpos) (It3S K tp tq tr a b d) [N + 5, N + 3, N + 4, N, N + 1, N + 2] (N + 5) (fun i h => IsZip h (N + 5) (N + 3) (N + 4) .none ∧ IsTupOf3 h (N + 3) (.ref N) (.ref (N + 1)) (.ref (N + 2)) ∧ (∃ a1 a2 a3, IsTupOf3 h (N + 4) a1 a2 a3) ∧ IsSeqIter tp h N a i ∧ IsSeqIter tq h (N + 1) b i ∧ IsSeqIter tr h (N + 2) d i) := by
  have S : ZipSep3 (N + 5) (N + 3) (N + 4) N (N + 1) (N + 2) [N, a] [N + 1, b] [N + 2, d] := zip_sep3 (N := N) (fp1 := [a]) (fp2 := [b]) (fp3 := [d]) (fun z hz => by simp at hz; rw [hz]; exact ha) (fun z hz => by simp at hz; rw [hz]; exact hb) (fun z hz => by simp at hz; rw [hz]; exact hd)
  have wtop : ∀ (X : Cx), X.A.handled = none → ∀ its its2 its3 : List Value, WalksT P w X.A (N + 5) _ _ (min (min its.toArray.size its2.toArray.size) its3.toArray.size) _ _ _ := fun X hh its its2 its3 =>
    WalksT.zipD3 S (draws_seq (P := P) (w := w) (A := X.A.in1) (by simpa using hh) tp N a (Nat.ne_of_lt ha) its.toArray) (draws_seq (P := P) (w := w) (A := X.A.in1) (by simpa using hh) tq (N + 1) b (Nat.ne_of_lt (Nat.lt_succ_of_lt hb)) its2.toArray)
      (draws_seq (P := P) (w := w) (A := X.A.in1) (by simpa using hh) tr (N + 2) d (Nat.ne_of_lt (Nat.lt_succ_of_lt (Nat.lt_succ_of_lt hd))) its3.toArray)
  refine turn_gen _ _ _ _ (by simp) (fun i h st c hc => ?_) (fun i h h' st k => ?_) (fun A i s Q E st h => ?_) ?_ ?_
  · obtain ⟨hz, hTI, ⟨x, y, z, hTO⟩, h1, h2, h3⟩ := st
    have e' : c = N + 5 ∨ c = N + 3 ∨ c = N + 4 ∨ c = N ∨ c = N + 1 ∨ c = N + 2 := by simpa using hc
    rcases e' with q | q | q | q | q | q
    · rw [q]; exact ⟨_, hz, fun v q => nomatch q⟩
    · rw [q]; exact ⟨_, hTI, fun v q => nomatch q⟩
    · rw [q]; exact ⟨_, hTO, fun v q => nomatch q⟩
    · rw [q]; exact seqIter_obj h1
    · rw [q]; exact seqIter_obj h2
    · rw [q]; exact seqIter_obj h3
  · obtain ⟨hz, hTI, ⟨x, y, z, hTO⟩, h1, h2, h3⟩ := st
    exact ⟨k (N + 5) (by simp) _ hz, k (N + 3) (by simp) _ hTI, ⟨x, y, z, k (N + 4) (by simp) _ hTO⟩, seqIter_at h1 fun o q => k N (by simp) o q, seqIter_at h2 fun o q => k (N + 1) (by simp) o q, seqIter_at h3 fun o q => k (N + 2) (by simp) o q⟩
  · exact wpAny_pyIter_zip st.1 h
  · intro X hP hw hK hc i pins s σ H I st hg
    obtain ⟨xs, ys, zs, x, y, z, hq, hq2, hq3, hx, hy, hzz⟩ := hg
    subst hK
    obtain ⟨its, rv, p⟩ := Inv.seqS I hq
    obtain ⟨its2, rv2, p2⟩ := Inv.seqS I hq2
    obtain ⟨its3, rv3, p3⟩ := Inv.seqS I hq3
    obtain ⟨u, hu, ru⟩ := rv.get hx
    obtain ⟨u2, hu2, ru2⟩ := rv2.get hy
    obtain ⟨u3, hu3, ru3⟩ := rv3.get hzz
    have hi : i < min (min its.toArray.size its2.toArray.size) its3.toArray.size := by
      have h1 := (List.getElem?_eq_some_iff.mp hu).1
      have h2 := (List.getElem?_eq_some_iff.mp hu2).1
      have h3 := (List.getElem?_eq_some_iff.mp hu3).1
      simp
      omega
    obtain ⟨hz, hTI, hTO, h1, h2, h3⟩ := st
    refine ⟨_, _, _, _, _, _, wtop X (I.ok.hd hc) its its2 its3, hi, ⟨hz, hTI, hTO, ⟨h1, p⟩, ⟨h2, p2⟩, ⟨h3, p3⟩⟩, fun c hcm => ?_, fun h hs => ⟨hs.1, hs.2.1, hs.2.2.1, hs.2.2.2.1.1, hs.2.2.2.2.1.1, hs.2.2.2.2.2.1⟩, fun vals hv => ?_⟩
    · have e' : c = N + 5 ∨ c = N + 4 ∨ c = N ∨ c = N + 1 ∨ c = N + 2 := by simpa using hcm
      rcases e' with q | q | q | q | q <;> simp [q]
    · obtain ⟨z1, z2, z3, y1, y2, y3, rfl⟩ := hv
      have y1 : its[i]? = some z1 := by simpa using y1
      have y2 : its2[i]? = some z2 := by simpa using y2
      have y3 : its3[i]? = some z3 := by simpa using y3
      rw [hu] at y1
      rw [hu2] at y2
      rw [hu3] at y3
      cases y1
      cases y2
      cases y3
      exact ⟨[x, y, z], .cons ru (.cons ru2 (.cons ru3 .nil)), by show 3 ≤ sizeLine; decide, fun T hT => ⟨T, x, y, z, rfl, hT, rfl, fun l hl => by rw [Inv.seq_inj I hl hq]; exact hx, fun l hl => by rw [Inv.seq_inj I hl hq2]; exact hy, fun l hl => by rw [Inv.seq_inj I hl hq3]; exact hzz⟩⟩
  · intro X hP hw hK hc i pins s σ H I st hg
    obtain ⟨xs, ys, zs, hq, hq2, hq3, hx⟩ := hg
    subst hK
    obtain ⟨its, rv, p⟩ := Inv.seqS I hq
    obtain ⟨its2, rv2, p2⟩ := Inv.seqS I hq2
    obtain ⟨its3, rv3, p3⟩ := Inv.seqS I hq3
    have hl : i = min (min its.toArray.size its2.toArray.size) its3.toArray.size := by rw [hx, rv.length, rv2.length, rv3.length]; simp
    obtain ⟨hz, hTI, hTO, h1, h2, h3⟩ := st
    refine ⟨_, _, _, _, _, hl ▸ wtop X (I.ok.hd hc) its its2 its3, ⟨hz, hTI, hTO, ⟨h1, p⟩, ⟨h2, p2⟩, ⟨h3, p3⟩⟩, fun c hcm => ?_⟩
    have e' : c = N + 5 ∨ c = N + 4 ∨ c = N ∨ c = N + 1 ∨ c = N + 2 := by simpa using hcm
    rcases e' with q | q | q | q | q <;> simp [q]
section
variable {Z : SrcK} {X : Cx} {E : L2.St → XK} {K : PySem.W.Frag} {a b d e : Expr} {wa wb wc : EW} {pos : Pos} {c : Cfg} {F H : Hp} {σ : L2.St} {ρ : Env}
def iEnumS (K : PySem.W.Frag) (ta : TA) : TI := fun σ H R => ta σ H fun vs H1 => ∃ (tp : Bool) (a : Addr) (xs : List V), vs = [.ref a] ∧ SqS K tp H1 a xs ∧ R (IteS K tp a) H1
theorem pi_enumS {ta : TA} {p tpos : Pos} {elts : List Expr} {kk : Nat} (hg : Gl X "enumerate") (hm : X.mg "enumerate" = none) (ha : PA X [e] ta) (hs : starEach [e] X.env = [(false, eval e X.env)]) :
    PI X (.Tuple elts kk tpos) (.Call (.Name "enumerate" p) [e] [] pos) (iEnumS X.K ta) := by
  refine ⟨fun pins s σ H R I h => ?_⟩
  refine Call_ (ld_blt I hg hm boot_enumerate (PyProof.Rows.callWith_type1 (thn (ha.run pos pins s σ H _ I h) fun us s1 ⟨vs, H1, I1, r1, q1⟩ => ?_) hs rfl))
  obtain ⟨tp, a, xs, rfl, hq, q⟩ := q1
  cases r1 with
  | cons r rr =>
    cases rr
    cases r
    obtain ⟨its, rv, p'⟩ := Inv.seqS I1 hq
    have hal := seq_lt p'
    refine enum_begins1 (begins_seq tp a its.toArray) p' fun h' he hit hsz hk => wpAny_pyIter_enum he ?_
    have I2 : Inv X pins σ H1 { s1 with heap := h' } := I1.kept (t' := s1.toks) hk
    refine ⟨s1.heap.objs.size + 1, [s1.heap.objs.size + 1, s1.heap.objs.size], _, _, H1, rfl, I2, turn_enumS tp a (s1.heap.objs.size + 1) s1.heap.objs.size (Nat.succ_ne_self _) (Nat.ne_of_gt (Nat.lt_succ_of_lt hal)) (Nat.ne_of_lt hal), ⟨⟨.none, he⟩, seq_start hit⟩, fun b hb => ?_, q⟩
    have e' : b = s1.heap.objs.size + 1 ∨ b = s1.heap.objs.size := by simpa using hb
    have hle : s1.heap.objs.size ≤ b := by
      rcases e' with z | z
      · rw [z]; exact Nat.le_add_right _ _
      · rw [z]; exact Nat.le_refl _
    exact I1.fpOk hle (I1.hok.fresh hle)
def iZip2S (K : PySem.W.Frag) (ta : TA) : TI := fun σ H R => ta σ H fun vs H1 => ∃ (tp tq : Bool) (a b : Addr) (xs ys : List V), vs = [.ref a, .ref b] ∧ SqS K tp H1 a xs ∧ SqS K tq H1 b ys ∧ R (It2S K tp tq a b) H1
theorem pi_zip2S {ta : TA} {p tpos : Pos} {elts : List Expr} {kk : Nat} (hg : Gl X "zip") (hm : X.mg "zip" = none) (ha : PA X [a, b] ta)
    (hs : starEach [a, b] X.env = (false, eval a X.env) :: starEach [b] X.env) (hpl : (backTo pos (starEach [b] X.env)).any (·.1) = false) :
    PI X (.Tuple elts kk tpos) (.Call (.Name "zip" p) [a, b] [] pos) (iZip2S X.K ta) := by
  refine ⟨fun pins s σ H R I h => ?_⟩
  refine Call_ (ld_blt I hg hm PyProof.Rows.boot_zip (PyProof.Rows.callWith_type1 (thn (ha.run pos pins s σ H _ I h) fun us s1 ⟨vs, H1, I1, r1, q1⟩ => ?_) hs hpl))
  obtain ⟨tp, tq, a, b, xs, ys, rfl, hq, hq2, q⟩ := q1
  cases r1 with
  | cons r rr =>
    cases rr with
    | cons r' rr =>
      cases rr
      cases r
      cases r'
      obtain ⟨its, rv, p1⟩ := Inv.seqS I1 hq
      obtain ⟨its2, rv2, p2⟩ := Inv.seqS I1 hq2
      refine zip_begins2 (begins_seq tp a its.toArray) (begins_seq tq b its2.toArray) p1 p2 fun h' hz hTI hTO h1 h2 hsz hk => wpAny_pyIter_zip hz ?_
      have I2 : Inv X pins σ H1 { s1 with heap := h' } := I1.kept (t' := s1.toks) hk
      refine ⟨s1.heap.objs.size + 4, [s1.heap.objs.size + 4, s1.heap.objs.size + 2, s1.heap.objs.size + 3, s1.heap.objs.size, s1.heap.objs.size + 1], _, _, H1, rfl, I2, turn_zip2S tp tq a b s1.heap.objs.size (seq_lt p1) (seq_lt p2), ⟨hz, hTI, ⟨_, _, hTO⟩, seq_start h1, seq_start h2⟩, fun c hcm => ?_, q⟩
      have e' : c = s1.heap.objs.size + 4 ∨ c = s1.heap.objs.size + 2 ∨ c = s1.heap.objs.size + 3 ∨ c = s1.heap.objs.size ∨ c = s1.heap.objs.size + 1 := by simpa using hcm
      have hle : s1.heap.objs.size ≤ c := by
        rcases e' with z | z | z | z | z
        · rw [z]; exact Nat.le_add_right _ _
        · rw [z]; exact Nat.le_add_right _ _
        · rw [z]; exact Nat.le_add_right _ _
        · rw [z]; exact Nat.le_refl _
        · rw [z]; exact Nat.le_add_right _ _
      exact I1.fpOk hle (I1.hok.fresh hle)
def iZip3S (K : PySem.W.Frag) (ta : TA) : TI := fun σ H R => ta σ H fun vs H1 => ∃ (tp tq tr : Bool) (a b d : Addr) (xs ys zs : List V), vs = [.ref a, .ref b, .ref d] ∧ SqS K tp H1 a xs ∧ SqS K tq H1 b ys ∧ SqS K tr H1 d zs ∧ R (It3S K tp tq tr a b d) H1
theorem pi_zip3S {ta : TA} {p tpos : Pos} {elts : List Expr} {kk : Nat} (hg : Gl X "zip") (hm : X.mg "zip" = none) (ha : PA X [a, b, d] ta)
    (hs : starEach [a, b, d] X.env = (false, eval a X.env) :: starEach [b, d] X.env) (hpl : (backTo pos (starEach [b, d] X.env)).any (·.1) = false) :
    PI X (.Tuple elts kk tpos) (.Call (.Name "zip" p) [a, b, d] [] pos) (iZip3S X.K ta) := by
  refine ⟨fun pins s σ H R I h => ?_⟩
  refine Call_ (ld_blt I hg hm PyProof.Rows.boot_zip (PyProof.Rows.callWith_type1 (thn (ha.run pos pins s σ H _ I h) fun us s1 ⟨vs, H1, I1, r1, q1⟩ => ?_) hs hpl))
  obtain ⟨tp, tq, tr, a, b, d, xs, ys, zs, rfl, hq, hq2, hq3, q⟩ := q1
  cases r1 with
  | cons r rr =>
    cases rr with
    | cons r' rr =>
      cases rr with
      | cons r'' rr =>
        cases rr
        cases r
        cases r'
        cases r''
        obtain ⟨its, rv, p1⟩ := Inv.seqS I1 hq
        obtain ⟨its2, rv2, p2⟩ := Inv.seqS I1 hq2
        obtain ⟨its3, rv3, p3⟩ := Inv.seqS I1 hq3
        refine zip_begins3 (begins_seq tp a its.toArray) (begins_seq tq b its2.toArray) (begins_seq tr d its3.toArray) p1 p2 p3 fun h' hz hTI hTO h1 h2 h3 hsz hk => wpAny_pyIter_zip hz ?_
        have I2 : Inv X pins σ H1 { s1 with heap := h' } := I1.kept (t' := s1.toks) hk
        refine ⟨s1.heap.objs.size + 5, [s1.heap.objs.size + 5, s1.heap.objs.size + 3, s1.heap.objs.size + 4, s1.heap.objs.size, s1.heap.objs.size + 1, s1.heap.objs.size + 2], _, _, H1, rfl, I2, turn_zip3S tp tq tr a b d s1.heap.objs.size (seq_lt p1) (seq_lt p2) (seq_lt p3), ⟨hz, hTI, ⟨_, _, _, hTO⟩, seq_start h1, seq_start h2, seq_start h3⟩, fun c hcm => ?_, q⟩
        have e' : c = s1.heap.objs.size + 5 ∨ c = s1.heap.objs.size + 3 ∨ c = s1.heap.objs.size + 4 ∨ c = s1.heap.objs.size ∨ c = s1.heap.objs.size + 1 ∨ c = s1.heap.objs.size + 2 := by simpa using hcm
        have hle : s1.heap.objs.size ≤ c := by
          rcases e' with z | z | z | z | z | z
          · rw [z]; exact Nat.le_add_right _ _
          · rw [z]; exact Nat.le_add_right _ _
          · rw [z]; exact Nat.le_add_right _ _
          · rw [z]; exact Nat.le_refl _
          · rw [z]; exact Nat.le_add_right _ _
          · rw [z]; exact Nat.le_add_right _ _
        exact I1.fpOk hle (I1.hok.fresh hle)
end
end DL
set_option linter.all false
set_option autoImplicit false
set_option maxHeartbeats 2000000
set_option maxRecDepth 100000
/-! Constants, + of lists, sorted, enumerate, zip. -/
namespace DL
open PySem PySem.Spec PyProof.Rows L2

/-- a constant of the module -/
structure Gc (K : PySem.W.Frag) (mg : Str → Option Value) (x : Str) (d : D) : Prop where
  ex : ∃ (v : V) (u : Value), (∀ F, Rep K F d v) ∧ mg x = some u ∧ RelV v u
theorem Gc.int {K : PySem.W.Frag} {mg : Str → Option Value} {x : Str} {i : Int} {t : Tok} (h : mg x = some (.int i t)) : Gc K mg x (.int i) := ⟨.int i, _, fun _ => rfl, h, t, rfl⟩
theorem Gc.str {K : PySem.W.Frag} {mg : Str → Option Value} {x : Str} {i : Str} {t : Tok} (h : mg x = some (.str i t)) : Gc K mg x (.str i) := ⟨.str i, _, fun _ => rfl, h, t, rfl⟩
/-- values in the kit's fixed part of the heap -/
theorem Gc.tup {K : PySem.W.Frag} {mg : Str → Option Value} {x : Str} {a : Addr} {ds : List D} {vs : List V} {o : Obj} {its : Array Value} {n : Nat} (h : mg x = some (.ref a)) (hl : K.lookup a = some o) (hc : o.cls = .type "tuple") (hd : o.data = .seq its n) (hz : its.size ≤ sizeLine)
    (hr : ∀ F, RepL K F ds vs) (hv : Vals vs its.toList) : Gc K mg x (.tup ds) := ⟨.ref a, _, fun F => ⟨a, vs, rfl, .inr ⟨o, its, n, hl, hc, hd, hz, hv⟩, hr F⟩, h, rfl⟩

def lCat (a b : EW) : LW := fun X ρ Q => a X ρ fun x => b X ρ fun y => match x, y with
  | .lst xs, .lst ys => xs.length + ys.length ≤ 100000 ∧ Q (xs ++ ys)
  | _, _ => False
def bSorted : List D → (List D → Prop) → Prop
  | [.lst xs], Q => (∀ x ∈ xs, ∃ i j, x = .tup [.int i, .int j]) ∧ ∀ ys, ys.Perm xs → Q ys
  | _, _ => False
def iZip3W (a b d : EW) : IW := fun X ρ Q => a X ρ fun x => b X ρ fun y => d X ρ fun z => match seqD x, seqD y, seqD z with
  | some xs, some ys, some zs => Q (List.zipWith (fun x p => match p with
    | (y, z) => .tup [x, y, z]) xs (ys.zip zs))
  | _, _, _ => False
def iZip2W (a b : EW) : IW := fun X ρ Q => a X ρ fun x => b X ρ fun y => match seqD x, seqD y with
  | some xs, some ys => Q (pairD xs ys)
  | _, _ => False
def iEnum2W (a : EW) : IW := fun X ρ Q => a X ρ fun x => match seqD x with
  | some xs => Q (enumD xs)
  | _ => False

section
variable {Z : SrcK} {X : Cx} {E : L2.St → XK} {K : PySem.W.Frag} {a b e tg : Expr} {wa wb wc : EW} {pos : Pos} {c : Cfg} {F H : Hp} {σ : L2.St} {ρ : Env}
theorem de_gc {x : Str} {d : D} (g : Gc X.K X.mg x d) (hg : Gl X x := by rfl) (hd : (x == ("__debug__" : Str)) = false := by decide) : DE Z X E (.Name x pos) (wC d) := by
  obtain ⟨v, u, r0, hm, r⟩ := g.ex
  exact de_glob r0 hm r hg hd
theorem dl_cat (ha : DE Z X E a wa) (hb : DE Z X E b wb) : DLs Z X E (.BinOp a .Add b pos) (lCat wa wb) := by
  obtain ⟨ta, pa, la⟩ := ha
  obtain ⟨tb, pb, lb⟩ := hb
  refine ⟨_, pe_op op_catR pa pb, fun c F H σ ρ Xd Qd Qv e k h q => ?_⟩
  refine la c F H σ ρ Xd _ _ e k h fun dx vx F1 H1 h1 e1 s1 n1 r1 => ?_
  refine lb c F1 H1 σ ρ Xd _ _ e1 (k.mono s1 n1.nx) h1 fun dy vy F2 H2 h2 e2 s2 n2 r2 => ?_
  cases dx with
  | lst xs =>
    cases dy with
    | lst ys =>
      obtain ⟨p, vs, rfl, z1, z2⟩ := Rep.mono s2 _ _ r1
      obtain ⟨p', ws, rfl, y1, y2⟩ := r2
      refine ⟨p, p', vs, ws, rfl, rfl, same_l e2.fh z1, same_l e2.fh y1, by rw [z2.len, y2.len]; exact sz h2.1, fun m hm => ?_⟩
      exact q _ m _ F2 _ h2.2 (e2.lay hm) (s1.trans s2) ((n1.trans n2).trans (Kx.lay hm)) ((n1.trans n2).free hm) (e2.fh.free hm) upd_same (z2.app y2)
    | non => exact h2.elim
    | bl _ => exact h2.elim
    | int _ => exact h2.elim
    | str _ => exact h2.elim
    | tup _ => exact h2.elim
    | ins _ _ _ => exact h2.elim
  | non => exact h2.elim
  | bl _ => exact h2.elim
  | int _ => exact h2.elim
  | str _ => exact h2.elim
  | tup _ => exact h2.elim
  | ins _ _ _ => exact h2.elim
/-! ### sorted -/
theorem RepL.perm {F : Hp} : ∀ {vs ws : List V}, ws.Perm vs → ∀ {xs : List D}, RepL K F xs vs → ∃ ys, ys.Perm xs ∧ RepL K F ys ws := fun {vs ws} p => by
  induction p with
  | nil =>
    intro xs h
    exact ⟨xs, .refl _, h⟩
  | cons x _ ih =>
    intro xs h
    cases xs with
    | nil => cases (h : _ = [])
    | cons d ds =>
      obtain ⟨v, t, e, r1, r2⟩ := h
      cases e
      obtain ⟨ys, p1, p2⟩ := ih r2
      exact ⟨d :: ys, p1.cons d, _, _, rfl, r1, p2⟩
  | swap x y l =>
    intro xs h
    cases xs with
    | nil => cases (h : _ = [])
    | cons d ds =>
      obtain ⟨v, t, e, r1, r2⟩ := h
      cases e
      cases ds with
      | nil => cases (r2 : _ = [])
      | cons d2 ds =>
        obtain ⟨v2, t2, e, r3, r4⟩ := r2
        cases e
        exact ⟨d2 :: d :: ds, .swap _ _ _, _, _, rfl, r3, _, _, rfl, r1, r4⟩
  | trans _ _ ih1 ih2 =>
    intro xs h
    obtain ⟨ys, p1, p2⟩ := ih2 h
    obtain ⟨zs, p3, p4⟩ := ih1 p2
    exact ⟨zs, p3.trans p1, p4⟩
def rSortD (K : PySem.W.Frag) : List V → Hp → VK → Prop := fun vs H Q => ∃ a xs, vs = [V.ref a] ∧ SqL K H a xs ∧ (∀ x ∈ xs, ∃ t i j, x = V.ref t ∧ SqT K H t [.int i, .int j]) ∧
  ∀ ys p, ys.Perm xs → H p = none → Q (.ref p) (upd H p (.lst ys))
theorem cr_sortD : CallR X (.builtin "sorted") (rSortD X.K) := by
  intro pins s σ H vs us Q I r h
  obtain ⟨a, xs, rfl, hs, hx, q⟩ := h
  obtain ⟨its, rv, hl, hz⟩ := I.list hs
  obtain ⟨u, rfl, ru⟩ := vals1 r
  obtain rfl : u = Value.ref a := ru
  obtain ⟨e1, e2⟩ := refs_back rv fun x m => by
    obtain ⟨t, _, _, e, _⟩ := hx x m
    exact ⟨t, e⟩
  refine Srt.sorted_pairs hl.isList (by rw [← rv.length]; exact hz) (fun v hv => ?_) fun h' d out hp k hd hn => ?_
  · obtain ⟨t, rfl⟩ := e2 v hv
    have hm : V.ref t ∈ xs := by rw [e1]; exact List.mem_map.mpr ⟨_, hv, rfl⟩
    obtain ⟨t', i, j, e, ht⟩ := hx _ hm
    cases e
    obtain ⟨its2, r2, ⟨o, ho, hc, n, hd⟩, _⟩ := I.tuple ht
    obtain ⟨u1, u2, rfl, ri, rj⟩ := vals2 r2
    obtain ⟨t1, rfl⟩ := ri
    obtain ⟨t2, rfl⟩ := rj
    exact ⟨i, j, t, o, t1, t2, n, rfl, ho, hc, hd⟩
  · have h3 : ∀ u ∈ out, ∃ a, u = Value.ref a := fun u hu => e2 u (hp.mem_iff.mp hu)
    obtain ⟨n, hn⟩ := hn
    refine ⟨.ref d, upd H d (.lst (out.map backV)), I.laid (t' := s.toks) k hd ⟨?_, out, n, vals_back h3, hn⟩, rfl, q _ d ?_ (I.hok.fresh hd)⟩
    · rw [List.length_map, hp.length_eq, ← rv.length]; exact hz
    · rw [e1]; exact hp.map backV
theorem RepL.mem {F : Hp} : ∀ {xs : List D} {vs : List V} {v : V}, RepL K F xs vs → v ∈ vs → ∃ d ∈ xs, Rep K F d v
  | [], vs, v, h, m => by
    have h : vs = [] := h
    rw [h] at m
    cases m
  | x :: xs, vs, v, h, m => by
    obtain ⟨u, r, rfl, h1, h2⟩ := h
    rcases List.mem_cons.mp m with z | z
    · subst z
      exact ⟨x, List.mem_cons_self, h1⟩
    · obtain ⟨d, m1, m2⟩ := RepL.mem h2 z
      exact ⟨d, List.mem_cons_of_mem _ m1, m2⟩
theorem lcl_sorted : LCL K (rSortD K) bSorted := fun F H ds vs Qd Qv s r z q => by
  unfold bSorted at z
  split at z
  · rename_i xs
    obtain ⟨v, rfl, a, ws, rfl, h2, h3⟩ := repL_1 r
    refine ⟨a, ws, rfl, same_l s h2, fun x hx => ?_, fun ys p hp hn => ?_⟩
    · obtain ⟨d, m1, m2⟩ := h3.mem hx
      obtain ⟨i, j, rfl⟩ := z.1 d m1
      obtain ⟨t, vs, e1, e2, e3⟩ := m2
      obtain ⟨v1, v2, rfl, r1, r2⟩ := repL_2 e3
      have r1 : v1 = .int i := r1
      have r2 : v2 = .int j := r2
      subst r1 r2
      exact ⟨t, i, j, e1, same_t s e2⟩
    · obtain ⟨zs, p1, p2⟩ := h3.perm hp
      exact q zs p ys (z.2 zs p1) hn p2
  · exact z.elim
variable {es : List Expr} {ws : AW}
theorem dl_cb {id : String} {x : Str} {p : Pos} {r : List V → Hp → VK → Prop} {o : List D → (List D → Prop) → Prop} (hc : CallR X (.builtin id) r) (ho : LCL X.K r o) (hm : X.mg x = none) (hv : bootBuiltins x = some (.builtin id)) (ha : DA Z X E (e :: es) ws) (hg : Gl X x := by rfl)
    (hn : x ≠ "__name__" := by decide) (hdb : (x == ("__debug__" : Str)) = false := by decide)
    (he : starEach (e :: es) X.env = (false, eval e X.env) :: starEach es X.env := by rfl) (hpl : (backTo pos (starEach es X.env)).any (·.1) = false := by rfl) : DLs Z X E (.Call (.Name x p) (e :: es) [] pos) (lCB o ws) := by
  obtain ⟨t, pa, la⟩ := ha
  exact ⟨_, pe_callB hc hg hm hv pa hn hdb he hpl, ll_cb ho la⟩
/-! ### enumerate, zip -/
theorem seq_rep {d : D} {xs : List D} {v : V} (h : seqD d = some xs) (r : Rep K F d v) : ∃ tp a vs, v = .ref a ∧ SqS K tp F a vs ∧ RepL K F xs vs := by
  cases d with
  | tup ys =>
    cases h
    obtain ⟨a, vs, e, h1, h2⟩ := r
    exact ⟨true, a, vs, e, h1, h2⟩
  | lst ys =>
    cases h
    obtain ⟨a, vs, e, h1, h2⟩ := r
    exact ⟨false, a, vs, e, h1, h2⟩
  | non => cases h
  | bl _ => cases h
  | int _ => cases h
  | str _ => cases h
  | ins _ _ _ => cases h
theorem sqs_inj {tp : Bool} {a : Addr} {xs ys : List V} (e : Same F H) (h : SqS K tp F a xs) : ∀ zs, (∀ ys, SqS K tp H a ys → zs = ys) → zs = xs := fun zs q => q xs (sqs_same e h)
theorem pairD_get {xs ys : List D} {i : Nat} {d : D} (h : (pairD xs ys)[i]? = some d) : ∃ x y, d = .tup [x, y] ∧ xs[i]? = some x ∧ ys[i]? = some y := by
  unfold pairD at h
  rw [List.getElem?_zipWith] at h
  cases q1 : xs[i]? with
  | none => rw [q1] at h; cases h
  | some x =>
    cases q2 : ys[i]? with
    | none => rw [q1, q2] at h; cases h
    | some y =>
      rw [q1, q2] at h
      cases h
      exact ⟨x, y, rfl, rfl, rfl⟩
theorem items_pair {J : It} {xs ys : List D} {G : Hp → Prop} {f g : Nat → Option V} (w : Walk J (pairD xs ys).length G (YPair f g)) (hG : ∀ H, Same F H → G H)
    (hf : ∀ i x v, xs[i]? = some x → f i = some v → ∀ F1, Same F F1 → Rep K F1 x v) (hg : ∀ i y v, ys[i]? = some y → g i = some v → ∀ F1, Same F F1 → Rep K F1 y v) : ItemsOk K F J (pairD xs ys) := by
  refine ⟨G, _, w, hG, fun i d H1 v H2 F1 hd y s1 s2 => ?_⟩
  obtain ⟨T, x1, x2, rfl, hT, rfl, h1, h2⟩ := y
  obtain ⟨x, y, rfl, g1, g2⟩ := pairD_get hd
  obtain ⟨k, r⟩ := lay_tup (K := K) s2 (xs := [x, y]) (vs := [x1, x2]) ⟨x1, [x2], rfl, hf i x x1 g1 h1 F1 s1, x2, [], rfl, hg i y x2 g2 h2 F1 s1, rfl⟩ hT
  exact ⟨_, k, r⟩
theorem pairD_len {xs ys : List D} : (pairD xs ys).length = min xs.length ys.length := by simp [pairD]
theorem walk_enumS {tp : Bool} {a : Addr} {xs : List V} : Walk (IteS K tp a) xs.length (fun H => SqS K tp H a xs) (YPair (fun i => some (.int (i : Nat))) (fun i => xs[i]?)) := by
  refine ⟨fun i _ hi q => ⟨xs, xs[i], q, by simp [hi]⟩, fun _ q => ⟨xs, q, rfl⟩, fun i H v H' _ q y => ?_⟩
  obtain ⟨T, x, h1, h2, h3, h4⟩ := y
  exact ⟨T, .int (i : Nat), x, h1, h2, h3, rfl, h4 xs q⟩
theorem walk_zip2S {tp tq : Bool} {a b : Addr} {xs ys : List V} {n : Nat} (hn : n = min xs.length ys.length) : Walk (It2S K tp tq a b) n (fun H => SqS K tp H a xs ∧ SqS K tq H b ys) (YPair (fun i => xs[i]?) (fun i => ys[i]?)) := by
  subst hn
  refine ⟨fun i _ hi q => ?_, fun _ q => ⟨xs, ys, q.1, q.2, rfl⟩, fun i H v H' _ q y => ?_⟩
  · have h1 : i < xs.length := by omega
    have h2 : i < ys.length := by omega
    exact ⟨xs, ys, xs[i], ys[i], q.1, q.2, by simp [h1], by simp [h2]⟩
  · obtain ⟨T, x, z, h1, h2, h3, h4, h5⟩ := y
    exact ⟨T, x, z, h1, h2, h3, h4 xs q.1, h5 ys q.2⟩
theorem rep_at {xs : List D} {vs : List V} {i : Nat} {x : D} {v : V} (r : RepL K F xs vs) (h : xs[i]? = some x) (k : vs[i]? = some v) {F1 : Hp} (s : Same F F1) : Rep K F1 x v := by
  obtain ⟨u, h1, h2⟩ := r.get h
  rw [h1] at k
  cases k
  exact Rep.mono s _ _ h2
theorem di_enum {p tpos : Pos} {elts : List Expr} {kk : Nat} (hm : X.mg "enumerate" = none) (ha : DE Z X E e wa) (hg : Gl X "enumerate" := by rfl) (hs : starEach [e] X.env = [(false, eval e X.env)] := by rfl) :
    DI Z X E (.Tuple elts kk tpos) (.Call (.Name "enumerate" p) [e] [] pos) (iEnum2W wa) := by
  obtain ⟨t, pa, l⟩ := ha
  refine ⟨_, pi_enumS hg hm (pa_cons pa pa_nil hs) hs, fun c F H σ ρ Xd Qd R e k h q => ?_⟩
  refine l c F H σ ρ Xd _ _ e k h fun d v F1 H1 h1 e1 s1 n1 r1 => ?_
  cases z : seqD d with
  | none => rw [z] at h1; exact h1.elim
  | some xs =>
    rw [z] at h1
    obtain ⟨tp, a, vs, rfl, g1, g2⟩ := seq_rep z r1
    refine ⟨tp, a, vs, rfl, sqs_same e1.fh g1, q _ _ F1 H1 h1 e1 s1 n1 ?_⟩
    refine items_pair (G := fun H => SqS X.K tp H a vs) (f := fun i => some (.int (i : Nat))) (g := fun i => vs[i]?) ?_ (fun H s => sqs_same s g1) (fun i x v hx hv F1 s => ?_) (fun i y v hy hv F1 s => rep_at g2 hy hv s)
    · have el : (pairD (rangeD 0 xs.length) xs).length = vs.length := by rw [pairD_len, rangeD_len, g2.len]; omega
      rw [el]
      exact walk_enumS
    · cases hv
      rw [(rangeD_get hx).1]
      show V.int _ = V.int _
      rw [Int.zero_add]
theorem di_zip {p tpos : Pos} {elts : List Expr} {kk : Nat} (hm : X.mg "zip" = none) (ha : DE Z X E a wa) (hb : DE Z X E b wb) (hg : Gl X "zip" := by rfl) (hs : starEach [a, b] X.env = (false, eval a X.env) :: starEach [b] X.env := by rfl) (hs2 : starEach [b] X.env = (false, eval b X.env) :: starEach [] X.env := by rfl) (hpl : (backTo pos (starEach [b] X.env)).any (·.1) = false := by rfl) :
    DI Z X E (.Tuple elts kk tpos) (.Call (.Name "zip" p) [a, b] [] pos) (iZip2W wa wb) := by
  obtain ⟨t, pa, l⟩ := ha
  obtain ⟨t2, pb, l2⟩ := hb
  refine ⟨_, pi_zip2S hg hm (pa_cons pa (pa_cons pb pa_nil hs2) hs) hs hpl, fun c F H σ ρ Xd Qd R e k h q => ?_⟩
  refine l c F H σ ρ Xd _ _ e k h fun d v F1 H1 h1 e1 s1 n1 r1 => ?_
  refine l2 c F1 H1 σ ρ Xd _ _ e1 (k.mono s1 n1.nx) h1 fun d2 v2 F2 H2 h2 e2 s2 n2 r2 => ?_
  cases z : seqD d with
  | none => rw [z] at h2; exact h2.elim
  | some xs =>
    cases z2 : seqD d2 with
    | none => rw [z, z2] at h2; exact h2.elim
    | some ys =>
      rw [z, z2] at h2
      obtain ⟨tp, a, vs, rfl, g1, g2⟩ := seq_rep z (Rep.mono s2 _ _ r1)
      obtain ⟨tq, b, us, rfl, g3, g4⟩ := seq_rep z2 r2
      refine ⟨tp, tq, a, b, vs, us, rfl, sqs_same e2.fh g1, sqs_same e2.fh g3, q _ _ F2 H2 h2 e2 (s1.trans s2) (n1.trans n2) ?_⟩
      exact items_pair (walk_zip2S (by rw [pairD_len, g2.len, g4.len])) (fun H s => ⟨sqs_same s g1, sqs_same s g3⟩) (fun i x v hx hv F1 s => rep_at g2 hx hv s) (fun i y v hy hv F1 s => rep_at g4 hy hv s)
theorem walk_zip3S {tp tq tr : Bool} {a b d : Addr} {xs ys zs : List V} {n : Nat} (hn : n = min (min xs.length ys.length) zs.length) : Walk (It3S K tp tq tr a b d) n (fun H => SqS K tp H a xs ∧ SqS K tq H b ys ∧ SqS K tr H d zs)
    (fun i H v H' => ∃ T x y z, v = .ref T ∧ H T = none ∧ H' = upd H T (.tup [x, y, z]) ∧ xs[i]? = some x ∧ ys[i]? = some y ∧ zs[i]? = some z) := by
  subst hn
  refine ⟨fun i _ hi q => ?_, fun _ q => ⟨xs, ys, zs, q.1, q.2.1, q.2.2, rfl⟩, fun i H v H' _ q y => ?_⟩
  · have h1 : i < xs.length := by omega
    have h2 : i < ys.length := by omega
    have h3 : i < zs.length := by omega
    exact ⟨xs, ys, zs, xs[i], ys[i], zs[i], q.1, q.2.1, q.2.2, by simp [h1], by simp [h2], by simp [h3]⟩
  · obtain ⟨T, x, z, u, h1, h2, h3, h4, h5, h6⟩ := y
    exact ⟨T, x, z, u, h1, h2, h3, h4 xs q.1, h5 ys q.2.1, h6 zs q.2.2⟩
theorem di_zip3 {d : Expr} {wd : EW} {p tpos : Pos} {elts : List Expr} {kk : Nat} (hm : X.mg "zip" = none) (ha : DE Z X E a wa) (hb : DE Z X E b wb) (hd : DE Z X E d wd) (hg : Gl X "zip" := by rfl) (hs : starEach [a, b, d] X.env = (false, eval a X.env) :: starEach [b, d] X.env := by rfl) (hs2 : starEach [b, d] X.env = (false, eval b X.env) :: starEach [d] X.env := by rfl) (hs3 : starEach [d] X.env = (false, eval d X.env) :: starEach [] X.env := by rfl) (hpl : (backTo pos (starEach [b, d] X.env)).any (·.1) = false := by rfl) :
    DI Z X E (.Tuple elts kk tpos) (.Call (.Name "zip" p) [a, b, d] [] pos) (iZip3W wa wb wd) := by
  obtain ⟨t, pa, l⟩ := ha
  obtain ⟨t2, pb, l2⟩ := hb
  obtain ⟨t3, pd, l3⟩ := hd
  refine ⟨_, pi_zip3S hg hm (pa_cons pa (pa_cons pb (pa_cons pd pa_nil hs3) hs2) hs) hs hpl, fun c F H σ ρ Xd Qd R e k h q => ?_⟩
  refine l c F H σ ρ Xd _ _ e k h fun d v F1 H1 h1 e1 s1 n1 r1 => ?_
  refine l2 c F1 H1 σ ρ Xd _ _ e1 (k.mono s1 n1.nx) h1 fun d2 v2 F2 H2 h2 e2 s2 n2 r2 => ?_
  refine l3 c F2 H2 σ ρ Xd _ _ e2 (k.mono (s1.trans s2) (n1.nx.trans n2.nx)) h2 fun d3 v3 F3 H3 h3 e3 s3 n3 r3 => ?_
  cases z : seqD d with
  | none => rw [z] at h3; exact h3.elim
  | some xs =>
    cases z2 : seqD d2 with
    | none => rw [z, z2] at h3; exact h3.elim
    | some ys =>
      cases z3 : seqD d3 with
      | none => rw [z, z2, z3] at h3; exact h3.elim
      | some zs =>
        rw [z, z2, z3] at h3
        obtain ⟨tp, a, vs, rfl, g1, g2⟩ := seq_rep z (Rep.mono (s2.trans s3) _ _ r1)
        obtain ⟨tq, b, us, rfl, g3, g4⟩ := seq_rep z2 (Rep.mono s3 _ _ r2)
        obtain ⟨tr, b3, us3, rfl, g5, g6⟩ := seq_rep z3 r3
        refine ⟨tp, tq, tr, a, b, b3, vs, us, us3, rfl, sqs_same e3.fh g1, sqs_same e3.fh g3, sqs_same e3.fh g5, q _ _ F3 H3 h3 e3 ((s1.trans s2).trans s3) ((n1.trans n2).trans n3) ?_⟩
        refine ⟨_, _, walk_zip3S (xs := vs) (ys := us) (zs := us3) ?_, fun H s => ⟨sqs_same s g1, sqs_same s g3, sqs_same s g5⟩, fun i dd H1 v H2 F1 hd y s1 s2 => ?_⟩
        · simp only [List.length_zipWith, List.length_zip, g2.len, g4.len, g6.len]
          omega
        · obtain ⟨T, x1, x2, x3, rfl, hT, rfl, h1, h2, h3⟩ := y
          have key : ∀ x y u, xs[i]? = some x → ys[i]? = some y → zs[i]? = some u → D.tup [x, y, u] = dd := fun x y u q1 q2 q3 => by
            have qz : (ys.zip zs)[i]? = some (y, u) := List.getElem?_zip_eq_some.mpr ⟨q2, q3⟩
            rw [List.getElem?_zipWith, q1, qz] at hd
            exact Option.some.inj hd
          have hlen : i < xs.length ∧ i < ys.length ∧ i < zs.length := by
            have h := (List.getElem?_eq_some_iff.mp hd).1
            simp only [List.length_zipWith, List.length_zip] at h
            omega
          have q1 := List.getElem?_eq_getElem hlen.1
          have q2 := List.getElem?_eq_getElem hlen.2.1
          have q3 := List.getElem?_eq_getElem hlen.2.2
          have e := key _ _ _ q1 q2 q3
          subst e
          obtain ⟨k, r⟩ := lay_tup (K := X.K) s2 (xs := [xs[i], ys[i], zs[i]]) (vs := [x1, x2, x3]) ⟨x1, _, rfl, rep_at g2 q1 h1 s1, x2, _, rfl, rep_at g4 q2 h2 s1, x3, [], rfl, rep_at g6 q3 h3 s1, rfl⟩ hT
          exact ⟨_, k, r⟩
end
end DL
set_option linter.all false
set_option autoImplicit false
set_option maxHeartbeats 2000000
set_option maxRecDepth 100000
/-! A source of numbers: a list of a list of ints and two ints. -/
namespace DL
open PySem PySem.Spec PyProof.Rows L2
def AtA (H : Hp) (a g : Addr) (ns : List Int) (m t : Int) : Prop := a ≠ g ∧ H a = some (.lst [.ref g, .int m, .int t]) ∧ H g = some (.lst (ns.map V.int))
def PA0 (a : Addr) (fp : List Addr) (H : Hp) : Prop := ∃ g ns m t, fp = [a, g] ∧ AtA H a g ns m t
def SrcA : SrcK where
  P := PA0
  loc := fun {a fp H H'} h k => by
    obtain ⟨g, ns, m, t, rfl, h1, h2, h3⟩ := h
    exact ⟨g, ns, m, t, rfl, h1, by rw [k a (by simp)]; exact h2, by rw [k g (by simp)]; exact h3⟩
  tr := fun {a fp H} h => by
    obtain ⟨g, ns, m, t, rfl, h1, h2, h3⟩ := h
    refine ⟨by simp, fun b hb => ?_⟩
    have e : b = a ∨ b = g := by simpa using hb
    rcases e with e | e
    · rw [e, h2]; simp
    · rw [e, h3]; simp
/-- a draw -/
def spec_draw : Spec := fun ss Q _ => ∃ many : Int, ss = [.src, .d (.int many)] ∧ 0 < many ∧ many.natAbs.log2 < 9000 ∧ ∀ r : Int, 0 ≤ r → r < many → Q (.d (.int r))
theorem len_draw : ∀ ss Q Xe, spec_draw ss Q Xe → ss.length = 2 := fun ss Q Xe h => by
  obtain ⟨m, e, _⟩ := h
  rw [e] <;> rfl
/-- a new source, of a list of ints -/
def spNew (Z : SrcK) (K : PySem.W.Frag) : Sp := fun vs H Q _ => ∃ (a : Addr) (F : Hp) (ns : List Int), vs = [.ref a] ∧ Same F H ∧ Rep K F (.lst (ns.map D.int)) (.ref a) ∧ ns.length ≤ 63 ∧
  ∀ (F' H' : Hp) (p : Addr) (fp : List Addr), Same F F' → Same F' H' → (∀ b o, H b = some o → H' b = some o) → Z.P p fp H' → (∀ b ∈ fp, F' b = none ∧ H b = none) → Q (.ref p) H'
/-- what the source holds may change, and what was not there may come -/
structure Drawn (H H' : Hp) (a g : Addr) : Prop where
  keep : ∀ b o, H b = some o → b ≠ a → b ≠ g → H' b = some o
theorem Drawn.after {src : Option (Addr × List Addr)} {a g : Addr} {F H H' : Hp} {ns : List Int} {m t : Int} (h : src = some (a, [a, g])) (s : Same F H) (fa : ∀ b ∈ [a, g], F b = none) (d : Drawn H H' a g) (p : AtA H' a g ns m t) : After SrcA src (fpOf src) F H F H' := by
  subst h
  have na : ∀ b o, F b = some o → b ≠ a := fun b o e z => by rw [z, fa a (by simp)] at e; cases e
  have ng : ∀ b o, F b = some o → b ≠ g := fun b o e z => by rw [z, fa g (by simp)] at e; cases e
  refine ⟨Same.refl _, fun b o e => d.keep b o (s b o e) (na b o e) (ng b o e), fun b e => .inl e, fun b o e n => ?_, fun b e => ?_, fun a' fp' e => ?_⟩
  · have n : b ∉ [a, g] := n
    exact d.keep b o e (fun z => n (by simp [z])) (fun z => n (by simp [z]))
  · by_cases h1 : b = a
    · rw [h1, p.2.1]; simp
    · by_cases h2 : b = g
      · rw [h2, p.2.2]; simp
      · obtain ⟨o, e⟩ := ne_some e
        rw [d.keep b o e h1 h2]; simp
  · cases e
    exact ⟨⟨g, ns, m, t, rfl, p⟩, fa⟩
/-- a walk whose last part is told by the hand layer -/
def DSx (Z : SrcK) (X : Cx) (E : L2.St → XK) (sts : List Stmt) (w : SW) (t3 : TS) : Prop := ∃ t, PSs X sts t ∧ ∀ (c : Cfg) (F H : Hp) (σ : L2.St) (ρ : Env) (Xd : XD) (DD : DEnds) (D : Ends), EnvOk Z X.K c F H σ ρ → ELk Z X.K c F H E Xd → w Xd DD ρ → EndsOk Z X.K c F H DD { D with nx := t3 D } → t D σ H
theorem dsx_last {Z : SrcK} {X : Cx} {E : L2.St → XK} {st : Stmt} {rest : List Stmt} {w : SW} {t3 : TS} (h : DS Z X E st w) (p : PSs X rest t3) : DSx Z X E (st :: rest) w t3 := by
  obtain ⟨t, p0, l⟩ := h
  exact ⟨_, pss_cons p0 p, fun c F H σ ρ Xd DD D e k hw q => l c F H σ ρ Xd DD _ e k hw q⟩
theorem dsx_cons {Z : SrcK} {X : Cx} {E : L2.St → XK} {st : Stmt} {rest : List Stmt} {w v : SW} {t3 : TS} (h : DS Z X E st w) (r : DSx Z X E rest v t3) : DSx Z X E (st :: rest) (sSeq w v) t3 := by
  obtain ⟨t, p0, l⟩ := h
  obtain ⟨u, p1, l1⟩ := r
  refine ⟨_, pss_cons p0 p1, fun c F H σ ρ Xd DD D e k hw q => l c F H σ ρ Xd { DD with nx := v Xd DD } _ e k hw ⟨fun σ' ρ' F' H' x e' s' n' => ?_, q.rt, q.bk, q.ct⟩⟩
  exact l1 c F' H' σ' ρ' Xd DD D e' (k.mono s' n') x (q.mono s' n')
theorem AtA.fresh {H : Hp} {a g p : Addr} {ns : List Int} {m t : Int} {o : HO} (h : AtA H a g ns m t) (n : H p = none) : AtA (upd H p o) a g ns m t := by
  obtain ⟨h1, h2, h3⟩ := h
  exact ⟨h1, by rw [upd_ne (ne_of_none h2 n)]; exact h2, by rw [upd_ne (ne_of_none h3 n)]; exact h3⟩
theorem Drawn.fresh {H H' : Hp} {a g p : Addr} {o : HO} (d : Drawn H H' a g) (n : H' p = none) : Drawn H (upd H' p o) a g := ⟨fun b u e h1 h2 => by
  have := d.keep b u e h1 h2
  rw [upd_ne (ne_of_none this n)]
  exact this⟩
theorem AtA.setG {H : Hp} {a g : Addr} {ns : List Int} {m t : Int} (h : AtA H a g ns m t) (ns' : List Int) : AtA (upd H g (.lst (ns'.map V.int))) a g ns' m t := by
  obtain ⟨h1, h2, h3⟩ := h
  exact ⟨h1, by rw [upd_ne h1]; exact h2, upd_same⟩
theorem AtA.setA {H : Hp} {a g : Addr} {ns : List Int} {m t : Int} (h : AtA H a g ns m t) (m' t' : Int) : AtA (upd H a (.lst [.ref g, .int m', .int t'])) a g ns m' t' := by
  obtain ⟨h1, h2, h3⟩ := h
  exact ⟨h1, upd_same, by rw [upd_ne (Ne.symm h1)]; exact h3⟩
theorem Drawn.setG {H H' : Hp} {a g : Addr} {o : HO} (d : Drawn H H' a g) : Drawn H (upd H' g o) a g := ⟨fun b u e h1 h2 => by
  rw [upd_ne h2]
  exact d.keep b u e h1 h2⟩
theorem Drawn.setA {H H' : Hp} {a g : Addr} {o : HO} (d : Drawn H H' a g) : Drawn H (upd H' a o) a g := ⟨fun b u e h1 h2 => by
  rw [upd_ne h1]
  exact d.keep b u e h1 h2⟩
theorem AtA.list {K : PySem.W.Frag} {H : Hp} {a g : Addr} {ns : List Int} {m t : Int} (h : AtA H a g ns m t) : SqL K H a [.ref g, .int m, .int t] := SqL.of h.2.1
theorem AtA.glist {K : PySem.W.Frag} {H : Hp} {a g : Addr} {ns : List Int} {m t : Int} (h : AtA H a g ns m t) : SqL K H g (ns.map V.int) := SqL.of h.2.2
theorem dpInts {K : PySem.W.Frag} {H : Hp} : ∀ ns : List Int, DpAll K H (ns.map V.int) (ns.map PyData.int)
  | [] => .nil
  | n :: ns => .cons (.int n) (dpInts ns)
theorem shapedInts (ns : List Int) : SeqAt.shaped (.list (ns.map PyData.int)) = true := by
  have h : ∀ ns : List Int, plainL 39 (ns.map D.int) = true ∧ toPyL (ns.map D.int) = ns.map PyData.int := fun ns => by
    induction ns with
    | nil => exact ⟨by simp [plainL], by simp [toPyL]⟩
    | cons n ns ih =>
      refine ⟨?_, ?_⟩
      · rw [List.map_cons, plainL, Bool.and_eq_true]
        exact ⟨rfl, ih.1⟩
      · rw [List.map_cons, toPyL, ih.2]
        rfl
  have p : plain 40 (.lst (ns.map D.int)) = true := by
    rw [plain]
    exact (h ns).1
  have s := plain_shaped p
  rw [toPy, (h ns).2] at s
  exact s
theorem ne_nil (ns : List Int) : PyData.eqv (.list (ns.map PyData.int)) (.list []) = decide (ns = []) := by
  cases ns <;> simp [PyData.eqv, PyData.eqvAll]
/-- `great != []` -/
theorem rNe_nil {K : PySem.W.Frag} {H : Hp} {g p : Addr} {ns : List Int} {Q : VK} (h : SqL K H g (ns.map V.int)) (hp : H p = some (.lst [])) (q : Q (.bl (!decide (ns = []))) H) : rNeD K (.ref g) (.ref p) H Q := by
  refine ⟨.list (ns.map PyData.int), .list [], .lst h (dpInts ns), .lst (SqL.of hp) .nil, shapedInts ns, shapedInts [], ?_⟩
  rw [ne_nil]
  exact q
theorem cond_N {K : PySem.W.Frag} {H0 H : Hp} {a g : Addr} {ns : List Int} {m t : Int} {σ : L2.St} {i : Nat} (hσ : σ[i]? = some (some (.ref g))) (dr : Drawn H0 H a g) (at0 : AtA H a g ns m t) {Q : Bool → Hp → Prop}
    (q : ∀ H1, Drawn H0 H1 a g → AtA H1 a g ns m t → Q (!decide (ns = [])) H1) : tTest (tOp (rNeD K) (tVar i) (tLst tNil)) σ H Q := by
  refine ⟨.ref g, hσ, Nat.zero_le _, fun p hp => ?_⟩
  have at2 := at0.fresh (o := .lst []) hp
  exact rNe_nil at2.glist upd_same ⟨_, rfl, q _ (dr.fresh hp) at2⟩
theorem cond_A {K : PySem.W.Frag} {H0 H : Hp} {a g : Addr} {ns : List Int} {m t : Int} {σ : L2.St} {i : Nat} (hσ : σ[i]? = some (some (.ref g))) (dr : Drawn H0 H a g) (at0 : AtA H a g ns m t) {Q : Bool → Hp → Prop}
    (q : ∀ b H1, (b = true → ∃ r, ns = 0 :: r) → Drawn H0 H1 a g → AtA H1 a g ns m t → Q b H1) : tAnd (tTest (tOp (rNeD K) (tVar i) (tLst tNil))) (tTest (tOp rEq (tOp (rIxL K) (tVar i) (tC (.int 0))) (tC (.int 0)))) σ H Q := by
  refine cond_N hσ dr at0 fun H1 d1 a1 => ?_
  cases ns with
  | nil =>
    refine ite2 (fun z => ?_) fun _ => q false H1 (fun z => nomatch z) d1 a1
    simp at z
  | cons n r =>
    refine ite2 (fun _ => ?_) fun z => absurd (by simp) z
    refine ⟨.ref g, hσ, g, _, 0, .int n, rfl, rfl, a1.glist, atI_nat (j := 0) rfl, rfl, _, rfl, ?_⟩
    refine q _ H1 (fun z => ?_) d1 a1
    have z : V.int n = V.int 0 := of_decide_eq_true z
    cases z
    exact ⟨r, rfl⟩
end DL
set_option linter.all false
set_option autoImplicit false
set_option maxHeartbeats 2000000
/-! Rules for what texts ask of data; fractions. -/
namespace DL
open PySem L2
/-! ### loops -/
/-- by what is left, and slots -/
theorem forGo_inv {g : GW} {b : SW} {X : XD} {DD : DEnds} (I : List D → Env → Prop) (step : ∀ x r ρ, I (x :: r) ρ → ∀ N : Env → Prop, (∀ ρ', I r ρ' → N ρ') → g x ρ fun ρ' => b X { DD with nx := N, ct := N, bk := DD.nx } ρ')
    (last : ∀ ρ, I [] ρ → DD.nx ρ) : ∀ xs ρ, I xs ρ → forGo g b X DD xs ρ
  | [], ρ, h => last ρ h
  | x :: r, ρ, h => step x r ρ h _ fun ρ' h' => forGo_inv I step last r ρ' h'
inductive All2 (R : D → D → Prop) : List D → List D → Prop
  | nil : All2 R [] []
  | cons {x y : D} {xs ys : List D} : R x y → All2 R xs ys → All2 R (x :: xs) (y :: ys)
/-- [f(x) for x in xs] -/
theorem compGo_map {g : GW} {a : EW} {ρ : Env} {Q : List D → Prop} (R : D → D → Prop) : ∀ (xs acc : List D), (∀ x ∈ xs, ∀ Q' : D → Prop, (∀ y, R x y → Q' y) → g x ρ fun ρ' => a X0 ρ' Q') → acc.length + xs.length ≤ 100000 →
    (∀ ys, All2 R xs ys → Q (acc ++ ys)) → compGo g tYesW a ρ Q xs acc
  | [], acc, _, _, q => by
    have := q [] .nil
    rw [List.append_nil] at this
    exact this
  | x :: r, acc, h, hl, q => by
    rw [List.length_cons] at hl
    have key : compGo g tYesW a ρ Q (x :: r) acc = g x ρ fun ρ' => a X0 ρ' fun y => acc.length < 100000 ∧ compGo g tYesW a ρ Q r (acc ++ [y]) := rfl
    rw [key]
    refine h x List.mem_cons_self _ fun y hy => ⟨by omega, ?_⟩
    refine compGo_map R r (acc ++ [y]) (fun z hz => h z (List.mem_cons_of_mem _ hz)) (by rw [List.length_append, List.length_singleton]; omega) fun ys hys => ?_
    rw [List.append_assoc]
    exact q (y :: ys) (.cons hy hys)
inductive Filt (R : D → Option D → Prop) : List D → List D → Prop
  | nil : Filt R [] []
  | take {x y : D} {xs ys : List D} : R x (some y) → Filt R xs ys → Filt R (x :: xs) (y :: ys)
  | drop {x : D} {xs ys : List D} : R x none → Filt R xs ys → Filt R (x :: xs) ys
/-- [f(x) for x in xs if t(x)] -/
theorem compGo_filt {g : GW} {t : TW} {a : EW} {ρ : Env} {Q : List D → Prop} (R : D → Option D → Prop) : ∀ (xs acc : List D), (∀ x ∈ xs, ∀ (Q' : D → Prop) (N : Prop), (∀ y, R x (some y) → Q' y) → (R x none → N) → g x ρ fun ρ' => t X0 ρ' fun k => if k = true then a X0 ρ' Q' else N) → acc.length + xs.length ≤ 100000 →
    (∀ ys, Filt R xs ys → Q (acc ++ ys)) → compGo g t a ρ Q xs acc
  | [], acc, _, _, q => by
    have := q [] .nil
    rw [List.append_nil] at this
    exact this
  | x :: r, acc, h, hl, q => by
    rw [List.length_cons] at hl
    have key : compGo g t a ρ Q (x :: r) acc = g x ρ fun ρ' => t X0 ρ' fun k => if k = true then a X0 ρ' fun y => acc.length < 100000 ∧ compGo g t a ρ Q r (acc ++ [y]) else compGo g t a ρ Q r acc := rfl
    rw [key]
    refine h x List.mem_cons_self _ _ (fun y hy => ⟨by omega, ?_⟩) fun hn => ?_
    · refine compGo_filt R r (acc ++ [y]) (fun z hz => h z (List.mem_cons_of_mem _ hz)) (by rw [List.length_append, List.length_singleton]; omega) fun ys hys => ?_
      rw [List.append_assoc]
      exact q (y :: ys) (.take hy hys)
    · exact compGo_filt R r acc (fun z hz => h z (List.mem_cons_of_mem _ hz)) (by omega) fun ys hys => q ys (.drop hn hys)
theorem Filt.all {R : D → Option D → Prop} {P : D → Prop} {xs ys : List D} (h : Filt R xs ys) (k : ∀ x y, x ∈ xs → R x (some y) → P y) : ∀ y ∈ ys, P y := by
  induction h with
  | nil => exact fun y hy => nomatch hy
  | take r _ ih =>
    intro z hz
    rcases List.mem_cons.mp hz with e | hz
    · rw [e]
      exact k _ _ List.mem_cons_self r
    · exact ih (fun x y hx => k x y (List.mem_cons_of_mem _ hx)) z hz
  | drop _ _ ih => exact ih fun x y hx => k x y (List.mem_cons_of_mem _ hx)
theorem Filt.len {R : D → Option D → Prop} {xs ys : List D} (h : Filt R xs ys) : ys.length ≤ xs.length := by
  induction h with
  | nil => exact Nat.le_refl _
  | take _ _ ih => simp only [List.length_cons]; omega
  | drop _ _ ih => simp only [List.length_cons]; omega
/-- data that are ints -/
theorem ints_of : ∀ {xs : List D}, (∀ x ∈ xs, ∃ i : Int, x = .int i) → ∃ ns : List Int, xs = ns.map D.int
  | [], _ => ⟨[], rfl⟩
  | x :: xs, h => by
    obtain ⟨i, rfl⟩ := h x List.mem_cons_self
    obtain ⟨ns, rfl⟩ := ints_of fun y hy => h y (List.mem_cons_of_mem _ hy)
    exact ⟨i :: ns, rfl⟩
theorem all2_mem {R : D → D → Prop} {xs ys : List D} (h : All2 R xs ys) : ∀ y ∈ ys, ∃ x ∈ xs, R x y := by
  induction h with
  | nil => exact fun y hy => nomatch hy
  | cons r _ ih =>
    intro z hz
    rcases List.mem_cons.mp hz with e | hz
    · exact ⟨_, List.mem_cons_self, by rw [e]; exact r⟩
    · obtain ⟨x, m, r⟩ := ih z hz
      exact ⟨x, List.mem_cons_of_mem _ m, r⟩
theorem all2_len {R : D → D → Prop} {xs ys : List D} (h : All2 R xs ys) : ys.length = xs.length := by
  induction h with
  | nil => rfl
  | cons _ _ ih => rw [List.length_cons, List.length_cons, ih]
/-! ### sizes -/
theorem imul_sz {i j : Int} {n m : Nat} (h1 : i.natAbs < 2 ^ n) (h2 : j.natAbs < 2 ^ m) (h : n + m < 999000) : IMul i j := by
  refine .inr (.inr ?_)
  have a : i.natAbs.log2 < n + 1 := PySem.Flt.log2_lt_of (by omega) (Nat.lt_of_lt_of_le h1 (Nat.pow_le_pow_right (by decide) (by omega)))
  have b : j.natAbs.log2 < m + 1 := PySem.Flt.log2_lt_of (by omega) (Nat.lt_of_lt_of_le h2 (Nat.pow_le_pow_right (by decide) (by omega)))
  omega
theorem abs_mul_lt {i j : Int} {n m : Nat} (h1 : i.natAbs < 2 ^ n) (h2 : j.natAbs < 2 ^ m) : (i * j).natAbs < 2 ^ (n + m) := by
  rw [Int.natAbs_mul, Nat.pow_add]
  exact Nat.mul_lt_mul'' h1 h2
theorem abs_add_lt {i j : Int} {n : Nat} (h1 : i.natAbs < 2 ^ n) (h2 : j.natAbs < 2 ^ n) : (i + j).natAbs < 2 ^ (n + 1) := by
  rw [Nat.pow_succ]
  omega
theorem abs_sub_lt {i j : Int} {n : Nat} (h1 : i.natAbs < 2 ^ n) (h2 : j.natAbs < 2 ^ n) : (i - j).natAbs < 2 ^ (n + 1) := by
  rw [Nat.pow_succ]
  omega
theorem log_lt {i : Int} {n m : Nat} (h : i.natAbs < 2 ^ n) (hm : n < m) : i.natAbs.log2 < m :=
  PySem.Flt.log2_lt_of (by omega) (Nat.lt_of_lt_of_le h (Nat.pow_le_pow_right (by decide) (by omega)))
/-! ### fractions -/
/-- a fraction as the texts hold it -/
def fr (q : Rat) : D := .tup [.int q.num, .int q.den]
/-- both parts below 2 ^ n -/
def Sz (n : Nat) (q : Rat) : Prop := q.num.natAbs < 2 ^ n ∧ q.den < 2 ^ n
/-- top / bottom -/
def rat (top bottom : Int) : Rat := Rat.divInt top bottom
theorem rat_self (q : Rat) : rat q.num q.den = q := Rat.num_divInt_den q
theorem rat_eq (a b : Int) : rat a b = (a : Rat) / (b : Rat) := Rat.divInt_eq_div a b
theorem num_nz {q : Rat} (h : q ≠ 0) : q.num ≠ 0 := fun z => h (by
  have e := Rat.num_divInt_den q
  rw [z, Rat.zero_divInt] at e
  exact e.symm)
theorem gcd_pos {a b : Int} (h : b ≠ 0) : 0 < Int.gcd a b := Int.gcd_pos_of_ne_zero_right a h
/-- what lowest terms are -/
theorem low_parts {top bottom : Int} (hb : bottom ≠ 0) {f : Int} (hf : f = (Int.gcd top bottom : Int) * (if 0 < bottom then 1 else -1)) : f ≠ 0 ∧ top.fdiv f = (rat top bottom).num ∧ bottom.fdiv f = (rat top bottom).den := by
  have hg : 0 < Int.gcd top bottom := gcd_pos hb
  obtain ⟨t, ht⟩ : (Int.gcd top bottom : Int) ∣ top := Int.gcd_dvd_left ..
  obtain ⟨b, hb2⟩ : (Int.gcd top bottom : Int) ∣ bottom := Int.gcd_dvd_right ..
  generalize hG : (Int.gcd top bottom : Int) = G at *
  have hG0 : 0 < G := by omega
  have e1 : (rat top bottom).num = bottom.sign * top / G := by
    unfold rat
    rw [Rat.num_divInt, Int.gcd_comm bottom top, hG]
  have e2 : ((rat top bottom).den : Int) = (bottom.natAbs : Int) / G := by
    unfold rat
    rw [Rat.den_divInt, if_neg hb, Int.gcd_comm bottom top, Int.natCast_ediv, hG]
  rw [e1, e2]
  by_cases hp : 0 < bottom
  · rw [if_pos hp, Int.mul_one] at hf
    subst hf
    refine ⟨by omega, ?_, ?_⟩
    · rw [Int.sign_eq_one_of_pos hp, Int.one_mul, Int.fdiv_eq_ediv_of_nonneg _ (by omega)]
    · rw [Int.fdiv_eq_ediv_of_nonneg _ (by omega), Int.natAbs_of_nonneg (by omega)]
  · rw [if_neg hp] at hf
    have hn : bottom < 0 := by omega
    have hf2 : f = -G := by omega
    subst hf2
    refine ⟨by omega, ?_, ?_⟩
    · rw [Int.sign_eq_neg_one_of_neg hn, ht]
      rw [show -1 * (G * t) = G * (-t) by rw [Int.mul_neg]; omega, Int.mul_ediv_cancel_left _ (by omega)]
      rw [show G * t = (-G) * (-t) by rw [Int.neg_mul_neg], Int.mul_fdiv_cancel_left _ (by omega)]
    · rw [show (bottom.natAbs : Int) = -bottom by omega]
      rw [hb2]
      rw [show -(G * b) = G * (-b) by rw [Int.mul_neg], Int.mul_ediv_cancel_left _ (by omega)]
      rw [show G * b = (-G) * (-b) by rw [Int.neg_mul_neg], Int.mul_fdiv_cancel_left _ (by omega)]
theorem gcd_le {a b : Int} (h : b ≠ 0) : Int.gcd a b ≤ b.natAbs := Int.gcd_le_natAbs_right a h
theorem plain_fr (n : Nat) (q : Rat) : plain (n + 2) (fr q) = true := by simp [fr, plain, plainL]
theorem peq_fr (p q : Rat) : peq (fr p) (fr q) = decide (p = q) := by
  simp only [fr, peq, peqL, Bool.and_true]
  by_cases h : p = q
  · subst h
    simp
  · rw [decide_eq_false h]
    rw [Bool.and_eq_false_iff]
    by_cases h1 : p.num = q.num
    · right
      rw [beq_eq_false_iff_ne]
      intro z
      exact h (Rat.ext h1 (by omega))
    · left
      rw [beq_eq_false_iff_ne]
      exact h1
theorem fr_inj {p q : Rat} (h : fr p = fr q) : p = q := by
  unfold fr at h
  injection h with h
  injection h with h1 h2
  injection h1 with h1
  injection h2 with h2
  injection h2 with h2
  exact Rat.ext h1 (by omega)
theorem Sz.den {n : Nat} {q : Rat} (h : Sz n q) : (q.den : Int).natAbs < 2 ^ n := by
  have := h.2
  omega
theorem Sz.mono {n m : Nat} {q : Rat} (h : Sz n q) (k : n ≤ m) : Sz m q :=
  ⟨Nat.lt_of_lt_of_le h.1 (Nat.pow_le_pow_right (by decide) k), Nat.lt_of_lt_of_le h.2 (Nat.pow_le_pow_right (by decide) k)⟩
/-- parts in lowest terms are no greater -/
theorem sz_rat {a b : Int} {n : Nat} (hb : b ≠ 0) (h1 : a.natAbs < 2 ^ n) (h2 : b.natAbs < 2 ^ n) : Sz n (rat a b) := by
  unfold Sz rat
  rw [Rat.num_divInt, Rat.den_divInt, if_neg hb]
  constructor
  · rw [Int.natAbs_ediv_of_dvd ?_]
    · refine Nat.lt_of_le_of_lt (Nat.div_le_self _ _) ?_
      rw [Int.natAbs_mul, Int.natAbs_sign_of_ne_zero hb, Nat.one_mul]
      exact h1
    · exact Int.dvd_mul_of_dvd_right (Int.gcd_dvd_right ..)
  · exact Nat.lt_of_le_of_lt (Nat.div_le_self _ _) h2
theorem den_nz (q : Rat) : (q.den : Int) ≠ 0 := by
  have := q.den_pos
  omega
theorem den_q (q : Rat) : ((q.den : Int) : Rat) ≠ 0 := by
  have := den_nz q
  intro z
  exact this (by exact_mod_cast z)
theorem self_div (q : Rat) : q = (q.num : Rat) / ((q.den : Int) : Rat) := by
  have := rat_self q
  rw [rat_eq] at this
  exact this.symm
theorem rat_of (a b : Int) : rat a b = (a : Rat) / (b : Rat) := rat_eq a b
theorem add_rat (p q : Rat) : rat (p.num * q.den + q.num * p.den) (p.den * q.den) = p + q := by
  have h1 := den_q p
  have h2 := den_q q
  have e1 := self_div p
  have e2 := self_div q
  rw [rat_eq, Rat.intCast_add, Rat.intCast_mul, Rat.intCast_mul, Rat.intCast_mul]
  generalize (p.num : Rat) = a at *
  generalize ((p.den : Int) : Rat) = b at *
  generalize (q.num : Rat) = c at *
  generalize ((q.den : Int) : Rat) = d at *
  subst e1 e2
  grind
theorem sub_rat (p q : Rat) : rat (p.num * q.den - q.num * p.den) (p.den * q.den) = p - q := by
  have h1 := den_q p
  have h2 := den_q q
  have e1 := self_div p
  have e2 := self_div q
  rw [rat_eq, Rat.intCast_sub, Rat.intCast_mul, Rat.intCast_mul, Rat.intCast_mul]
  generalize (p.num : Rat) = a at *
  generalize ((p.den : Int) : Rat) = b at *
  generalize (q.num : Rat) = c at *
  generalize ((q.den : Int) : Rat) = d at *
  subst e1 e2
  grind
theorem mul_rat (p q : Rat) : rat (p.num * q.num) (p.den * q.den) = p * q := by
  have h1 := den_q p
  have h2 := den_q q
  have e1 := self_div p
  have e2 := self_div q
  rw [rat_eq, Rat.intCast_mul, Rat.intCast_mul]
  generalize (p.num : Rat) = a at *
  generalize ((p.den : Int) : Rat) = b at *
  generalize (q.num : Rat) = c at *
  generalize ((q.den : Int) : Rat) = d at *
  subst e1 e2
  grind
theorem num_q {q : Rat} (h : q ≠ 0) : (q.num : Rat) ≠ 0 := fun z => num_nz h (by exact_mod_cast z)
theorem div_rat (p q : Rat) (h : q ≠ 0) : rat (p.num * q.den) (p.den * q.num) = p / q := by
  have h1 := den_q p
  have h2 := den_q q
  have h3 := num_q h
  have e1 := self_div p
  have e2 := self_div q
  rw [rat_eq, Rat.intCast_mul, Rat.intCast_mul]
  generalize (p.num : Rat) = a at *
  generalize ((p.den : Int) : Rat) = b at *
  generalize (q.num : Rat) = c at *
  generalize ((q.den : Int) : Rat) = d at *
  subst e1 e2
  grind
theorem Sz.add {n m : Nat} {p q : Rat} (h1 : Sz n p) (h2 : Sz m q) : Sz (n + m + 1) (p + q) := by
  rw [← add_rat]
  refine sz_rat (Int.mul_ne_zero (den_nz p) (den_nz q)) ?_ ?_
  · exact abs_add_lt (abs_mul_lt h1.1 h2.den) (by rw [Nat.add_comm]; exact abs_mul_lt h2.1 h1.den)
  · exact Nat.lt_of_lt_of_le (abs_mul_lt h1.den h2.den) (Nat.pow_le_pow_right (by decide) (by omega))
theorem Sz.sub {n m : Nat} {p q : Rat} (h1 : Sz n p) (h2 : Sz m q) : Sz (n + m + 1) (p - q) := by
  rw [← sub_rat]
  refine sz_rat (Int.mul_ne_zero (den_nz p) (den_nz q)) ?_ ?_
  · exact abs_sub_lt (abs_mul_lt h1.1 h2.den) (by rw [Nat.add_comm]; exact abs_mul_lt h2.1 h1.den)
  · exact Nat.lt_of_lt_of_le (abs_mul_lt h1.den h2.den) (Nat.pow_le_pow_right (by decide) (by omega))
theorem Sz.mul {n m : Nat} {p q : Rat} (h1 : Sz n p) (h2 : Sz m q) : Sz (n + m) (p * q) := by
  rw [← mul_rat]
  exact sz_rat (Int.mul_ne_zero (den_nz p) (den_nz q)) (abs_mul_lt h1.1 h2.1) (abs_mul_lt h1.den h2.den)
theorem Sz.div {n m : Nat} {p q : Rat} (h1 : Sz n p) (h2 : Sz m q) (h : q ≠ 0) : Sz (n + m) (p / q) := by
  rw [← div_rat p q h]
  exact sz_rat (Int.mul_ne_zero (den_nz p) (num_nz h)) (abs_mul_lt h1.1 h2.den) (abs_mul_lt h1.den h2.1)
theorem Sz.neg {n : Nat} {p : Rat} (h1 : Sz n p) : Sz n (-p) := by
  refine ⟨?_, ?_⟩
  · rw [Rat.neg_num, Int.natAbs_neg]
    exact h1.1
  · rw [Rat.neg_den]
    exact h1.2
end DL
set_option linter.all false
set_option autoImplicit false
set_option maxHeartbeats 2000000
/-! The law's own def. -/
namespace DL
open PySem PySem.Spec PyProof.Rows L2
def spLaw (K : PySem.W.Frag) : Sp := fun vs H Q _ => ∃ (a : Addr) (ns : List Int), vs = [.ref a] ∧ SqL K H a (ns.map V.int) ∧ ns.length ≤ 63 ∧ ∀ H', Q (.bl true) H'
/-- the def that makes the source -/
structure MadeBy (P : Program) (w : World) (K : PySem.W.Frag) (mg : Str → Option Value) (base : Heap) (Z : SrcK) (k : Nat) (x : Str) : Prop where
  ex : ∃ (f : Addr) (fd : FuncData), FnOk P w K mg base (L2.CX P w) k f fd ["script"] (spNew Z K) ∧ mg x = some (.ref f) ∧ PySem.W.keepIn K (.ref f) = true ∧ Binds K fd ["script"] []
section
variable {P : Program} {w : World} {K : PySem.W.Frag} {mg : Str → Option Value} {base : Heap} {Z : SrcK}
theorem repL_ints {F : Hp} : ∀ ns : List Int, RepL K F (ns.map D.int) (ns.map V.int)
  | [] => rfl
  | n :: ns => ⟨.int n, _, rfl, rfl, repL_ints ns⟩
theorem law_of {st : Stmt} {f : Addr} {fd : FuncData} {N : List Str} {k i : Nat} {wb : SW} {p : Pos} {y v : Str} {p1 p2 p3 p4 : Pos} (F : Fun K "law" "law" st f fd) (S : FnScope N ["script"] (defScope st))
    (hfirst : (defBody st).head? = some (.Assign [.Name v p1] (.Call (.Name y p2) [.Name "script" p3] [] p4) p))
    (h0 : ∀ (cdv : Value) (A : Around) (outer : List PySem.Env) (s : Shared) (H : Hp) (E : XK), Room k (A.deeper (envOfC "law" (defScope st) s.heap.objs.size f cdv)) →
      PS (cxOf (L2.CX P w) P w K mg base N "law" (defScope st) f cdv A outer s H E) (.Assign [.Name v p1] (.Call (.Name y p2) [.Name "script" p3] [] p4) p) (tAsg (tCallS (spNew Z K) (fun _ => E) (tCons (tVar 0) tNil)) (gName i)))
    (hN : N.length = N.length - 1 + 1) (hi : 0 < i)
    (hbody : ∀ (cdv : Value) (A : Around) (outer : List PySem.Env) (s : Shared) (H : Hp) (E : XK), Room k (A.deeper (envOfC "law" (defScope st) s.heap.objs.size f cdv)) →
      DSs Z (cxOf (L2.CX P w) P w K mg base N "law" (defScope st) f cdv A outer s H E) (fun _ => E) (defBody st).tail wb)
    (hw : ∀ ns : List Int, ns.length ≤ 63 → wb (fun _ _ => False) { nx := fun _ => False, rt := fun r => r = .d (.bl true) } ((.d (.lst (ns.map D.int)) :: List.replicate (N.length - 1) .un).set i .src)) : FnOk P w K mg base (L2.CX P w) (k + 1) f fd ["script"] (spLaw K) := by
  refine F.okX S (fun vs H Q E h => ?_) (fun cdv A outer s H vs Q E hr h => ?_)
  · obtain ⟨a, ns, rfl, _⟩ := h
    rfl
  · obtain ⟨a, ns, rfl, hS, hlen, q⟩ := h
    obtain ⟨t, p, l⟩ := hbody cdv A outer s H E hr
    have p0 := h0 cdv A outer s H E hr
    have hsplit : ∀ (b : List Stmt) (x : Stmt), b.head? = some x → b = x :: b.tail := fun b x h => by
      cases b with
      | nil => cases h
      | cons z r =>
        cases h
        rfl
    refine ⟨_, by rw [hsplit _ _ hfirst]; exact pss_cons p0 p, ?_⟩
    refine ⟨.ref a, rfl, a, H, ns, rfl, Same.refl H, ⟨a, ns.map V.int, rfl, hS, repL_ints ns⟩, hlen, fun F' H' pp fp sF sH kp hP hfp => ?_⟩
    have e0 : EnvOk Z K ⟨none, H, H⟩ H H (L2.start N [.ref a]) (([.d (.lst (ns.map D.int))] : List SV) ++ List.replicate (N.length - 1) .un) :=
      env_start (src := none) (ss := [.d (.lst (ns.map D.int))]) (Same.refl H) (fun _ _ z => nomatch z) ⟨.ref a, [], rfl, ⟨a, ns.map V.int, rfl, hS, repL_ints ns⟩, rfl⟩ (by rw [hN]; simp)
    have e1 : EnvOk Z K ⟨some (pp, fp), F', H'⟩ F' H' ((L2.start N [.ref a]).set i (some (.ref pp))) ((.d (.lst (ns.map D.int)) :: List.replicate (N.length - 1) .un).set i .src) := by
      refine EnvOk.setS (s := .src) ⟨e0.len, fun j u hj => ?_, fun i j xs ys _ h1 _ => ?_, sH, Same.refl F', fun b hb => .inl hb, fun b o hb _ => hb, fun b hb => hb, fun a' fp' e => ?_⟩ ⟨pp, fp, rfl, rfl⟩ (fun _ _ z => nomatch z)
      · obtain ⟨o, o1, o2⟩ := e0.slot j u hj
        refine ⟨o, o1, ?_⟩
        cases u with
        | un => trivial
        | d x =>
          obtain ⟨v, z1, z2⟩ := o2
          exact ⟨v, z1, Rep.mono sF _ _ z2⟩
        | own xs =>
          exfalso
          cases j with
          | zero => cases hj
          | succ j =>
            have hj : (List.replicate (N.length - 1) SV.un)[j]? = some (SV.own xs) := hj
            rw [List.getElem?_replicate] at hj
            split at hj <;> cases hj
        | src =>
          exfalso
          cases j with
          | zero => cases hj
          | succ j =>
            have hj : (List.replicate (N.length - 1) SV.un)[j]? = some SV.src := hj
            rw [List.getElem?_replicate] at hj
            split at hj <;> cases hj
        | obj px C fs =>
          exfalso
          cases j with
          | zero => cases hj
          | succ j =>
            have hj : (List.replicate (N.length - 1) SV.un)[j]? = some (SV.obj px C fs) := hj
            rw [List.getElem?_replicate] at hj
            split at hj <;> cases hj
      · exfalso
        cases i with
        | zero => cases h1
        | succ j =>
          have h1 : (List.replicate (N.length - 1) SV.un)[j]? = some (SV.own xs) := h1
          rw [List.getElem?_replicate] at h1
          split at h1 <;> cases h1
      · cases e
        exact ⟨hP, fun b hb => ⟨(hfp b hb).1, (Z.tr hP).2 b hb⟩⟩
    refine l ⟨some (pp, fp), F', H'⟩ F' H' _ _ _ _ _ e1 elk0 (hw ns hlen) ⟨fun _ _ _ _ z => z.elim, fun r v σ ρ F2 H2 hr e2 s2 r2 => ?_, fun _ _ _ _ z => z.elim, fun _ _ _ _ z => z.elim⟩
    subst hr
    have r2 : v = .bl true := r2
    subst r2
    exact q H2
end
/-- keywords alone: how they bind -/
theorem kw1 {fd : FuncData} {x a : Str} (h : ∀ u : Value, bindArgs fd ⟨[], [(a, u)]⟩ = pure [(a, u)]) : KwOk fd [a] [a] [0] := ⟨fun ws hl => match ws, hl with
  | [u], _ => h u, rfl⟩
/-! ### promises in short -/
def S1 (f : D → (RV → Prop) → Prop) : Spec := fun ss Q _ => ∃ x, ss = [.d x] ∧ f x Q
def S2 (f : D → D → (RV → Prop) → Prop) : Spec := fun ss Q _ => ∃ x y, ss = [.d x, .d y] ∧ f x y Q
def S3 (f : D → D → D → (RV → Prop) → Prop) : Spec := fun ss Q _ => ∃ x y z, ss = [.d x, .d y, .d z] ∧ f x y z Q
def G1 (f : (RV → Prop) → Prop) : Spec := fun ss Q _ => ss = [.src] ∧ f Q
def G2 (f : D → (RV → Prop) → Prop) : Spec := fun ss Q _ => ∃ x, ss = [.src, .d x] ∧ f x Q
def G3 (f : D → D → (RV → Prop) → Prop) : Spec := fun ss Q _ => ∃ x y, ss = [.src, .d x, .d y] ∧ f x y Q
theorem len_S1 {f : D → (RV → Prop) → Prop} : ∀ ss Q Xe, S1 f ss Q Xe → ss.length = 1 := fun ss Q Xe h => by
  obtain ⟨x, e, _⟩ := h
  rw [e] <;> rfl
theorem len_S2 {f : D → D → (RV → Prop) → Prop} : ∀ ss Q Xe, S2 f ss Q Xe → ss.length = 2 := fun ss Q Xe h => by
  obtain ⟨x, y, e, _⟩ := h
  rw [e] <;> rfl
theorem len_S3 {f : D → D → D → (RV → Prop) → Prop} : ∀ ss Q Xe, S3 f ss Q Xe → ss.length = 3 := fun ss Q Xe h => by
  obtain ⟨x, y, z, e, _⟩ := h
  rw [e] <;> rfl
theorem len_G1 {f : (RV → Prop) → Prop} : ∀ ss Q Xe, G1 f ss Q Xe → ss.length = 1 := fun ss Q Xe h => by
  obtain ⟨e, _⟩ := h
  rw [e] <;> rfl
theorem len_G2 {f : D → (RV → Prop) → Prop} : ∀ ss Q Xe, G2 f ss Q Xe → ss.length = 2 := fun ss Q Xe h => by
  obtain ⟨x, e, _⟩ := h
  rw [e] <;> rfl
theorem len_G3 {f : D → D → (RV → Prop) → Prop} : ∀ ss Q Xe, G3 f ss Q Xe → ss.length = 3 := fun ss Q Xe h => by
  obtain ⟨x, y, e, _⟩ := h
  rw [e] <;> rfl
end DL
set_option linter.all false
set_option autoImplicit false
set_option maxHeartbeats 2000000
/-! What fractions' functions promise. -/
namespace DL
open PySem L2
/-- what a def's text is to give -/
def VC (w : SW) (n : Nat) (sp : Spec) : Prop := ∀ ss Q Xe, sp ss Q Xe → w (fun _ => Xe) { nx := fun _ => Q (.d .non), rt := Q } (ss ++ List.replicate (n - ss.length) .un)
theorem atI0 {α : Type} {x : α} {r : List α} : atI (x :: r) 0 = some x := atI_nat (j := 0) rfl
theorem atI1 {α : Type} {x y : α} {r : List α} : atI (x :: y :: r) 1 = some y := atI_nat (j := 1) rfl
theorem atI2 {α : Type} {x y z : α} {r : List α} : atI (x :: y :: z :: r) 2 = some z := atI_nat (j := 2) rfl
theorem atI3 {α : Type} {x y z u : α} {r : List α} : atI (x :: y :: z :: u :: r) 3 = some u := atI_nat (j := 3) rfl
def isInt : D → Bool
  | .int _ => true
  | _ => false
def isFr : D → Bool
  | .tup [.int a, .int b] => decide (0 < b ∧ Int.gcd a b = 1)
  | _ => false
theorem isFr_fr (q : Rat) : isFr (fr q) = true := by
  have h1 := q.reduced
  have h2 := q.den_pos
  show decide _ = true
  rw [decide_eq_true_eq]
  refine ⟨by omega, ?_⟩
  exact h1
def sp_isint : Spec := S1 fun d Q => (tyOf d).isSome = true ∧ Q (.d (.bl (isInt d)))
def sp_gcd : Spec := S2 fun x y Q => ∃ a b : Int, x = .int a ∧ y = .int b ∧ 0 ≤ a ∧ 0 ≤ b ∧ Q (.d (.int (Int.gcd a b)))
def sp_low : Spec := S2 fun x y Q => ∃ a b : Int, x = .int a ∧ y = .int b ∧ b ≠ 0 ∧ b.natAbs.log2 < 9000 ∧ Q (.d (fr (rat a b)))
def sp_isfr : Spec := S1 fun d Q => plain 40 d = true ∧ Q (.d (.bl (isFr d)))
@[irreducible] def sp_op (n0 : Nat) (f : Rat → Rat → D) : Spec := S2 fun x y Q => ∃ (p q : Rat) (n m : Nat), x = fr p ∧ y = fr q ∧ Sz n p ∧ Sz m q ∧ n + m < n0 ∧ Q (.d (f p q))
theorem op_el {n0 : Nat} {f : Rat → Rat → D} {ss : List SV} {Q : RV → Prop} {Xe : Exc → Prop} (h : sp_op n0 f ss Q Xe) : ∃ x y, ss = [.d x, .d y] ∧ ∃ (p q : Rat) (n m : Nat), x = fr p ∧ y = fr q ∧ Sz n p ∧ Sz m q ∧ n + m < n0 ∧ Q (.d (f p q)) := by
  unfold sp_op at h
  exact h
theorem op_ok {n0 n m : Nat} {f : Rat → Rat → D} {p q : Rat} {Q : RV → Prop} {Xe : Exc → Prop} (hp : Sz n p) (hq : Sz m q) (h : n + m < n0) (k : Q (.d (f p q))) : sp_op n0 f [.d (fr p), .d (fr q)] Q Xe := by
  unfold sp_op
  exact ⟨_, _, rfl, p, q, n, m, rfl, rfl, hp, hq, h, k⟩
theorem len_op {n0 : Nat} {f : Rat → Rat → D} : ∀ ss Q Xe, sp_op n0 f ss Q Xe → ss.length = 2 := fun ss Q Xe h => by
  obtain ⟨x, y, e, _⟩ := op_el h
  rw [e] <;> rfl
/-- of two fractions, the second not 0 -/
@[irreducible] def sp_over (n0 : Nat) : Spec := S2 fun x y Q => ∃ (p q : Rat) (n m : Nat), x = fr p ∧ y = fr q ∧ q ≠ 0 ∧ Sz n p ∧ Sz m q ∧ n + m < n0 ∧ Q (.d (fr (p / q)))
theorem over_el {n0 : Nat} {ss : List SV} {Q : RV → Prop} {Xe : Exc → Prop} (h : sp_over n0 ss Q Xe) : ∃ x y, ss = [.d x, .d y] ∧ ∃ (p q : Rat) (n m : Nat), x = fr p ∧ y = fr q ∧ q ≠ 0 ∧ Sz n p ∧ Sz m q ∧ n + m < n0 ∧ Q (.d (fr (p / q))) := by
  unfold sp_over at h
  exact h
theorem over_ok {n0 n m : Nat} {p q : Rat} {Q : RV → Prop} {Xe : Exc → Prop} (hz : q ≠ 0) (hp : Sz n p) (hq : Sz m q) (h : n + m < n0) (k : Q (.d (fr (p / q)))) : sp_over n0 [.d (fr p), .d (fr q)] Q Xe := by
  unfold sp_over
  exact ⟨_, _, rfl, p, q, n, m, rfl, rfl, hz, hp, hq, h, k⟩
theorem len_ovr {n0 : Nat} : ∀ ss Q Xe, sp_over n0 ss Q Xe → ss.length = 2 := fun ss Q Xe h => by
  obtain ⟨x, y, e, _⟩ := over_el h
  rw [e] <;> rfl
/-- fractions of a tuple or a list -/
def frs (qs : List Rat) : List D := qs.map fr
theorem frs_of : ∀ {xs : List D}, (∀ x ∈ xs, ∃ q : Rat, x = fr q) → ∃ qs : List Rat, xs = frs qs
  | [], _ => ⟨[], rfl⟩
  | x :: xs, h => by
    obtain ⟨q, rfl⟩ := h x List.mem_cons_self
    obtain ⟨qs, rfl⟩ := frs_of fun y hy => h y (List.mem_cons_of_mem _ hy)
    exact ⟨q :: qs, rfl⟩
theorem bools_all {b : Bool} : ∀ {xs : List D}, (∀ x ∈ xs, x = .bl b) → bools xs = some (List.replicate xs.length b)
  | [], _ => rfl
  | x :: xs, h => by
    have e := h x List.mem_cons_self
    subst e
    rw [bools, bools_all fun y hy => h y (List.mem_cons_of_mem _ hy)]
    rfl
theorem all_replicate (n : Nat) : (List.replicate n true).all id = true := by
  rw [List.all_eq_true]
  intro x hx
  rw [List.eq_of_mem_replicate hx]
  rfl
/-! ### gcd by division -/
theorem gcd_step {a b : Int} (ha : 0 ≤ a) (hb : 0 < b) : Int.gcd b (a % b) = Int.gcd a b := by
  obtain ⟨m, rfl⟩ := Int.eq_ofNat_of_zero_le ha
  obtain ⟨n, rfl⟩ := Int.eq_ofNat_of_zero_le (Int.le_of_lt hb)
  show Nat.gcd n ((m : Int) % (n : Int)).natAbs = Nat.gcd m n
  rw [← Int.natCast_emod, Int.natAbs_natCast, Nat.gcd_comm n, ← Nat.gcd_rec, Nat.gcd_comm]
mutual
/-- data that may be compared, nested at most n deep, at most 1000 long -/
def short : Nat → D → Bool
  | 0, _ => false
  | _ + 1, .non => true
  | _ + 1, .bl _ => true
  | _ + 1, .int _ => true
  | _ + 1, .str s => PyData.strOk s
  | n + 1, .tup xs => decide (xs.length ≤ 1000) && shortL n xs
  | n + 1, .lst xs => decide (xs.length ≤ 1000) && shortL n xs
  | _ + 1, .ins _ _ _ => false
def shortL : Nat → List D → Bool
  | _, [] => true
  | n, x :: xs => short n x && shortL n xs
end
mutual
theorem short_plain : ∀ (n m : Nat) (d : D), n ≤ m → short n d = true → plain m d = true
  | 0, _, _, _, h => by simp [short] at h
  | n + 1, 0, _, hm, _ => absurd hm (by omega)
  | n + 1, m + 1, .non, _, _ => by simp [plain]
  | n + 1, m + 1, .bl _, _, _ => by simp [plain]
  | n + 1, m + 1, .int _, _, _ => by simp [plain]
  | n + 1, m + 1, .str s, _, h => by
    simp only [short] at h
    simp only [plain]
    exact h
  | n + 1, m + 1, .tup xs, hm, h => by
    simp only [short, Bool.and_eq_true] at h
    simp only [plain]
    exact shortL_plain n m xs (by omega) h.2
  | n + 1, m + 1, .lst xs, hm, h => by
    simp only [short, Bool.and_eq_true] at h
    simp only [plain]
    exact shortL_plain n m xs (by omega) h.2
  | n + 1, m + 1, .ins _ _ _, _, h => by simp [short] at h
theorem shortL_plain : ∀ (n m : Nat) (ds : List D), n ≤ m → shortL n ds = true → plainL m ds = true
  | _, _, [], _, _ => by simp [plainL]
  | n, m, x :: xs, hm, h => by
    simp only [shortL, Bool.and_eq_true] at h
    simp only [plainL, Bool.and_eq_true]
    exact ⟨short_plain n m x hm h.1, shortL_plain n m xs hm h.2⟩
end
theorem shortL_at {n : Nat} : ∀ {xs : List D}, shortL n xs = true → ∀ x ∈ xs, short n x = true
  | [], _, _, hx => nomatch hx
  | x :: xs, h, y, hy => by
    simp only [shortL, Bool.and_eq_true] at h
    rcases List.mem_cons.mp hy with e | hy
    · rw [e]
      exact h.1
    · exact shortL_at h.2 y hy
theorem shortL_of {n : Nat} : ∀ {xs : List D}, (∀ x ∈ xs, short n x = true) → shortL n xs = true
  | [], _ => by simp [shortL]
  | x :: xs, h => by
    simp only [shortL, Bool.and_eq_true]
    exact ⟨h x List.mem_cons_self, shortL_of fun y hy => h y (List.mem_cons_of_mem _ hy)⟩
theorem short_fr (n : Nat) (q : Rat) : short (n + 2) (fr q) = true := by simp [fr, short, shortL]
mutual
theorem peq_refl : ∀ d : D, (∀ n, plain n d = true → peq d d = true)
  | .non, _, _ => by simp [peq]
  | .bl _, _, _ => by simp [peq]
  | .int _, _, _ => by simp [peq]
  | .str _, _, _ => by simp [peq]
  | .tup xs, 0, h => by simp [plain] at h
  | .tup xs, n + 1, h => by
    simp only [plain] at h
    simp only [peq]
    exact peqL_refl xs n h
  | .lst xs, 0, h => by simp [plain] at h
  | .lst xs, n + 1, h => by
    simp only [plain] at h
    simp only [peq]
    exact peqL_refl xs n h
  | .ins _ _ _, 0, h => by simp [plain] at h
  | .ins _ _ _, n + 1, h => by simp [plain] at h
theorem peqL_refl : ∀ ds : List D, (∀ n, plainL n ds = true → peqL ds ds = true)
  | [], _, _ => by simp [peqL]
  | x :: xs, n, h => by
    simp only [plainL, Bool.and_eq_true] at h
    simp only [peqL, Bool.and_eq_true]
    exact ⟨peq_refl x n h.1, peqL_refl xs n h.2⟩
end
theorem plain_ty : ∀ {n : Nat} {d : D}, plain n d = true → (tyOf d).isSome = true
  | 0, _, h => by simp [plain] at h
  | n + 1, .ins _ _ _, h => by simp [plain] at h
  | n + 1, .non, _ => rfl
  | n + 1, .bl _, _ => rfl
  | n + 1, .int _, _ => rfl
  | n + 1, .str _, _ => rfl
  | n + 1, .tup _, _ => rfl
  | n + 1, .lst _, _ => rfl
theorem plain_at {n : Nat} : ∀ {xs : List D}, plainL n xs = true → ∀ x ∈ xs, plain n x = true
  | [], _, _, hx => nomatch hx
  | x :: xs, h, y, hy => by
    simp only [plainL, Bool.and_eq_true] at h
    rcases List.mem_cons.mp hy with e | hy
    · rw [e]
      exact h.1
    · exact plain_at h.2 y hy
theorem isInt_of {d : D} (h : isInt d = true) : ∃ i : Int, d = .int i := by
  cases d with
  | int i => exact ⟨i, rfl⟩
  | _ => cases h
/-- a pair that is no fraction for want of ints -/
theorem isFr_no1 {x y : D} (h : isInt x = false) : isFr (.tup [x, y]) = false := by
  cases x with
  | int i => cases h
  | _ => rfl
theorem isFr_no2 {x y : D} (h : isInt y = false) : isFr (.tup [x, y]) = false := by
  cases y with
  | int i => cases h
  | _ => cases x <;> rfl
theorem isFr_len {xs : List D} (h : xs.length ≠ 2) : isFr (.tup xs) = false := by
  unfold isFr
  cases xs with
  | nil => rfl
  | cons x r =>
    cases r with
    | nil => cases x <;> rfl
    | cons y t =>
      cases t with
      | nil => exact absurd rfl h
      | cons z u => cases x <;> cases y <;> rfl
theorem peq_int {i j : Int} : peq (.int i) (.int j) = decide (i = j) := by
  simp only [peq]
  by_cases h : i = j
  · subst h
    simp
  · rw [decide_eq_false h]
    exact beq_false_of_ne h
theorem bcases (b : Bool) : b = true ∨ b = false := by cases b <;> simp
end DL
set_option linter.all false
set_option autoImplicit false
set_option maxHeartbeats 2000000
set_option maxRecDepth 100000
/-! The law's def, called by no other code: nothing is under way but it (so repr shows all). -/
namespace DL
open PySem PySem.Spec PySem.W PySem.Calls PyProof.Rows L2
/-- what the end asks of the law's def: its run where nothing else stands on the stack -/
def RunsAt (P : Program) (w : World) (K : PySem.W.Frag) (mg : Str → Option Value) (base : Heap) (k : Nat) (f : Addr) (fd : FuncData) (sp : Sp) : Prop :=
  ∀ (s : Shared) (H : Hp) (u : Value) (v : V) (Q : VK) (E : XK), Room k callerA → Env0 P w K mg base callerA [] s H → BindsTo s fd ⟨[u], []⟩ [("script", u)] → RelV v u → sp [v] H Q E →
    codeAny (model P w) callerA (.call (.ref f) ⟨[u], []⟩) (CR (L2.CX P w) [] P w H s Q E) s
section
variable {P : Program} {w : World} {K : PySem.W.Frag} {mg : Str → Option Value} {base : Heap}
theorem runs_of {st : Stmt} {f : Addr} {fd : FuncData} {N : List Str} {k : Nat} {sp : Sp} (F : Fun K "law" "law" st f fd) (S : FnScope N ["script"] (defScope st))
    (hbody : ∀ (cdv : Value) (s : Shared) (H : Hp) (v : V) (Q : VK) (E : XK), Room k (callerA.deeper (envOfC "law" (defScope st) s.heap.objs.size f cdv)) → sp [v] H Q E →
      ∃ t, PSs (cxOf (L2.CX P w) P w K mg base N "law" (defScope st) f cdv callerA [] s H E) (defBody st) t ∧ t { nx := fun _ H' => Q .non H', rt := Q } (L2.start N [v]) H) : RunsAt P w K mg base (k + 1) f fd sp := by
  intro s H u v Q E room env hbind rel hsp
  obtain ⟨oc, od, kV, doc, pm, an, cdv, ct, osl, rfl, look, code⟩ := F.ex
  have inK : K.In s.heap := Frag.In.keeps env.mod.kin (fun b o e => And.left (env.bs b o e))
  have noLim : s.heap.NoLimit := Heap.NoLimit.keeps env.mod.nolimit (fun b o e => And.left (env.bs b o e))
  have kinds : ∀ y ∈ List.zip [("script" : Str)] [u], (defScope st).names.lookup y.1 = some .local ∨ ((defScope st).names.lookup y.1 = some .cell ∧ ((cellsFrom (s.heap.objs.size + 1) (defScope st).names []).lookup y.1).isSome = true) := by
    rintro ⟨n, x⟩ hy
    exact (S.par n (List.of_mem_zip hy).1).imp id fun q => ⟨q, cellsFrom_some _ _ _ (Or.inl q)⟩
  refine codeAny_call_function room.depth (inK _ _ look) rfl S.co S.gen rfl (codeRec_of inK code) (hbind _ _ _ _ (wpAny_newFunctionEnv_cells S.kind kinds fun e he s1 made => ?_))
  subst he
  refine And.intro (Heap.NoLimit.keeps noLim made.toInCall.keep) (codeAny_func ?_)
  obtain ⟨t, pt, tq⟩ := hbody cdv s H v Q E (room.deeper _) hsp
  have inv0 : L2.Inv (cxOf (L2.CX P w) P w K mg base N "law" (defScope st) f cdv callerA [] s H E) [] (L2.start N [v]) H s1 := inv_start S room.hd env rfl (.cons rel .nil) made
  refine wpAny_mono (pt.run [] s1 _ H _ inv0 tq) ?_ (fun _ _ h => h)
  intro fl s' ends
  have done : ∀ {σ : L2.St} {H2 : Hp} {y : V} {z : Value}, L2.Inv (cxOf (L2.CX P w) P w K mg base N "law" (defScope st) f cdv callerA [] s H E) [] σ H2 s' → RelV y z → Q y H2 → CE [] P w H s Q z s' := by
    intro σ H2 y z J ry q
    exact ⟨y, H2, J.os, J.bare, J.base, J.hok, ry, q⟩
  cases fl with
  | next =>
    obtain ⟨σ, H2, J, q⟩ := ends
    exact done (y := .non) (z := .none) J rfl q
  | ret z =>
    obtain ⟨y, σ, H2, J, ry, q⟩ := ends
    exact done J ry q
  | brk =>
    obtain ⟨_, _, _, q⟩ := ends
    exact q.elim
  | cont =>
    obtain ⟨_, _, _, q⟩ := ends
    exact q.elim
/-- from a heap in which at most the script stands -/
theorem runs_from {k : Nat} {fa a : Addr} {fd : FuncData} {mb : Str → Option Value} {s : Shared} {vs : List Value} {ns : List Int} (H : Hp) (inK : K.In s.heap) (gl : s.heap.Ns mainGlobals mg) (bl : s.heap.Ns builtinsNs mb) (boot : ∀ x : Str, x ≠ "__name__" → mb x = bootBuiltins x)
    (noLim : s.heap.NoLimit) (noGens : s.gens = #[]) (obj : s.heap.get? a = some { cls := .type "list", data := .seq vs.toArray }) (short : ns.length ≤ 63) (room : Room k callerA)
    (F : ∀ base : Heap, K.In base → base.Ns mainGlobals mg → RunsAt P w K mg base k fa fd (spLaw K)) (bind : ∀ (s : Shared) (u : Value), BindsTo s fd ⟨[u], []⟩ [("script", u)])
    (only : ∀ b, H b = none ∨ ∃ o xs, H b = some (.frz o (.lst xs))) (seq : SqL K H a (ns.map V.int)) (laid : HOk P w H s.heap) (one : ∀ b, H b ≠ none → b = a) (free : H a ≠ none → K.lookup a = none) :
    codeAny (model P w) callerA (.call (.ref fa) ⟨[.ref a], []⟩) (fun r s' => r = .ok (.ret (.bool true)) ∧ OldK s.heap s'.heap ∧ s'.os = s.os ∧ AllBare s'.gens) s := by
  have dicts : ∀ {b : Addr} {o : Obj} {es : Array DictEntry} {ep : Nat}, s.heap.get? b = some o → o.data = .dict es ep → H b = none := by
    intro b o es ep e d
    refine Classical.byContradiction fun z => ?_
    rw [one b z, obj] at e
    cases e
    cases d
  have nsOf : ∀ {b : Addr} {m : Str → Option Value}, s.heap.Ns b m → (hidT s.heap H).Ns b m := by
    rintro b m ⟨o, es, ep, e, d, r⟩
    exact ⟨o, es, ep, hidT_get e (dicts e d), d, r⟩
  have kOf : K.In (hidT s.heap H) := by
    intro b o e
    refine hidT_get (inK b o e) (Classical.byContradiction fun z => ?_)
    have q := one b z
    subst q
    rw [free z] at e
    cases e
  have md : Mod K mg (hidT s.heap H) := by
    obtain ⟨mc, h1, h2⟩ := noLim
    exact ⟨kOf, nsOf gl, ⟨mb, nsOf bl, boot⟩, ⟨mc, nsOf h1, h2⟩⟩
  have env : Env0 P w K mg (hidT s.heap H) callerA [] s H :=
    ⟨rfl, md, fun _ _ e => of_hidT e, Nat.le_of_eq (hidT_size _ _), trivial, fun b hb => absurd (show b ∈ ([] : List Addr) from hb) List.not_mem_nil, laid, .of_eq noGens⟩
  have run := F _ kOf (nsOf gl) s H (.ref a) (.ref a) (fun v _ => v = .bl true) (fun _ _ _ => False) room env (bind _ _) rfl ⟨a, ns, rfl, seq, short, fun _ => rfl⟩
  refine codeAny_mono run ?_
  intro r s' out
  cases r with
  | error e =>
    exfalso
    obtain ⟨_, _, _, _, _, _, _, _, _, _, _, _, z⟩ := out
    exact z
  | ok fl =>
    cases fl with
    | ret u =>
      obtain ⟨v, H2, os, bare, un, laid2, rel, q⟩ := out
      have q : v = .bl true := q
      subst q
      have rel : u = .bool true := rel
      subst rel
      refine ⟨rfl, OldK.of_keep ?_, os, bare⟩
      intro b o e
      rcases only b with z | ⟨ob, xs, z⟩
      · exact un.keep b o e z (fun q => absurd (show b ∈ ([] : List Addr) from q) List.not_mem_nil) (by simp)
      · have e1 := (laid b _ z).1
        have e2 := (laid2 b _ (un.frzs b ob _ z)).1
        rw [e] at e1
        cases e1
        exact e2
    | next => exact out.elim
    | brk => exact out.elim
    | cont => exact out.elim
theorem runs_law {k : Nat} {fa a : Addr} {fd : FuncData} {mb : Str → Option Value} {s : Shared} {vs : List Value} {ns : List Int} (inK : K.In s.heap) (gl : s.heap.Ns mainGlobals mg) (bl : s.heap.Ns builtinsNs mb) (boot : ∀ x : Str, x ≠ "__name__" → mb x = bootBuiltins x)
    (noLim : s.heap.NoLimit) (noGens : s.gens = #[]) (obj : s.heap.get? a = some { cls := .type "list", data := .seq vs.toArray }) (nums : IntsAre vs ns) (short : ns.length ≤ 63) (room : Room k callerA)
    (F : ∀ base : Heap, K.In base → base.Ns mainGlobals mg → RunsAt P w K mg base k fa fd (spLaw K)) (bind : ∀ (s : Shared) (u : Value), BindsTo s fd ⟨[u], []⟩ [("script", u)]) :
    codeAny (model P w) callerA (.call (.ref fa) ⟨[.ref a], []⟩) (fun r s' => r = .ok (.ret (.bool true)) ∧ OldK s.heap s'.heap ∧ s'.os = s.os ∧ AllBare s'.gens) s := by
  have rel := vals_ints nums
  have len := nums.length
  have fits : ns.length ≤ sizeLine := Nat.le_trans short (by decide)
  cases look : K.lookup a with
  | none =>
    have at_a : ∀ b u, (if b = a then some (HO.frz { cls := .type "list", data := .seq vs.toArray } (.lst (ns.map V.int))) else none) = some u → b = a ∧ u = .frz { cls := .type "list", data := .seq vs.toArray } (.lst (ns.map V.int)) := by
      intro b u z
      split at z
      · rename_i q
        exact ⟨q, (Option.some.inj z).symm⟩
      · cases z
    refine runs_from (fun b => if b = a then some (.frz { cls := .type "list", data := .seq vs.toArray } (.lst (ns.map V.int))) else none) inK gl bl boot noLim noGens obj short room F bind ?_ ?_ ?_ ?_ (fun _ => look)
    · intro b
      by_cases q : b = a
      · exact Or.inr ⟨_, _, if_pos q⟩
      · exact Or.inl (if_neg q)
    · exact Or.inl (Or.inr ⟨_, if_pos rfl⟩)
    · intro b u z
      obtain ⟨q1, q2⟩ := at_a b u z
      subst q1 q2
      exact ⟨obj, by rw [List.length_map]; exact fits, vs, _, rel, obj⟩
    · intro b z
      exact Classical.byContradiction fun q => z (if_neg q)
  | some o =>
    have e := inK a o look
    rw [obj] at e
    cases e
    refine runs_from (fun _ => none) inK gl bl boot noLim noGens obj short room F bind (fun _ => Or.inl rfl) ?_ (fun b u z => nomatch z) (fun b z => absurd rfl z) (fun z => absurd rfl z)
    exact Or.inr ⟨_, vs.toArray, _, look, rfl, rfl, rfl, by rw [List.size_toArray, len]; exact fits, by simpa using rel⟩
end
/-- the end of a law's row -/
theorem walk_runs {l : OpenLaw} {k : Nat} {q : Program} {loose : List Str} {XP : (Str → Option Value) → Heap → Prop} {YP : World → Heap → Prop} {d : DefRec} {K : Params → Frag} (most : l.most = some 63) (plain : d.params.defaults = []) (room : Room k callerA)
    (inK : ∀ (w : World) (h : Heap), YP w h → (K w.params).In h)
    (F : ∀ (w : World) (mg : Str → Option Value) (fa : Addr) (h : Heap), (K w.params).In h → h.Ns mainGlobals mg → mg d.name = some (.ref fa) →
      ∃ fd : FuncData, (∀ (s : Shared) (u : Value), BindsTo s fd ⟨[u], []⟩ [("script", u)]) ∧
        ∀ base : Heap, (K w.params).In base → base.Ns mainGlobals mg → RunsAt l.prog w (K w.params) mg base k fa fd (spLaw (K w.params))) :
    WalkO q loose XP YP l.row.toRowW d [] (fun f vs => PySem.call f vs) := by
  refine Att.attach_call most plain ?_
  intro w s₀ s mg mb fa o pm cd doc a vs ns G Y ho hd hcd hmg obj nums len gens
  obtain ⟨fd, bind, run⟩ := F w mg fa _ (inK w _ Y) G.T.g hmg
  exact runs_law (inK w _ Y) G.T.g G.T.b G.T.builtins G.T.nolimit gens obj nums len room run bind
end DL
set_option linter.all false
set_option autoImplicit false
set_option maxHeartbeats 2000000
set_option maxRecDepth 100000
/-! repr of data; texts compared. -/
namespace DL
open PySem PySem.Spec PyProof.Rows L2
def reprD (d : D) : Str := (toPy d).shown
def bRepr : OpN
  | [x], Q => plain 40 x = true ∧ (toPy x).showable = true ∧ (reprD x).length ≤ 10000000 ∧ Q (.str (reprD x))
  | _, _ => False
def bEqS : Op2
  | .str s, .str t, Q => Q (.bl (decide (s = t)))
  | _, _, _ => False
def bNeS : Op2
  | .str s, .str t, Q => Q (.bl (!decide (s = t)))
  | _, _, _ => False
section
variable {X : Cx} {K : PySem.W.Frag}
def rReprD (K : PySem.W.Frag) : List V → Hp → VK → Prop := fun vs H Q => ∃ (v : V) (d : PyData), vs = [v] ∧ Dp K H v d ∧ d.hasDict = false ∧ d.showable = true ∧ d.depth ≤ 40 ∧ d.shown.length ≤ sizeLine ∧ Q (.str d.shown) H
theorem call_reprD (hg : X.A.guards = some []) (hu : X.A.units + 100 < cLine) : CallR X (.builtin "repr") (rReprD X.K) := by
  intro pins s σ H vs us Q I r h
  obtain ⟨v, d, rfl, hd, nd, hs, hdep, hz, q⟩ := h
  obtain ⟨u, rfl, ru⟩ := vals1 r
  obtain ⟨as, rd⟩ := Dp.reads I d v u hd ru
  cases rd with
  | none => exact PySem.P.repr_of_none ⟨.str _, H, I.tok _, ⟨_, rfl⟩, q⟩
  | bool b =>
    refine PySem.P.repr_of_bool ⟨.str _, H, I.tok _, ⟨_, rfl⟩, ?_⟩
    cases b <;> exact q
  | int i t =>
    have hi : i.natAbs.log2 < 1920 := by simpa only [PyData.showable, decide_eq_true_eq] using hs
    exact PySem.P.repr_of_int hi ⟨.str _, H, I.tok _, ⟨_, rfl⟩, q⟩
  | str x t => exact PySem.P.repr_of_str ⟨.str _, H, I.tok _, ⟨_, rfl⟩, q⟩ hz
  | list h1 h2 h3 h4 =>
    refine repr_of_reads' (.list h1 h2 h3 h4) hs (PyData.noDict_hsm nd) hg (by omega) (fun _ _ e => e) (fun h' u tk k => ?_) hz
    exact ⟨.str _, H, I.kept (t' := tk) k, ⟨_, rfl⟩, q⟩
  | tuple h1 h2 h3 h4 =>
    refine repr_of_reads' (.tuple h1 h2 h3 h4) hs (PyData.noDict_hsm nd) hg (by omega) (fun _ _ e => e) (fun h' u tk k => ?_) hz
    exact ⟨.str _, H, I.kept (t' := tk) k, ⟨_, rfl⟩, q⟩
  | dict h1 h2 h3 h4 h5 => cases nd
theorem lcb_repr : LCB K (rReprD K) bRepr := fun F H ds vs Qd Qv s r z q => by
  unfold bRepr at z
  split at z
  · obtain ⟨v, rfl, h1⟩ := repL_1 r
    obtain ⟨z1, z2, z3, z4⟩ := z
    obtain ⟨l1, l2⟩ := plain_lay 40 _ z1
    exact ⟨v, _, rfl, rep_dp s 40 _ _ z1 h1, PyData.hasDict_of_canLay _ l1, z2, l2, Nat.le_trans z3 (by decide), q _ _ F H z4 (Ext.refl s) rfl⟩
  · exact z.elim
theorem lop_eqS : LOp K rEq bEqS := fun F H dx dy vx vy Qd Qv s rx ry z q => by
  unfold bEqS at z
  split at z
  · rename_i a b
    have rx : vx = .str a := rx
    have ry : vy = .str b := ry
    subst rx ry
    refine ⟨rfl, ?_⟩
    have e : decide (V.str a = V.str b) = decide (a = b) := by
      rw [decide_eq_decide]
      exact ⟨fun h => by cases h; rfl, fun h => by rw [h]⟩
    rw [e]
    exact q _ _ F H z (Ext.refl s) rfl
  · exact z.elim
theorem lop_neS : LOp K rNe bNeS := fun F H dx dy vx vy Qd Qv s rx ry z q => by
  unfold bNeS at z
  split at z
  · rename_i a b
    have rx : vx = .str a := rx
    have ry : vy = .str b := ry
    subst rx ry
    refine ⟨rfl, ?_⟩
    have e : decide (V.str a = V.str b) = decide (a = b) := by
      rw [decide_eq_decide]
      exact ⟨fun h => by cases h; rfl, fun h => by rw [h]⟩
    rw [e]
    exact q _ _ F H z (Ext.refl s) rfl
  · exact z.elim
end
/-! ### how long repr's text is -/
mutual
def cost : D → Nat
  | .non => 8
  | .bl _ => 8
  | .int i => i.natAbs.log2 + 2
  | .str s => 10 * s.length + 8
  | .tup xs => costL xs + 3
  | .lst xs => costL xs + 3
  | .ins _ _ _ => 8
def costL : List D → Nat
  | [] => 0
  | x :: xs => cost x + 2 + costL xs
end
theorem int_len (i : Int) : (PyData.int i).shown.length ≤ i.natAbs.log2 + 2 := by
  have h10 : i.natAbs < 10 ^ (i.natAbs.log2 + 1) := by
    have h2 : i.natAbs < 2 ^ (i.natAbs.log2 + 1) := Nat.lt_log2_self
    exact Nat.lt_of_lt_of_le h2 (Nat.pow_le_pow_left (by decide) _)
  have e := int_text_length_le10 (k := i.natAbs.log2 + 1) (by omega) h10
  show (Str.ofString (toString i)).length ≤ _
  rw [PyProof.Rows.ofString_length]
  exact e
mutual
theorem shown_cost : ∀ (n : Nat) (d : D), plain n d = true → (toPy d).shown.length ≤ cost d
  | 0, _, h => by simp [plain] at h
  | n + 1, .ins _ _ _, h => by simp [plain] at h
  | n + 1, .non, _ => by decide
  | n + 1, .bl b, _ => by cases b <;> decide
  | n + 1, .int i, _ => by
    simp only [toPy, cost]
    exact int_len i
  | n + 1, .str s, h => by
    simp only [plain, PyData.strOk, Array.all_eq_true'] at h
    simp only [toPy, cost, PyData.shown]
    have := StrLaws.reprText_len s fun c hc => Nat.lt_trans (of_decide_eq_true (h c (by simpa using hc))) (by decide)
    omega
  | n + 1, .tup xs, h => by
    simp only [plain] at h
    simp only [toPy, cost, PyData.shown]
    have := shown_costL n xs h
    have := tupleText_len_le (PyData.shownAll (toPyL xs))
    have := PyData.shownAll_length (toPyL xs)
    have := toPyL_len xs
    omega
  | n + 1, .lst xs, h => by
    simp only [plain] at h
    simp only [toPy, cost, PyData.shown]
    have := shown_costL n xs h
    have := listText_len_le (PyData.shownAll (toPyL xs))
    have := PyData.shownAll_length (toPyL xs)
    have := toPyL_len xs
    omega
theorem shown_costL : ∀ (n : Nat) (ds : List D), plainL n ds = true → ((PyData.shownAll (toPyL ds)).map (·.length)).sum + 2 * ds.length ≤ costL ds
  | _, [], _ => by simp [toPyL, PyData.shownAll, costL]
  | n, x :: xs, h => by
    simp only [plainL, Bool.and_eq_true] at h
    have h1 := shown_cost n x h.1
    have h2 := shown_costL n xs h.2
    simp only [toPyL, PyData.shownAll, costL, List.map_cons, List.sum_cons, List.length_cons]
    omega
theorem toPyL_len : ∀ ds : List D, (toPyL ds).length = ds.length
  | [] => by simp [toPyL]
  | x :: xs => by
    rw [toPyL, List.length_cons, List.length_cons, toPyL_len xs]
end
end DL
set_option linter.all false
set_option autoImplicit false
set_option maxHeartbeats 2000000
/-! The law's own def, at the bottom of the stack. -/
namespace DL
open PySem PySem.Spec PyProof.Rows L2
theorem At.u100 {X : Cx} {E : L2.St → XK} {k : Nat} (A : At X E k) : X.A.units + 100 < cLine := by
  have := A.room.un
  omega
section
variable {P : Program} {w : World} {K : PySem.W.Frag} {mg : Str → Option Value} {base : Heap} {Z : SrcK}
theorem law_ofR {st : Stmt} {f : Addr} {fd : FuncData} {N : List Str} {k i : Nat} {wb : SW} {p : Pos} {y v : Str} {p1 p2 p3 p4 : Pos} (F : Fun K "law" "law" st f fd) (S : FnScope N ["script"] (defScope st))
    (hfirst : (defBody st).head? = some (.Assign [.Name v p1] (.Call (.Name y p2) [.Name "script" p3] [] p4) p))
    (h0 : ∀ (cdv : Value) (s : Shared) (H : Hp) (E : XK), Room k (callerA.deeper (envOfC "law" (defScope st) s.heap.objs.size f cdv)) →
      PS (cxOf (L2.CX P w) P w K mg base N "law" (defScope st) f cdv callerA [] s H E) (.Assign [.Name v p1] (.Call (.Name y p2) [.Name "script" p3] [] p4) p) (tAsg (tCallS (spNew Z K) (fun _ => E) (tCons (tVar 0) tNil)) (gName i)))
    (hN : N.length = N.length - 1 + 1) (hi : 0 < i)
    (hbody : ∀ (cdv : Value) (s : Shared) (H : Hp) (E : XK), Room k (callerA.deeper (envOfC "law" (defScope st) s.heap.objs.size f cdv)) →
      DSs Z (cxOf (L2.CX P w) P w K mg base N "law" (defScope st) f cdv callerA [] s H E) (fun _ => E) (defBody st).tail wb)
    (hw : ∀ ns : List Int, ns.length ≤ 63 → wb (fun _ _ => False) { nx := fun _ => False, rt := fun r => r = .d (.bl true) } ((.d (.lst (ns.map D.int)) :: List.replicate (N.length - 1) .un).set i .src)) : RunsAt P w K mg base (k + 1) f fd (spLaw K) := by
  refine runs_of F S (fun cdv s H v Q E hr h => ?_)
  · obtain ⟨a, ns, hv, hS, hlen, q⟩ := h
    have hv : v = .ref a := by simpa using hv
    subst hv
    obtain ⟨t, p, l⟩ := hbody cdv s H E hr
    have p0 := h0 cdv s H E hr
    have hsplit : ∀ (b : List Stmt) (x : Stmt), b.head? = some x → b = x :: b.tail := fun b x h => by
      cases b with
      | nil => cases h
      | cons z r =>
        cases h
        rfl
    refine ⟨_, by rw [hsplit _ _ hfirst]; exact pss_cons p0 p, ?_⟩
    refine ⟨.ref a, rfl, a, H, ns, rfl, Same.refl H, ⟨a, ns.map V.int, rfl, hS, repL_ints ns⟩, hlen, fun F' H' pp fp sF sH kp hP hfp => ?_⟩
    have e0 : EnvOk Z K ⟨none, H, H⟩ H H (L2.start N [.ref a]) (([.d (.lst (ns.map D.int))] : List SV) ++ List.replicate (N.length - 1) .un) :=
      env_start (src := none) (ss := [.d (.lst (ns.map D.int))]) (Same.refl H) (fun _ _ z => nomatch z) ⟨.ref a, [], rfl, ⟨a, ns.map V.int, rfl, hS, repL_ints ns⟩, rfl⟩ (by rw [hN]; simp)
    have e1 : EnvOk Z K ⟨some (pp, fp), F', H'⟩ F' H' ((L2.start N [.ref a]).set i (some (.ref pp))) ((.d (.lst (ns.map D.int)) :: List.replicate (N.length - 1) .un).set i .src) := by
      refine EnvOk.setS (s := .src) ⟨e0.len, fun j u hj => ?_, fun i j xs ys _ h1 _ => ?_, sH, Same.refl F', fun b hb => .inl hb, fun b o hb _ => hb, fun b hb => hb, fun a' fp' e => ?_⟩ ⟨pp, fp, rfl, rfl⟩ (fun _ _ z => nomatch z)
      · obtain ⟨o, o1, o2⟩ := e0.slot j u hj
        refine ⟨o, o1, ?_⟩
        cases u with
        | un => trivial
        | d x =>
          obtain ⟨v, z1, z2⟩ := o2
          exact ⟨v, z1, Rep.mono sF _ _ z2⟩
        | own xs =>
          exfalso
          cases j with
          | zero => cases hj
          | succ j =>
            have hj : (List.replicate (N.length - 1) SV.un)[j]? = some (SV.own xs) := hj
            rw [List.getElem?_replicate] at hj
            split at hj <;> cases hj
        | src =>
          exfalso
          cases j with
          | zero => cases hj
          | succ j =>
            have hj : (List.replicate (N.length - 1) SV.un)[j]? = some SV.src := hj
            rw [List.getElem?_replicate] at hj
            split at hj <;> cases hj
        | obj px C fs =>
          exfalso
          cases j with
          | zero => cases hj
          | succ j =>
            have hj : (List.replicate (N.length - 1) SV.un)[j]? = some (SV.obj px C fs) := hj
            rw [List.getElem?_replicate] at hj
            split at hj <;> cases hj
      · exfalso
        cases i with
        | zero => cases h1
        | succ j =>
          have h1 : (List.replicate (N.length - 1) SV.un)[j]? = some (SV.own xs) := h1
          rw [List.getElem?_replicate] at h1
          split at h1 <;> cases h1
      · cases e
        exact ⟨hP, fun b hb => ⟨(hfp b hb).1, (Z.tr hP).2 b hb⟩⟩
    refine l ⟨some (pp, fp), F', H'⟩ F' H' _ _ _ _ _ e1 elk0 (hw ns hlen) ⟨fun _ _ _ _ z => z.elim, fun r v σ ρ F2 H2 hr e2 s2 r2 => ?_, fun _ _ _ _ z => z.elim, fun _ _ _ _ z => z.elim⟩
    subst hr
    have r2 : v = .bl true := r2
    subst r2
    exact q H2
end
end DL
set_option linter.all false
set_option autoImplicit false
set_option maxHeartbeats 4000000
set_option maxRecDepth 100000
/-! Errors of the program that carry a field: __init__ says super().__init__('..'), then keeps the field. -/
namespace DL
open PySem PySem.Spec PySem.W PySem.Calls PyProof.Rows PySem.HandSPX
def xArgs (f : Str) (p1 p2 : Pos) : Arguments := { posonlyargs := [], args := [{ arg := "self", annotation := none, pos := p1 }, { arg := f, annotation := none, pos := p2 }], vararg := none, kwonlyargs := [], kw_defaults := [], kwarg := none, defaults := [] }
def xBody (f t : Str) (j : Nat) (p0 p1 p2 p3 p4 p5 q1 q2 q3 q4 : Pos) : List Stmt :=
  [.Expr (.Call (.Attribute (.Call (.Name "super" p0) [] [] p1) "__init__" p2) [.Constant (.str t) j p3] [] p4) p5, .Assign [.Attribute (.Name "self" q1) f q2] (.Name f q3) q4]
def xScope (f : Str) : Scope := { kind := .function, names := [(PySem.Str.ofString "self", .local), (f, .local), (PySem.Str.ofString "__class__", .free), (PySem.Str.ofString "super", .globalImplicit)], isGenerator := false, isCoroutine := false, more := [] }
/-- the names of such fields -/
def FName (f : Str) : Prop := f = "place" ∨ f = "index" ∨ f = "count"
/-- what the written part says of such a class, at C, and of its __init__, at fI -/
structure XcTxt (P : Program) (K : Frag) (mg : Str → Option Value) (nm f : Str) (C fI : Addr) : Prop where
  gC : mg nm = some (.ref C)
  fn : FName f
  cls : ∃ n q N bs bm sn sub ab col dd k0 k1 k2 k3 k5, K.lookup C = some (excClassObj n q C N bs bm true sn sub ab col dd k0 k1 k2 k3 k5 "ValueError.__new__") ∧ refsVE bm = true
  sa : findIn K (.ref C) "__setattr__" = some (some (.builtin "object.__setattr__"))
  ga : findIn K (.ref C) "__getattribute__" = some (some (.builtin "BaseException.__getattribute__"))
  gg : findIn K (.ref C) "__getattr__" = some none
  noN : findIn K (.ref C) f = some none
  iC : findIn K (.ref C) "__init__" = some (some (.ref fI))
  tC : typeIn K (.ref fI) = some (.type "function")
  kC : keepIn K (.ref C) = true
  exC : subIn K (.ref C) (.type "BaseException") = some true
  veC : subIn K (.ref C) (.type "ValueError") = some true
  tyC : typeIn K (.ref C) = some (.type "type")
  hdC : hasDictIn K C = true
  sub : mroIn K C (.ref C) = some true
  sup : nsIn K mainGlobals "super" = some none
  any : nsIn K cStatics "thirdparty.any" = some none
  up : ks_superIn K C C "__init__" = some (some (.builtin "ValueError.__init__"))
  init : excInitIn K C [.type "ValueError", .type "Exception", .type "BaseException", .type "object"] "ValueError.__new__" = true
  top : (P.main.scope.names.lookup ("super" : Str)).isSome = false
  txt : ∃ (q t : Str) (j : Nat) (p1 p2 q0 q1 q2 q3 q4 q5 r1 r2 r3 r4 : Pos) (oc doc pm ct ccl cl : Value) (od an cdd cld : Option Addr) (osl ccs csl : Array (Option Value)) (cda cc : Addr) (vs : Array Value) (file : Str) (tf : Tok),
    K.lookup fI = some ⟨oc, od, .func (ksFn "__init__" q (xArgs f p1 p2) (xBody f t j q0 q1 q2 q3 q4 q5 r1 r2 r3 r4) (xScope f) .none .none doc pm an (.ref cda) ct cc), osl⟩ ∧ codeIn K (.ref cda) q = true ∧
    K.lookup cda = some ⟨ccl, cdd, .fields vs, ccs⟩ ∧ vs[2]? = some (.str file tf) ∧ ((P.main.file : Str) == file) = true ∧ (q2.endLine == q4.line) = true ∧ K.lookup cc = some ⟨cl, cld, .cell (some (.ref C)), csl⟩
/-- what __init__ leaves of a fresh exception at x -/
structure XcEnd (h h' : Heap) (x C dx : Addr) (f : Str) (v : Value) : Prop where
  keep : ∀ b o, b ≠ x → h.get? b = some o → h'.get? b = some o
  obj : ∃ t1 : Addr, h'.get? x = some { cls := .ref C, dict := some dx, data := .fields #[.ref t1, .none, .none, .none, .bool false, .none] }
  big : h.objs.size ≤ dx
  ne : dx ≠ x
  ns : h'.Ns1 dx (fun y => if y = f then some v else none)
/-- a made one -/
structure XcMade (h h' : Heap) (e C d : Addr) (f : Str) (v : Value) : Prop where
  keep : ∀ b o, h.get? b = some o → h'.get? b = some o
  new : h.objs.size ≤ e
  obj : ∃ oe vs, h'.get? e = some oe ∧ oe.cls = .ref C ∧ oe.dict = some d ∧ oe.data = .fields vs ∧ vs[1]? = some .none
  big : h.objs.size ≤ d
  ne : d ≠ e
  ns : h'.Ns1 d (fun y => if y = f then some v else none)
section
variable {P : Program} {w : World} {A : Around} {E : Value → Shared → Prop} {R : Result → Shared → Prop} {s : Shared} {K : Frag} {mg : Str → Option Value} {base : Heap} {nm f : Str} {C fI : Addr}
theorem xc_super {A : Around} {E : Value → Shared → Prop} (T : XcTxt P K mg nm f C fI) {h : Heap} {g : Array GenState} {d : PySem.Drawn} {t : Nat} {os : OsState} {so x t0 : Addr} {pos : Pos} {env : PySem.Env} {pl : Sem Bool} {Q : Value → Shared → Prop} {tx : Str} {j : Nat} {p3 : Pos} (X : K.In h)
    (hso : h.get? so = some (ks_superObj C x C)) (hx : h.get? x = some (excO C t0))
    (hq : ∀ h' tk t1, (∀ b o, b ≠ x → h.get? b = some o → h'.get? b = some o) → h'.get? x = some (excO C t1) → h.objs.size ≤ h'.objs.size → Q .none ⟨h', g, d, tk, os⟩) :
    wpAny (model P w) A (getMethod (.ref so) "__init__" pl) (fun fx s₂ => wpAny (model P w) A (callWith pos fx.1 fx.2 (backTo pos (starEach [.Constant (.str tx) j p3] env)) []) Q E s₂) E ⟨h, g, d, t, os⟩ := by
  have I : InstAt h x (excO C t0) C none := ⟨hx, rfl, rfl, trivial⟩
  have hI : Looks (model P w) h (isInstance (.ref x) (.type "ValueError")) true := I.type.andThen (looks_subIn X T.veC)
  have up := T.up
  cases hc : clsIn K C with
  | none => unfold ks_superIn at up; rw [hc] at up; cases up
  | some cd =>
    unfold ks_superIn at up
    rw [hc] at up
    refine kxs_getMethod kxs_ValueError hso (looks_opaque X T.any) (l₀ := cd.mro) (fun A Q E s k q => wpAny_bind ((looks_clsIn X hc) A _ E s k (wpAny_pure q))) rfl X up hI (ks_ne X I hc) (by decide) ?_
    have hu : (h.push (kxs_mw "ValueError.__init__" x)).get? h.objs.size = some (kxs_mw "ValueError.__init__" x) := Heap.get?_push_at rfl rfl
    have k : ∀ b o, h.get? b = some o → (h.push (kxs_mw "ValueError.__init__" x)).get? b = some o := fun b o e => Heap.get?_push_of_some _ e
    refine kxs_callWith (i := "ValueError.__init__") (x := x) rfl (evalArgs_plain (spliced_cons (wpAny_Constant_str (k := j) (pos := p3) (spliced_nil ⟨hu, ?_⟩))))
    obtain ⟨n1, q1, N1, bs1, bm1, sn1, su1, ab1, co1, dd1, m0, m1, m2, m3, m5, lC, _⟩ := T.cls
    have hC := X _ _ lC
    have FB := PySem.F.excBase_ValueError
    show wpAny _ _ (call (.ref h.objs.size) [.str tx (t + 1)]) _ _ _
    refine wpAny_call (codeAny_of_tree ?_)
    show wpAny _ A.in1 (callAny (.ref h.objs.size) ⟨[.str tx (t + 1)], []⟩) _ _ _
    unfold callAny
    refine wpAny_bind (wpAny_load hu ?_)
    simp only [kxs_mw]
    refine KFB.if_so (by decide) ?_
    refine KFB.if_so (by decide) ?_
    refine wpAny_bind (check_bound_init FB.toExcCallFacts (k _ _ hC) (k _ _ hx) rfl (wpAny_bind (wpAny_pure (wpAny_pure ⟨plainId_quiet FB.init.plain _, codeAny_builtin FB.initEntry ?_⟩))))
    refine exc_init_tree (cls := .ref C) (t0 := t0) (dv := none) (c2 := .none) (c3 := .none) (b4 := .bool false) (k _ _ hx) (by show 1 ≤ sizeLine; rw [sizeLine_eq]; omega) fun h' kp e' et => ?_
    have hlt := Heap.lt_size et
    rw [Heap.size_push] at hlt
    exact hq h' _ _ (fun b o hb e => kp b o hb (k b o e)) e' (Nat.le_of_lt (Nat.lt_of_succ_lt hlt))
theorem xc_init_place (T : XcTxt P K mg nm "place" C fI) (md : L2.Mod K mg base) (bk : ∀ b o, base.get? b = some o → s.heap.get? b = some o) {x t0 : Addr} {v : Value} (hx : s.heap.get? x = some (excO C t0)) (hnx : K.lookup x = none) (hroom : A.depth < recursionLimit)
    (hq : ∀ h' tk dx, XcEnd s.heap h' x C dx "place" v → R (.ok (.ret .none)) { s with heap := h', toks := tk }) :
    codeAny (model P w) A (.call (.ref fI) ⟨[.ref x, v], []⟩) R s := by
  obtain ⟨q, t, j, p1, p2, q0, q1, q2, q3, q4, q5, r1, r2, r3, r4, oc, doc, pm, ct, ccl, cl, od, an, cdd, cld, osl, ccs, csl, cda, cc, vs, file, tf, ho, hcd, hcda, hvs, hfile, hln, hcc⟩ := T.txt
  obtain ⟨n, qn, N, bs, bm, sn, sub, ab, col, dd, k0, k1, k2, k3, k5, hC, hbm⟩ := T.cls
  have hcl : clsIn K C = some { name := n, bases := bs, mro := .ref C :: bm, ns := N, qualname := qn, hasDict := true, slotNames := sn, subclasses := sub, abstract := ab, collection := col, hasDel := false } := by
    unfold clsIn
    rw [hC] <;> rfl
  have X : K.In s.heap := md.kin.keeps bk
  have nC := T.noN
  have hsb := T.sub
  have hsp := T.sup
  have hto := T.top
  refine ks_codeAny_call_defAt (fd := ksFn "__init__" q (xArgs "place" p1 p2) (xBody "place" t j q0 q1 q2 q3 q4 q5 r1 r2 r3 r4) (xScope "place") .none .none doc pm an (.ref cda) ct cc) (body := xBody "place" t j q0 q1 q2 q3 q4 q5 r1 r2 r3 r4) (binds := [("self", .ref x), (("place" : Str), v)]) hroom (X _ _ ho) rfl (md.nolimit.keeps bk) (codeRec_of X hcd) rfl ?hb ?hc ?hl (fun h₁ hns hk₁ => ?_) rfl rfl rfl
  case hb => exact BindsTo.of_eq rfl
  case hc =>
    show ∀ y ∈ (xScope "place").names, y.2 ≠ .cell
    decide
  case hl =>
    intro y m
    rcases List.mem_cons.mp m with rfl | m
    · rfl
    · rcases List.mem_cons.mp m with rfl | m
      · rfl
      · cases m
  have X₁ : K.In h₁ := X.keeps hk₁
  have hx₁ := hk₁ _ _ hx
  obtain ⟨mb, b1, b2⟩ := md.blt
  have kb : ∀ b o, base.get? b = some o → h₁.get? b = some o := fun b o e => hk₁ b o (bk b o e)
  have z1 : (xScope "place").names.lookup ("super" : Str) = some .globalImplicit := by rfl
  have z2 : (xScope "place").names.lookup ("__class__" : Str) = some .free := by rfl
  have z3 : (xScope "place").names.lookup ("self" : Str) = some .local := by rfl
  have z4 : (xScope "place").names.lookup ("place" : Str) = some .local := by rfl
  have z5 : ([(("self" : Str), Value.ref x), (("place" : Str), v)] : List (Str × Value)).reverse.lookup ("self" : Str) = some (.ref x) := by rfl
  have z6 : ([(("self" : Str), Value.ref x), (("place" : Str), v)] : List (Str × Value)).reverse.lookup ("place" : Str) = some v := by rfl
  have z7 : (("place" : Str) == ("__debug__" : Str)) = false := by decide
  obtain ⟨oD, hD1, hD2⟩ : ∃ oD, h₁.get? C = some oD ∧ oD.data = .cls _ := ⟨_, X₁ _ _ hC, rfl⟩
  refine ks_wpAt_execs_cons (ks_wpAt_Expr_any (ks_wpAt_MethodCall (ks_wpAt_super_base (env := ksEnv q (xScope "place") s.heap.objs.size fI (.ref cda) cc) z1 z2 (by decide) rfl (X₁ _ _ ho) rfl rfl rfl (X₁ _ _ hcda) rfl hvs hfile hto ?main) (pl := (do return (← importBound (.Call (.Name "super" q0) [] [] q1) (ksEnv q (xScope "place") s.heap.objs.size fI (.ref cda) cc)).getD true)) ?he))
  case he =>
    rw [arm_eval_Call]
    unfold methodCall methodCallPos
    rw [hln]
    simp only [Bool.or_true, if_true]
    rfl
  refine ks_loadName_global rfl z1 (loadGlobal_builtin (env := ksEnv q (xScope "place") s.heap.objs.size fI (.ref cda) cc) (md.glob.keeps kb) (mg_none_of X₁ (md.glob.keeps kb) hsp) (b1.keeps kb) ((b2 _ (by decide)).trans PyProof.Rows.Boot.super) ⟨rfl, ?_⟩)
  refine wpAny_loadName_free rfl z2 rfl ⟨_, X₁ _ _ hcc, rfl⟩ ?_
  refine wpAny_loadName_local rfl z3 hns z5 ?_
  refine ks_wpAny_isType_cls hD1 hD2 ⟨rfl, ?_⟩
  refine ks_wpAny_call_super hD1 hD2 hx₁ rfl (fun c e => by cases e) (looks_mroIn X₁ hsb) (fun h₂ e₂ k₂ => ?_)
  have X₂ : K.In h₂ := X₁.keeps k₂
  refine wpAny_mono (xc_super T X₂ e₂ (k₂ _ _ hx₁) fun h₃ tk t1 k₃ o₃ l₃ => ?_) (fun _ _ z => z) fun _ _ z => z
  have xL : s.heap.objs.size ≠ x := Nat.ne_of_gt (Heap.lt_size hx)
  have hns₃ : h₃.Ns s.heap.objs.size (fun y => ([(("self" : Str), Value.ref x), (("place" : Str), v)] : List (Str × Value)).reverse.lookup y) := by
    obtain ⟨oL, es, ep, hL, r⟩ := hns
    exact ⟨oL, es, ep, k₃ _ _ xL (k₂ _ _ hL), r⟩
  have X₃ : K.In h₃ := fun a o e => k₃ a o (fun z => by rw [z, hnx] at e; cases e) (X₂ a o e)
  have n₁ := hns.lt
  have n₂ : h₁.objs.size ≤ h₂.objs.size := Nat.le_of_lt (Heap.lt_size e₂)
  refine wpAt_of_wpAny (wpAny_execs_cons (plainObj_wpAny_Assign_Attribute ?_))
  refine wpAny_Name (wpAny_loadName_local (env := ksEnv q (xScope "place") s.heap.objs.size fI (.ref cda) cc) rfl z4 hns₃ z6 ?_) z7
  refine wpAny_Name (wpAny_loadName_local (env := ksEnv q (xScope "place") s.heap.objs.size fI (.ref cda) cc) rfl z3 hns₃ z5 ?_) (by decide)
  refine set_plain X₃ (ox := excO C t1) (od := none) ⟨o₃, rfl, rfl, trivial⟩ T.sa ?_
  refine exc_osa X₃ o₃ hcl (show refsVE (.ref C :: bm) = true from hbm) rfl nC (fun h₄ tk₄ dx k₄ dn dne hx₄ hn₄ => ?_)
  show wpAny _ _ (execs _ _) _ _ _
  refine wpAny_execs_nil (hq h₄ tk₄ dx ⟨fun b o hb e => k₄ b o hb (k₃ b o hb (k₂ b o (hk₁ b o e))), ⟨_, hx₄⟩, ?_, dne, hn₄⟩)
  exact Nat.le_of_lt (Nat.lt_of_lt_of_le n₁ (Nat.le_trans n₂ (Nat.le_trans l₃ dn)))
theorem xc_init_index (T : XcTxt P K mg nm "index" C fI) (md : L2.Mod K mg base) (bk : ∀ b o, base.get? b = some o → s.heap.get? b = some o) {x t0 : Addr} {v : Value} (hx : s.heap.get? x = some (excO C t0)) (hnx : K.lookup x = none) (hroom : A.depth < recursionLimit)
    (hq : ∀ h' tk dx, XcEnd s.heap h' x C dx "index" v → R (.ok (.ret .none)) { s with heap := h', toks := tk }) :
    codeAny (model P w) A (.call (.ref fI) ⟨[.ref x, v], []⟩) R s := by
  obtain ⟨q, t, j, p1, p2, q0, q1, q2, q3, q4, q5, r1, r2, r3, r4, oc, doc, pm, ct, ccl, cl, od, an, cdd, cld, osl, ccs, csl, cda, cc, vs, file, tf, ho, hcd, hcda, hvs, hfile, hln, hcc⟩ := T.txt
  obtain ⟨n, qn, N, bs, bm, sn, sub, ab, col, dd, k0, k1, k2, k3, k5, hC, hbm⟩ := T.cls
  have hcl : clsIn K C = some { name := n, bases := bs, mro := .ref C :: bm, ns := N, qualname := qn, hasDict := true, slotNames := sn, subclasses := sub, abstract := ab, collection := col, hasDel := false } := by
    unfold clsIn
    rw [hC] <;> rfl
  have X : K.In s.heap := md.kin.keeps bk
  have nC := T.noN
  have hsb := T.sub
  have hsp := T.sup
  have hto := T.top
  refine ks_codeAny_call_defAt (fd := ksFn "__init__" q (xArgs "index" p1 p2) (xBody "index" t j q0 q1 q2 q3 q4 q5 r1 r2 r3 r4) (xScope "index") .none .none doc pm an (.ref cda) ct cc) (body := xBody "index" t j q0 q1 q2 q3 q4 q5 r1 r2 r3 r4) (binds := [("self", .ref x), (("index" : Str), v)]) hroom (X _ _ ho) rfl (md.nolimit.keeps bk) (codeRec_of X hcd) rfl ?hb ?hc ?hl (fun h₁ hns hk₁ => ?_) rfl rfl rfl
  case hb => exact BindsTo.of_eq rfl
  case hc =>
    show ∀ y ∈ (xScope "index").names, y.2 ≠ .cell
    decide
  case hl =>
    intro y m
    rcases List.mem_cons.mp m with rfl | m
    · rfl
    · rcases List.mem_cons.mp m with rfl | m
      · rfl
      · cases m
  have X₁ : K.In h₁ := X.keeps hk₁
  have hx₁ := hk₁ _ _ hx
  obtain ⟨mb, b1, b2⟩ := md.blt
  have kb : ∀ b o, base.get? b = some o → h₁.get? b = some o := fun b o e => hk₁ b o (bk b o e)
  have z1 : (xScope "index").names.lookup ("super" : Str) = some .globalImplicit := by rfl
  have z2 : (xScope "index").names.lookup ("__class__" : Str) = some .free := by rfl
  have z3 : (xScope "index").names.lookup ("self" : Str) = some .local := by rfl
  have z4 : (xScope "index").names.lookup ("index" : Str) = some .local := by rfl
  have z5 : ([(("self" : Str), Value.ref x), (("index" : Str), v)] : List (Str × Value)).reverse.lookup ("self" : Str) = some (.ref x) := by rfl
  have z6 : ([(("self" : Str), Value.ref x), (("index" : Str), v)] : List (Str × Value)).reverse.lookup ("index" : Str) = some v := by rfl
  have z7 : (("index" : Str) == ("__debug__" : Str)) = false := by decide
  obtain ⟨oD, hD1, hD2⟩ : ∃ oD, h₁.get? C = some oD ∧ oD.data = .cls _ := ⟨_, X₁ _ _ hC, rfl⟩
  refine ks_wpAt_execs_cons (ks_wpAt_Expr_any (ks_wpAt_MethodCall (ks_wpAt_super_base (env := ksEnv q (xScope "index") s.heap.objs.size fI (.ref cda) cc) z1 z2 (by decide) rfl (X₁ _ _ ho) rfl rfl rfl (X₁ _ _ hcda) rfl hvs hfile hto ?main) (pl := (do return (← importBound (.Call (.Name "super" q0) [] [] q1) (ksEnv q (xScope "index") s.heap.objs.size fI (.ref cda) cc)).getD true)) ?he))
  case he =>
    rw [arm_eval_Call]
    unfold methodCall methodCallPos
    rw [hln]
    simp only [Bool.or_true, if_true]
    rfl
  refine ks_loadName_global rfl z1 (loadGlobal_builtin (env := ksEnv q (xScope "index") s.heap.objs.size fI (.ref cda) cc) (md.glob.keeps kb) (mg_none_of X₁ (md.glob.keeps kb) hsp) (b1.keeps kb) ((b2 _ (by decide)).trans PyProof.Rows.Boot.super) ⟨rfl, ?_⟩)
  refine wpAny_loadName_free rfl z2 rfl ⟨_, X₁ _ _ hcc, rfl⟩ ?_
  refine wpAny_loadName_local rfl z3 hns z5 ?_
  refine ks_wpAny_isType_cls hD1 hD2 ⟨rfl, ?_⟩
  refine ks_wpAny_call_super hD1 hD2 hx₁ rfl (fun c e => by cases e) (looks_mroIn X₁ hsb) (fun h₂ e₂ k₂ => ?_)
  have X₂ : K.In h₂ := X₁.keeps k₂
  refine wpAny_mono (xc_super T X₂ e₂ (k₂ _ _ hx₁) fun h₃ tk t1 k₃ o₃ l₃ => ?_) (fun _ _ z => z) fun _ _ z => z
  have xL : s.heap.objs.size ≠ x := Nat.ne_of_gt (Heap.lt_size hx)
  have hns₃ : h₃.Ns s.heap.objs.size (fun y => ([(("self" : Str), Value.ref x), (("index" : Str), v)] : List (Str × Value)).reverse.lookup y) := by
    obtain ⟨oL, es, ep, hL, r⟩ := hns
    exact ⟨oL, es, ep, k₃ _ _ xL (k₂ _ _ hL), r⟩
  have X₃ : K.In h₃ := fun a o e => k₃ a o (fun z => by rw [z, hnx] at e; cases e) (X₂ a o e)
  have n₁ := hns.lt
  have n₂ : h₁.objs.size ≤ h₂.objs.size := Nat.le_of_lt (Heap.lt_size e₂)
  refine wpAt_of_wpAny (wpAny_execs_cons (plainObj_wpAny_Assign_Attribute ?_))
  refine wpAny_Name (wpAny_loadName_local (env := ksEnv q (xScope "index") s.heap.objs.size fI (.ref cda) cc) rfl z4 hns₃ z6 ?_) z7
  refine wpAny_Name (wpAny_loadName_local (env := ksEnv q (xScope "index") s.heap.objs.size fI (.ref cda) cc) rfl z3 hns₃ z5 ?_) (by decide)
  refine set_plain X₃ (ox := excO C t1) (od := none) ⟨o₃, rfl, rfl, trivial⟩ T.sa ?_
  refine exc_osa X₃ o₃ hcl (show refsVE (.ref C :: bm) = true from hbm) rfl nC (fun h₄ tk₄ dx k₄ dn dne hx₄ hn₄ => ?_)
  show wpAny _ _ (execs _ _) _ _ _
  refine wpAny_execs_nil (hq h₄ tk₄ dx ⟨fun b o hb e => k₄ b o hb (k₃ b o hb (k₂ b o (hk₁ b o e))), ⟨_, hx₄⟩, ?_, dne, hn₄⟩)
  exact Nat.le_of_lt (Nat.lt_of_lt_of_le n₁ (Nat.le_trans n₂ (Nat.le_trans l₃ dn)))
theorem xc_init_count (T : XcTxt P K mg nm "count" C fI) (md : L2.Mod K mg base) (bk : ∀ b o, base.get? b = some o → s.heap.get? b = some o) {x t0 : Addr} {v : Value} (hx : s.heap.get? x = some (excO C t0)) (hnx : K.lookup x = none) (hroom : A.depth < recursionLimit)
    (hq : ∀ h' tk dx, XcEnd s.heap h' x C dx "count" v → R (.ok (.ret .none)) { s with heap := h', toks := tk }) :
    codeAny (model P w) A (.call (.ref fI) ⟨[.ref x, v], []⟩) R s := by
  obtain ⟨q, t, j, p1, p2, q0, q1, q2, q3, q4, q5, r1, r2, r3, r4, oc, doc, pm, ct, ccl, cl, od, an, cdd, cld, osl, ccs, csl, cda, cc, vs, file, tf, ho, hcd, hcda, hvs, hfile, hln, hcc⟩ := T.txt
  obtain ⟨n, qn, N, bs, bm, sn, sub, ab, col, dd, k0, k1, k2, k3, k5, hC, hbm⟩ := T.cls
  have hcl : clsIn K C = some { name := n, bases := bs, mro := .ref C :: bm, ns := N, qualname := qn, hasDict := true, slotNames := sn, subclasses := sub, abstract := ab, collection := col, hasDel := false } := by
    unfold clsIn
    rw [hC] <;> rfl
  have X : K.In s.heap := md.kin.keeps bk
  have nC := T.noN
  have hsb := T.sub
  have hsp := T.sup
  have hto := T.top
  refine ks_codeAny_call_defAt (fd := ksFn "__init__" q (xArgs "count" p1 p2) (xBody "count" t j q0 q1 q2 q3 q4 q5 r1 r2 r3 r4) (xScope "count") .none .none doc pm an (.ref cda) ct cc) (body := xBody "count" t j q0 q1 q2 q3 q4 q5 r1 r2 r3 r4) (binds := [("self", .ref x), (("count" : Str), v)]) hroom (X _ _ ho) rfl (md.nolimit.keeps bk) (codeRec_of X hcd) rfl ?hb ?hc ?hl (fun h₁ hns hk₁ => ?_) rfl rfl rfl
  case hb => exact BindsTo.of_eq rfl
  case hc =>
    show ∀ y ∈ (xScope "count").names, y.2 ≠ .cell
    decide
  case hl =>
    intro y m
    rcases List.mem_cons.mp m with rfl | m
    · rfl
    · rcases List.mem_cons.mp m with rfl | m
      · rfl
      · cases m
  have X₁ : K.In h₁ := X.keeps hk₁
  have hx₁ := hk₁ _ _ hx
  obtain ⟨mb, b1, b2⟩ := md.blt
  have kb : ∀ b o, base.get? b = some o → h₁.get? b = some o := fun b o e => hk₁ b o (bk b o e)
  have z1 : (xScope "count").names.lookup ("super" : Str) = some .globalImplicit := by rfl
  have z2 : (xScope "count").names.lookup ("__class__" : Str) = some .free := by rfl
  have z3 : (xScope "count").names.lookup ("self" : Str) = some .local := by rfl
  have z4 : (xScope "count").names.lookup ("count" : Str) = some .local := by rfl
  have z5 : ([(("self" : Str), Value.ref x), (("count" : Str), v)] : List (Str × Value)).reverse.lookup ("self" : Str) = some (.ref x) := by rfl
  have z6 : ([(("self" : Str), Value.ref x), (("count" : Str), v)] : List (Str × Value)).reverse.lookup ("count" : Str) = some v := by rfl
  have z7 : (("count" : Str) == ("__debug__" : Str)) = false := by decide
  obtain ⟨oD, hD1, hD2⟩ : ∃ oD, h₁.get? C = some oD ∧ oD.data = .cls _ := ⟨_, X₁ _ _ hC, rfl⟩
  refine ks_wpAt_execs_cons (ks_wpAt_Expr_any (ks_wpAt_MethodCall (ks_wpAt_super_base (env := ksEnv q (xScope "count") s.heap.objs.size fI (.ref cda) cc) z1 z2 (by decide) rfl (X₁ _ _ ho) rfl rfl rfl (X₁ _ _ hcda) rfl hvs hfile hto ?main) (pl := (do return (← importBound (.Call (.Name "super" q0) [] [] q1) (ksEnv q (xScope "count") s.heap.objs.size fI (.ref cda) cc)).getD true)) ?he))
  case he =>
    rw [arm_eval_Call]
    unfold methodCall methodCallPos
    rw [hln]
    simp only [Bool.or_true, if_true]
    rfl
  refine ks_loadName_global rfl z1 (loadGlobal_builtin (env := ksEnv q (xScope "count") s.heap.objs.size fI (.ref cda) cc) (md.glob.keeps kb) (mg_none_of X₁ (md.glob.keeps kb) hsp) (b1.keeps kb) ((b2 _ (by decide)).trans PyProof.Rows.Boot.super) ⟨rfl, ?_⟩)
  refine wpAny_loadName_free rfl z2 rfl ⟨_, X₁ _ _ hcc, rfl⟩ ?_
  refine wpAny_loadName_local rfl z3 hns z5 ?_
  refine ks_wpAny_isType_cls hD1 hD2 ⟨rfl, ?_⟩
  refine ks_wpAny_call_super hD1 hD2 hx₁ rfl (fun c e => by cases e) (looks_mroIn X₁ hsb) (fun h₂ e₂ k₂ => ?_)
  have X₂ : K.In h₂ := X₁.keeps k₂
  refine wpAny_mono (xc_super T X₂ e₂ (k₂ _ _ hx₁) fun h₃ tk t1 k₃ o₃ l₃ => ?_) (fun _ _ z => z) fun _ _ z => z
  have xL : s.heap.objs.size ≠ x := Nat.ne_of_gt (Heap.lt_size hx)
  have hns₃ : h₃.Ns s.heap.objs.size (fun y => ([(("self" : Str), Value.ref x), (("count" : Str), v)] : List (Str × Value)).reverse.lookup y) := by
    obtain ⟨oL, es, ep, hL, r⟩ := hns
    exact ⟨oL, es, ep, k₃ _ _ xL (k₂ _ _ hL), r⟩
  have X₃ : K.In h₃ := fun a o e => k₃ a o (fun z => by rw [z, hnx] at e; cases e) (X₂ a o e)
  have n₁ := hns.lt
  have n₂ : h₁.objs.size ≤ h₂.objs.size := Nat.le_of_lt (Heap.lt_size e₂)
  refine wpAt_of_wpAny (wpAny_execs_cons (plainObj_wpAny_Assign_Attribute ?_))
  refine wpAny_Name (wpAny_loadName_local (env := ksEnv q (xScope "count") s.heap.objs.size fI (.ref cda) cc) rfl z4 hns₃ z6 ?_) z7
  refine wpAny_Name (wpAny_loadName_local (env := ksEnv q (xScope "count") s.heap.objs.size fI (.ref cda) cc) rfl z3 hns₃ z5 ?_) (by decide)
  refine set_plain X₃ (ox := excO C t1) (od := none) ⟨o₃, rfl, rfl, trivial⟩ T.sa ?_
  refine exc_osa X₃ o₃ hcl (show refsVE (.ref C :: bm) = true from hbm) rfl nC (fun h₄ tk₄ dx k₄ dn dne hx₄ hn₄ => ?_)
  show wpAny _ _ (execs _ _) _ _ _
  refine wpAny_execs_nil (hq h₄ tk₄ dx ⟨fun b o hb e => k₄ b o hb (k₃ b o hb (k₂ b o (hk₁ b o e))), ⟨_, hx₄⟩, ?_, dne, hn₄⟩)
  exact Nat.le_of_lt (Nat.lt_of_lt_of_le n₁ (Nat.le_trans n₂ (Nat.le_trans l₃ dn)))
theorem xc_any (T : XcTxt P K mg nm f C fI) (md : L2.Mod K mg base) (bk : ∀ b o, base.get? b = some o → s.heap.get? b = some o) {x t0 : Addr} {v : Value} (hx : s.heap.get? x = some (excO C t0)) (hnx : K.lookup x = none) (hroom : A.depth < recursionLimit)
    (hq : ∀ h' tk dx, XcEnd s.heap h' x C dx f v → R (.ok (.ret .none)) { s with heap := h', toks := tk }) :
    codeAny (model P w) A (.call (.ref fI) ⟨[.ref x, v], []⟩) R s := by
  rcases T.fn with rfl | rfl | rfl
  · exact xc_init_place T md bk hx hnx hroom hq
  · exact xc_init_index T md bk hx hnx hroom hq
  · exact xc_init_count T md bk hx hnx hroom hq
theorem xc_made (T : XcTxt P K mg nm f C fI) (md : L2.Mod K mg base) {v : Value} (bk : ∀ b o, base.get? b = some o → s.heap.get? b = some o) (hroom : A.depth + 1 < recursionLimit)
    (hq : ∀ h' tk e d, XcMade s.heap h' e C d f v → R (.ok (.ret (.ref e))) { s with heap := h', toks := tk }) :
    codeAny (model P w) A (.call (.ref C) ⟨[v], []⟩) R s := by
  obtain ⟨n, qn, N, bs, bm, sn, sub, ab, col, dd, k0, k1, k2, k3, k5, hC, hbm⟩ := T.cls
  obtain ⟨hp, g, dr, tk, os⟩ := s
  have X : K.In hp := md.kin.keeps bk
  have up : ∀ b o, hp.get? b = some o → ((hp.push (kdv_tup [v])).push (excO C hp.objs.size)).get? b = some o := fun b o e => Heap.get?_push_of_some _ (Heap.get?_push_of_some _ e)
  have at1 : ((hp.push (kdv_tup [v])).push (excO C hp.objs.size)).get? (hp.objs.size + 1) = some (excO C hp.objs.size) := by heap_get
  have free : K.lookup (hp.objs.size + 1) = none := by
    cases e : K.lookup (hp.objs.size + 1) with
    | none => rfl
    | some o =>
      have lt := Heap.lt_size (X _ _ e)
      exact absurd (Nat.lt_of_succ_lt lt) (Nat.lt_irrefl _)
  refine call_own PySem.F.excBase_ValueError (fun z => refsVE_contains z bm hbm) (X _ _ hC) (looks_findIn X T.iC) (fun self => bind_fn X self T.tC) (by show 1 ≤ sizeLine; rw [sizeLine_eq]; omega) ?_
  refine xc_any (s := ⟨(hp.push (kdv_tup [v])).push (excO C hp.objs.size), g, dr, tk, os⟩) T md (fun b o e => up b o (bk b o e)) at1 free hroom fun h' tk' dx ⟨kp, hx, dn, dne, hns⟩ => ?_
  have old : ∀ b o, hp.get? b = some o → h'.get? b = some o := fun b o e => kp b o (Nat.ne_of_lt (Nat.lt_succ_of_lt (Heap.lt_size e))) (up b o e)
  have dn : hp.objs.size + 1 + 1 ≤ dx := by
    have dn : ((hp.push (kdv_tup [v])).push (excO C hp.objs.size)).objs.size ≤ dx := dn
    rw [Heap.size_push, Heap.size_push] at dn
    exact dn
  obtain ⟨t1, hx⟩ := hx
  exact ⟨rfl, hq h' tk' (hp.objs.size + 1) dx ⟨old, Nat.le_succ _, ⟨_, _, hx, rfl, rfl, rfl, rfl⟩, Nat.le_trans (Nat.le_trans (Nat.le_succ _) (Nat.le_succ _)) dn, dne, hns⟩⟩
end
end DL
set_option linter.all false
set_option autoImplicit false
set_option maxHeartbeats 4000000
set_option maxRecDepth 100000
/-! try with several clauses, of which some name the error. -/
namespace DL
open PySem PySem.Spec PyProof.Rows L2
abbrev Su := Addr → Value → Option Addr → TS
/-- behind a suite the error's name is gone -/
def goneAt (i : Nat) (D : Ends) : Ends := { nx := fun τ G => D.nx (τ.set i none) G, rt := D.rt, bk := fun τ G => D.bk (τ.set i none) G, ct := fun τ G => D.ct (τ.set i none) G }
def suiteAt (ts : Su) (D : Ends) (a : Addr) (cls : Value) (d : Option Addr) : Option Nat → L2.St → Hp → Prop
  | none, σ, H => ts a cls d D σ H
  | some i, σ, H => ts a cls d (goneAt i D) (σ.set i (some (.ref a))) H
/-- what the clauses wish of an error, one behind the other -/
def wMix (K : PySem.W.Frag) (W0 : WX) (D : Ends) : List (Value × Option Nat × Su) → WX
  | [] => W0
  | (k, oi, ts) :: r => fun cls d σ H => ∃ b, PySem.W.exmOne K cls k = some b ∧ (b = true → ∀ a, H a = none → suiteAt ts D a cls d oi σ H) ∧ (b = false → wMix K W0 D r cls d σ H)
abbrev SuiteOk (X : Cx) (sts : List Stmt) (ts : Su) : Prop := ∀ (a : Addr) (oe : Obj) (cls : Value) (d : Option Addr) (pn : List (Addr × Obj)), Zc cls d oe → (∃ vs, oe.data = .fields vs) → PSs (X.suite a ((a, oe) :: pn)) sts (ts a cls d)
inductive Clauses (X : Cx) : List ExceptHandler → List (Value × Option Nat × Su) → Prop
  | nil : Clauses X [] []
  | plain {x : Str} {k : Value} {ts : Su} {b₀ : Stmt} {su : List Stmt} {np q : Pos} {hds : List ExceptHandler} {l : List (Value × Option Nat × Su)} (hc : Names X x k) (hs : SuiteOk X (b₀ :: su) ts) (r : Clauses X hds l) : Clauses X (.ExceptHandler (some (.Name x np)) none (b₀ :: su) q :: hds) ((k, none, ts) :: l)
  | named {x n : Str} {i : Nat} {k : Value} {ts : Su} {b₀ : Stmt} {su : List Stmt} {np q : Pos} {hds : List ExceptHandler} {l : List (Value × Option Nat × Su)} (hi : X.N[i]? = some n) (hl : X.env.kindOf n = some .local) (hc : Names X x k) (hs : SuiteOk X (b₀ :: su) ts) (r : Clauses X hds l) : Clauses X (.ExceptHandler (some (.Name x np)) (some n) (b₀ :: su) q :: hds) ((k, some i, ts) :: l)
section
variable {X : Cx} {pins : List (Addr × Obj)} {σ : L2.St} {H : Hp} {s sI : Shared} {a : Addr} {cls : Value} {d : Option Addr} {B : Heap}
/-- an error at a, caught in X's frame, on the ground -/
structure OnGround (X : Cx) (pins : List (Addr × Obj)) (σ : L2.St) (H : Hp) (sI : Shared) (B : Heap) (a : Addr) (cls : Value) (d : Option Addr) (s : Shared) : Prop where
  fl : HandSPX.FlyingZ B (X.env :: X.outer) a (Zc cls d) s.heap
  inv : Inv X pins σ H sI
  nb : ∀ b o, sI.heap.get? b = some o → b ∉ L2.frs X.stack → B.get? b = some o
  up : sI.heap.UpToSlots s.heap
  na : H a = none
  os : s.os = sI.os
  ag : AllBare s.gens
theorem OnGround.here (g : OnGround X pins σ H sI B a cls d s) : Inv X pins σ H s := Inv.landed g.inv g.nb g.fl.1 g.up g.os g.ag
theorem OnGround.inSuite (g : OnGround X pins σ H sI B a cls d s) (hf : X.env.frame = some X.env.locals) : ∃ oe vs, s.heap.get? a = some oe ∧ Zc cls d oe ∧ oe.data = .fields vs ∧ Inv (X.suite a ((a, oe) :: (X.pn ++ pins))) [] σ H s := by
  obtain ⟨oe, vs, h1, h2, h3⟩ := g.fl.there
  have far : a ∉ L2.frs (X.env :: X.outer) := fun m => by
    obtain ⟨_, o, h4, h5⟩ := g.fl.2.2.1.mem m
    rw [h1] at h4
    cases h4
    exact h5 _ h3
  have f1 : a ≠ X.env.locals := fun z => far (List.mem_filterMap.mpr ⟨X.env, List.mem_cons_self, by rw [hf, z]⟩)
  have f2 : a ∉ X.fs := fun m => by
    obtain ⟨e, h4, h5⟩ := List.mem_filterMap.mp m
    exact far (List.mem_filterMap.mpr ⟨e, List.mem_cons_of_mem _ h4, h5⟩)
  exact ⟨oe, vs, h1, h2, h3, g.here.suite h1 h3 g.na f1 f2⟩
theorem OnGround.move {h' : Heap} (g : OnGround X pins σ H sI B a cls d s) (fl : HandSPX.FlyingZ B (X.env :: X.outer) a (Zc cls d) h') (up : s.heap.UpToSlots h') : OnGround X pins σ H sI B a cls d { s with heap := h' } :=
  ⟨fl, g.inv, g.nb, g.up.trans up, g.na, g.os, g.ag⟩
/-- a suite done -/
theorem SP.back {X : Cx} {a : Addr} {oe : Obj} {D : Ends} {fl : Flow} {s : Shared} {pins : List (Addr × Obj)} (ok : X.Ok) (h : SP (X.suite a ((a, oe) :: (X.pn ++ pins))) [] D fl s) : SP X pins D fl s := by
  cases fl with
  | next => exact h.elim fun τ h => h.elim fun G h => ⟨τ, G, h.1.unsuite ok, h.2⟩
  | brk => exact h.elim fun τ h => h.elim fun G h => ⟨τ, G, h.1.unsuite ok, h.2⟩
  | cont => exact h.elim fun τ h => h.elim fun G h => ⟨τ, G, h.1.unsuite ok, h.2⟩
  | ret u =>
    obtain ⟨v, τ, G, J, r, q⟩ := h
    exact ⟨v, τ, G, J.unsuite ok, r, q⟩
/-- a clause's class is asked for -/
theorem clause_test {x : Str} {k : Value} {np : Pos} {b : Bool} {Q : Bool → Shared → Prop} {E1 E2 : Value → Shared → Prop} (g : OnGround X pins σ H sI B a cls d s) (hf : X.env.frame = some X.env.locals) (hc : Names X x k) (hb : PySem.W.exmOne X.K cls k = some b) (q : Q b s) :
    wpAny (model X.prog X.w) (X.A.mark (some (.ref a))) (eval (.Name x np) X.env) (fun c s₁ => wpAny (model X.prog X.w) (X.A.mark (some (.ref a))) (excMatches (.ref a) c) Q E1 s₁) E2 s := by
  obtain ⟨oe, vs, h1, h2, h3, S⟩ := g.inSuite hf
  have ty : PySem.W.Looks (model X.prog X.w) s.heap (typeOf (.ref a)) cls := fun _ _ _ _ kp r => wpAny_typeOf_ref (kp _ _ h1) (by rw [h2.1]; exact r)
  have am := PySem.W.exm_one (M := model X.prog X.w) g.here.kIn ty hb
  obtain ⟨hg, hdb, hm | ⟨hm, hv, hn⟩⟩ := hc
  · exact ld_glob (X := X.suite a ((a, oe) :: (X.pn ++ pins))) S hg hm (am.here q) hdb
  · exact ld_blt (X := X.suite a ((a, oe) :: (X.pn ++ pins))) S hg hm hv (am.here q) hn hdb
theorem clauses_go {hds : List ExceptHandler} {l : List (Value × Option Nat × Su)} {W0 : WX} {D : Ends} (hs : X.stack = X.env :: X.outer) (hf : X.env.frame = some X.env.locals) (hN : X.N.Nodup) (tk : Takes X W0) (hk : Clauses X hds l) :
    ∀ s, OnGround X pins σ H sI B a cls d s → wMix X.K W0 D l cls d σ H → wpAny (model X.prog X.w) X.A (handleBy (.ref a) X.env hds) (SP X pins D) X.xe s := by
  induction hk with
  | nil =>
    intro s g w
    refine wpAny_handleBy_nil ?_
    obtain ⟨c1, c2, c3, oe, vs, T, oT, ts', e1, e2, e3, e4, e5⟩ := id g.fl
    unfold PySem.passOn
    refine wpAny_bind (wpAny_field e1 e3 e4 ?_)
    have ne : ¬ ((Value.ref T == Value.none) = true) := by simp
    rw [if_neg ne]
    have out : wpAny (model X.prog X.w) X.A (setFlight (.ref a) X.env.frame) (fun _ s4 => wpAny (model X.prog X.w) X.A (throw (.ref a) : Sem Flow) (SP X pins D) X.xe s4) X.xe s := by
      rw [hf]
      refine HandSPX.setFlight_upZ g.fl fun h4 held up4 => wpAny_throw (tk _ _ ?_)
      exact ⟨a, B, sI, pins, σ, H, cls, d, rfl, g.inv, g.nb, g.up.trans up4, .inr (.inr (by rw [hs]; exact held)), g.na, g.os, g.ag, w⟩
    first
      | exact wpAny_bind (wpAny_pure (wpAny_bind out))
      | exact wpAny_bind out
  | @plain x k ts b₀ su np q hds2 l2 hc hsu r ih =>
    intro s g w
    obtain ⟨b, hb, yes, no⟩ := w
    refine wpAny_handleBy_cons (codeAny_handlers_test ?_) (by intro z; cases z)
    refine clause_test g hf hc hb ?_
    cases b with
    | false => exact ih s g (no rfl)
    | true =>
      refine codeAny_handlers_suite ?_
      refine HandSPX.lands_againZ g.fl fun h4 fl4 up4 => ?_
      obtain ⟨oe, vs, h1, h2, h3, S⟩ := (g.move fl4 up4).inSuite hf
      exact wpAny_mono ((hsu a oe cls d (X.pn ++ pins) h2 ⟨_, h3⟩).run [] _ _ H _ S (yes rfl a g.na)) (fun f s6 hsp => SP.back g.inv.ok hsp) fun _ _ z => z.elim
  | @named x n i k ts b₀ su np q hds2 l2 hi hl hc hsu r ih =>
    intro s g w
    obtain ⟨b, hb, yes, no⟩ := w
    refine wpAny_handleBy_cons (codeAny_handlers_test ?_) (by intro z; cases z)
    refine clause_test g hf hc hb ?_
    cases b with
    | false => exact ih s g (no rfl)
    | true =>
      refine codeAny_handlers_suite_as ?_
      refine HandSPX.lands_againZ g.fl fun h4 fl4 up4 => ?_
      obtain ⟨oe, vs, h1, h2, h3, S⟩ := (g.move fl4 up4).inSuite hf
      refine store_ok (X := X.suite a ((a, oe) :: (X.pn ++ pins))) (v := .ref a) S hN hi (.inl hl) rfl (fun s5 S5 => ?_) (.inr hl)
      refine wpAny_mono ((hsu a oe cls d (X.pn ++ pins) h2 ⟨_, h3⟩).run [] s5 _ H _ S5 (yes rfl a g.na)) (fun f s6 hsp => ?_) fun _ _ z => z.elim
      have fin : ∀ {τ : L2.St} {G : Hp} {Q : Shared → Prop}, Inv (X.suite a ((a, oe) :: (X.pn ++ pins))) [] τ G s6 → (∀ s7, Inv X pins (τ.set i none) G s7 → Q s7) →
          wpAny (model X.prog X.w) X.A (do bindName X.env n .none; unbindBehindTheSuite X.env n q) (fun _ s7 => Q s7) X.xe s6 := fun J hq => gone_ok (J.unsuite g.inv.ok) hN hi hl hq
      cases f with
      | next => exact hsp.elim fun τ h => h.elim fun G h => fin h.1 fun s7 J => ⟨_, _, J, h.2⟩
      | brk => exact hsp.elim fun τ h => h.elim fun G h => fin h.1 fun s7 J => ⟨_, _, J, h.2⟩
      | cont => exact hsp.elim fun τ h => h.elim fun G h => fin h.1 fun s7 J => ⟨_, _, J, h.2⟩
      | ret u =>
        obtain ⟨v, τ, G, J, r6, q6⟩ := hsp
        exact fin J fun s7 J7 => ⟨_, _, _, J7, r6, q6⟩
/-- THE RULE for try -/
theorem ps_try_mix {body : List Stmt} {h₀ : ExceptHandler} {hds : List ExceptHandler} {l : List (Value × Option Nat × Su)} {pos : Pos} {tb : WX → TS} {W0 : WX} (hs : X.stack = X.env :: X.outer) (hf : X.env.frame = some X.env.locals) (hN : X.N.Nodup) (tk : Takes X W0)
    (hb : ∀ (W : WX) (pn : List (Addr × Obj)) (xe : Value → Shared → Prop), Takes (X.tr pn xe) W → PassesOwn (model X.prog X.w) X.A X.env xe → PSs (X.tr pn xe) body (tb W))
    (hk : Clauses X (h₀ :: hds) l) : PS X (.Try body (h₀ :: hds) [] [] pos) (fun D σ H => tb (wMix X.K W0 D l) D σ H) := by
  refine ⟨fun pins s σ H D I h => wpAny_Try_except ?_⟩
  have fr : X.A.frames = some (X.env :: X.outer) := by rw [I.ok.frames, hs]
  let xe : Value → Shared → Prop := fun e t1 => wpAny (model X.prog X.w) X.A (noteFrame e X.env) (fun _ t2 => wpAny (model X.prog X.w) X.A (setFlight e none) (fun _ t3 => wpAny (model X.prog X.w) X.A (handleBy e X.env (h₀ :: hds)) (SP X pins D) X.xe t3) X.xe t2) X.xe t1
  have tk2 : Takes (X.tr (X.pn ++ pins) xe) (wMix X.K W0 D l) := fun u t1 xx => by
    obtain ⟨a, B, sI, pins', τ, G, cls, d, rfl, J, nb, up, sky, na, os, ag, w⟩ := xx
    have sky : Sky B (X.env :: X.outer) a (Zc cls d) X.env.locals t1.heap := by rw [← hs]; exact sky
    show wpAny _ _ (noteFrame (.ref a) X.env) _ _ _
    exact Sky.land Zc.steady fr hf sky fun h3 fl3 up3 => clauses_go hs hf hN tk hk _ ⟨fl3, J.ofTry I.ok, nb, up.trans up3, na, os, ag⟩ w
  refine wpAny_mono ((hb _ _ xe tk2 PassesOwn.looking).run [] s σ H D (I.toTry _) h) (fun f s1 hsp => ?_) fun _ _ z => z
  cases f with
  | next => exact hsp.elim fun τ h => h.elim fun G h => wpAny_execs_nil ⟨τ, G, h.1.ofTry I.ok, h.2⟩
  | brk => exact hsp.elim fun τ h => h.elim fun G h => ⟨τ, G, h.1.ofTry I.ok, h.2⟩
  | cont => exact hsp.elim fun τ h => h.elim fun G h => ⟨τ, G, h.1.ofTry I.ok, h.2⟩
  | ret u =>
    obtain ⟨v, τ, G, J, r, q⟩ := hsp
    exact ⟨v, τ, G, J.ofTry I.ok, r, q⟩
end
end DL
set_option linter.all false
set_option autoImplicit false
set_option maxHeartbeats 4000000
set_option maxRecDepth 100000
/-! raise and try, over data. -/
namespace DL
open PySem PySem.Spec PyProof.Rows L2
/-! ### what the written part says of the error classes -/
abbrev VE4 : List Value := [.type "ValueError", .type "Exception", .type "BaseException", .type "object"]
structure Er0 (K : PySem.W.Frag) (mg : Str → Option Value) (nm : Str) : Prop where
  ex : ∃ C : Addr, mg nm = some (.ref C) ∧ PySem.W.nsIn K mainGlobals nm = some (some (.ref C)) ∧ PySem.W.excIn K C VE4 "ValueError.__new__" = true ∧ PySem.W.keepIn K (.ref C) = true ∧
    PySem.W.subIn K (.ref C) (.type "BaseException") = some true ∧ PySem.W.typeIn K (.ref C) = some (.type "type")
structure Er1 (P : Program) (K : PySem.W.Frag) (mg : Str → Option Value) (nm f : Str) : Prop where
  ex : ∃ C fI : Addr, XcTxt P K mg nm f C fI ∧ PySem.W.nsIn K mainGlobals nm = some (some (.ref C))
/-- errors of the package: each under CourseError alone -/
def subX (a c : Str) : Bool := a == c || c == "CourseError"
/-- which class an except clause takes -/
structure ErS (K : PySem.W.Frag) (mg : Str → Option Value) (L : List Str) : Prop where
  sub : ∀ a ∈ L, ∀ c ∈ L, ∀ A C : Addr, PySem.W.nsIn K mainGlobals a = some (some (.ref A)) → PySem.W.nsIn K mainGlobals c = some (some (.ref C)) → PySem.W.exmOne K (.ref A) (.ref C) = some (subX a c)
  mg : ∀ c ∈ L, ∃ C : Addr, mg c = some (.ref C) ∧ PySem.W.nsIn K mainGlobals c = some (some (.ref C))
/-! ### readings -/
def sRaise0 (nm : Str) : SW := fun X _ ρ => X ρ ⟨nm, none⟩
def sRaise1 (nm f : Str) (w : EW) : SW := fun X _ ρ => w X ρ fun x => X ρ ⟨nm, some (f, x)⟩
abbrev SuW := Exc → SW
def wHs (L : List Str) : List (Str × SuW) → XD → DEnds → Env → Exc → Prop
  | [], X, _, ρ, ex => X ρ ex
  | (c, su) :: r, X, DD, ρ, ex => L.contains ex.cls = true ∧ if subX ex.cls c = true then su ex X DD ρ else wHs L r X DD ρ ex
def sTry (L : List Str) (b : SW) (hs : List (Str × SuW)) : SW := fun X DD ρ => b (fun ρ' ex => wHs L hs X DD ρ' ex) DD ρ
section
variable {Z : SrcK} {X : Cx} {E : L2.St → XK} {K : PySem.W.Frag} {e : Expr} {w : EW} {pos : Pos} {c : Cfg} {F H F' H' : Hp} {σ : L2.St} {ρ : Env}
/-! ### raise -/
theorem ds_raise0 {k : Nat} {nm m : Str} {j : Nat} {p p2 pos2 : Pos} (A : At X E k) (T : Er0 X.K X.mg nm) (hc : X.calm = true := by rfl) (hg : Gl X nm := by rfl) (hdb : (nm == ("__debug__" : Str)) = false := by decide) :
    DS Z X E (.Raise (some (.Call (.Name nm p) [.Constant (.str m) j p2] [] pos)) none pos2) (sRaise0 nm) := by
  obtain ⟨C, gC, nC, xC, kC, bC, tC⟩ := T.ex
  exact ⟨_, ps_raise hc A.tk (pmk_own PySem.F.excBase_ValueError xC gC kC (raises_own bC tC) hg hdb), fun c F H σ ρ Xd DD D e l h q => l σ ρ _ F H _ _ h e (Same.refl _) (Nx.refl _) ⟨⟨C, rfl, nC⟩, rfl⟩⟩
/-- X(e), X with a field -/
def tMkXc (C : Addr) (f : Str) (ta : TA) : L2.St → Hp → XK → Prop := fun σ H Q => ta σ H fun vs H1 => ∃ v, vs = [v] ∧ ∀ d, H1 d = none → Q (.ref C) (some d) (upd H1 d (.xd [(f, v)]))
theorem relO_xc {f : Str} {v : V} {u : Value} (r : RelV v u) (y : Str) : RelO (List.lookup y [(f, v)]) (if y = f then some u else none) := by
  by_cases h : y = f
  · subst h
    rw [if_pos rfl]
    simp only [List.lookup, beq_self_eq_true]
    exact r
  · rw [if_neg h]
    have : (y == f) = false := by simpa using h
    simp only [List.lookup, this]
    trivial
theorem pmk_xc {nm f : Str} {C fI : Addr} {a : Expr} {ta : TA} {p : Pos} {k : Nat} (T : XcTxt X.prog X.K X.mg nm f C fI) (hr : Room k X.A) (ha : PA X [a] ta) (hg : Gl X nm) (hdb : (nm == ("__debug__" : Str)) = false)
    (he : starEach (a :: []) X.env = (false, eval a X.env) :: starEach [] X.env) (hpl : (backTo pos (starEach [] X.env)).any (·.1) = false) : PMk X (.Call (.Name nm p) [a] [] pos) (tMkXc C f ta) := by
  intro pins s σ H Q I h
  refine wpAny_Call_Name_kw (ld_glob I hg T.gC ?_ hdb)
  refine PySem.W.callWith_K (h₀ := X.base) I.ok.mod.kin T.kC (thn (ha.run pos pins s σ H _ I h) fun us s1 hh => ?_) he hpl
  obtain ⟨vs, H1, I1, r1, v, rfl, q1⟩ := hh
  refine ⟨I1.kIn, ?_⟩
  cases r1 with
  | @cons _ v' _ us' rv rn =>
    cases rn
    show wpAny _ _ (call (.ref C) [v']) _ _ _
    obtain ⟨hp, g, dr, tk, os⟩ := s1
    refine wpAny_call (xc_made T I1.ok.mod I1.bk (by have := hr.dp; omega) fun h' tk' e d M => ?_)
    show MkP X pins σ Q (.ref e) ⟨h', g, dr, tk', os⟩
    obtain ⟨oe, fv, o1, o2, o3, o4, o5⟩ := M.obj
    obtain ⟨G, g1, g2⟩ := restrict h' fun b => decide (b ≠ e)
    have gk : ∀ b, b ≠ e → G.get? b = h'.get? b := fun b hb => g1 b (decide_eq_true hb)
    have ge : G.get? e = none := g2 e (by simp)
    have old : ∀ b o, hp.get? b = some o → G.get? b = some o := fun b o q => (gk b (Nat.ne_of_lt (Nat.lt_of_lt_of_le (Heap.lt_size q) M.new))).trans (M.keep b o q)
    have ob : ObjOk X.prog X.w (upd H1 d (.xd [(f, v)])) G d (.xd [(f, v)]) := ⟨_, M.ns.at (fun o q => (gk d M.ne).trans q), fun y => relO_xc rv y⟩
    have J : Inv X pins σ (upd H1 d (.xd [(f, v)])) ⟨G, g, dr, tk', os⟩ := I1.laid (t' := tk') old M.big ob
    refine ⟨e, oe, fv, ⟨G, g, dr, tk', os⟩, _, .ref C, some d, rfl, J, fun b o q => ?_, ge, o1, ⟨o2, o3⟩, o4, o5, ?_, rfl, I1.bare, raises_own T.exC T.tyC, q1 d (I1.hok.fresh M.big)⟩
    · by_cases hb : b = e
      · have q : G.get? b = some o := q
        rw [hb, ge] at q
        cases q
      · exact (gk b hb).symm.trans q
    · rw [upd_ne (Ne.symm M.ne)]
      exact I1.hok.fresh M.new
theorem ds_raise1 {k : Nat} {nm f : Str} {p pos2 : Pos} (A : At X E k) (T : Er1 X.prog X.K X.mg nm f) (he : DE Z X E e w) (hc : X.calm = true := by rfl) (hg : Gl X nm := by rfl) (hdb : (nm == ("__debug__" : Str)) = false := by decide)
    (hs : starEach (e :: []) X.env = (false, eval e X.env) :: starEach [] X.env := by rfl) (hpl : (backTo pos (starEach [] X.env)).any (·.1) = false := by rfl) :
    DS Z X E (.Raise (some (.Call (.Name nm p) [e] [] pos)) none pos2) (sRaise1 nm f w) := by
  obtain ⟨C, fI, T, nC⟩ := T.ex
  obtain ⟨t, pe, l⟩ := he
  refine ⟨_, ps_raise hc A.tk (pmk_xc T A.room (pa_cons pe pa_nil hs) hg hdb hs hpl), fun c F H σ ρ Xd DD D e k h q => ?_⟩
  refine l c F H σ ρ Xd _ _ e k h fun d v F1 H1 h1 e1 s1 n1 r1 => ⟨v, rfl, fun dx hd => ?_⟩
  have x : Ext F1 H1 (upd F1 dx (.xd [(f, v)])) (upd H1 dx (.xd [(f, v)])) := Ext.lay e1.fh hd
  exact k σ ρ _ _ _ _ _ h1 (e1.ext x) (s1.trans x.ff) (n1.nx.trans (Same.nx x.hh)) ⟨⟨C, rfl, nC⟩, dx, v, rfl, upd_same, Rep.mono x.ff _ _ r1⟩
/-! ### try -/
theorem EnvOk.setU {i : Nat} {o : Option V} (e : EnvOk Z K c F H σ ρ) : EnvOk Z K c F H (σ.set i o) (ρ.set i .un) := by
  refine ⟨by rw [List.length_set, List.length_set]; exact e.len, fun j t h1 => ?_, fun j k xs ys hjk h1 h2 => ?_, e.fh, e.f0, e.new, e.keep, e.all, e.src⟩
  · by_cases hj : j = i
    · subst hj
      by_cases hl : j < ρ.length
      · rw [List.getElem?_set_self hl] at h1
        cases h1
        exact ⟨o, List.getElem?_set_self (by rw [e.len]; exact hl), trivial⟩
      · rw [List.getElem?_eq_none_iff.mpr (by rw [List.length_set]; omega)] at h1
        cases h1
    · rw [List.getElem?_set_ne (Ne.symm hj)] at h1 ⊢
      exact e.slot j t h1
  · have no : ∀ {j : Nat} {zs : List D}, (ρ.set i SV.un)[j]? = some (SV.own zs) → j ≠ i ∧ ρ[j]? = some (SV.own zs) := fun {j zs} h => by
      by_cases hj : j = i
      · subst hj
        by_cases hl : j < ρ.length
        · rw [List.getElem?_set_self hl] at h
          cases h
        · rw [List.getElem?_eq_none_iff.mpr (by rw [List.length_set]; omega)] at h
          cases h
      · rw [List.getElem?_set_ne (Ne.symm hj)] at h
        exact ⟨hj, h⟩
    obtain ⟨n1, h1⟩ := no h1
    obtain ⟨n2, h2⟩ := no h2
    rw [List.getElem?_set_ne (Ne.symm n1), List.getElem?_set_ne (Ne.symm n2)]
    exact e.sep j k xs ys hjk h1 h2
/-- a suite over data: i is the slot of the error's name -/
def LSu (Z : SrcK) (K : PySem.W.Frag) (ts : Su) (oi : Option Nat) (su : SuW) : Prop :=
  ∀ (c : Cfg) (F H : Hp) (σ : L2.St) (ρ : Env) (Xd : XD) (DD : DEnds) (D : Ends) (a : Addr) (cls : Value) (d : Option Addr) (ex : Exc), EnvOk Z K c F H σ ρ → ExRep K F ex cls d → su ex Xd DD ρ → EndsOk Z K c F H DD D → suiteAt ts D a cls d oi σ H
def DSu (Z : SrcK) (X : Cx) (sts : List Stmt) (oi : Option Nat) (su : SuW) : Prop := ∃ ts, SuiteOk X sts ts ∧ LSu Z X.K ts oi su
inductive DHs (Z : SrcK) (X : Cx) : List ExceptHandler → List (Str × SuW) → Prop
  | nil : DHs Z X [] []
  | plain {x : Str} {su : SuW} {b₀ : Stmt} {sts : List Stmt} {np q : Pos} {hds : List ExceptHandler} {l : List (Str × SuW)} (hg : Gl X x) (hdb : (x == ("__debug__" : Str)) = false) (h : DSu Z X (b₀ :: sts) none su) (r : DHs Z X hds l) : DHs Z X (.ExceptHandler (some (.Name x np)) none (b₀ :: sts) q :: hds) ((x, su) :: l)
  | named {x n : Str} {i : Nat} {su : SuW} {b₀ : Stmt} {sts : List Stmt} {np q : Pos} {hds : List ExceptHandler} {l : List (Str × SuW)} (hg : Gl X x) (hdb : (x == ("__debug__" : Str)) = false) (hi : X.N[i]? = some n) (hl : X.env.kindOf n = some .local) (h : DSu Z X (b₀ :: sts) (some i) su) (r : DHs Z X hds l) :
      DHs Z X (.ExceptHandler (some (.Name x np)) (some n) (b₀ :: sts) q :: hds) ((x, su) :: l)
/-- within a try's body -/
theorem At.try {k : Nat} (A : At X E k) {W : WX} {pn : List (Addr × Obj)} {xe : Value → Shared → Prop} (tk : Takes (X.tr pn xe) W) : At (X.tr pn xe) (fun σ cls d H => W cls d σ H) k := ⟨A.room, tk⟩
theorem dhs_clauses {L : List Str} (S : ErS X.K X.mg L) {hds : List ExceptHandler} {l : List (Str × SuW)} (hL : ∀ p ∈ l, p.1 ∈ L) (h : DHs Z X hds l) : ∃ m : List (Value × Option Nat × Su), Clauses X hds m ∧
    ∀ (c : Cfg) (F H : Hp) (σ : L2.St) (ρ : Env) (Xd : XD) (DD : DEnds) (D : Ends) (W0 : WX) (cls : Value) (d : Option Addr) (ex : Exc), EnvOk Z X.K c F H σ ρ → ExRep X.K F ex cls d → wHs L l Xd DD ρ ex → EndsOk Z X.K c F H DD D → (Xd ρ ex → W0 cls d σ H) → wMix X.K W0 D m cls d σ H := by
  induction h with
  | nil => exact ⟨[], .nil, fun c F H σ ρ Xd DD D W0 cls d ex e r w q z => z w⟩
  | @plain x su b₀ sts np q hds l hg hdb h _ ih =>
    obtain ⟨m, cm, lm⟩ := ih fun p hp => hL p (List.mem_cons_of_mem _ hp)
    obtain ⟨ts, h1, h2⟩ := h
    have hx : x ∈ L := hL (x, su) List.mem_cons_self
    obtain ⟨C, gC, nC⟩ := S.mg x hx
    refine ⟨_, .plain ⟨hg, hdb, .inl gC⟩ h1 cm, fun c F H σ ρ Xd DD D W0 cls d ex e r w q z => ?_⟩
    obtain ⟨w1, w2⟩ := w
    obtain ⟨CA, rfl, nA⟩ := r.1
    refine ⟨_, S.sub ex.cls (by simpa using w1) x hx CA C nA nC, fun b a _ => ?_, fun b => ?_⟩
    · simp only [b, if_true] at w2
      exact h2 c F H σ ρ Xd DD D a _ d ex e r w2 q
    · simp only [b, Bool.false_eq_true, if_false] at w2
      exact lm c F H σ ρ Xd DD D W0 _ d ex e r w2 q z
  | @named x n i su b₀ sts np q hds l hg hdb hi hl h _ ih =>
    obtain ⟨m, cm, lm⟩ := ih fun p hp => hL p (List.mem_cons_of_mem _ hp)
    obtain ⟨ts, h1, h2⟩ := h
    have hx : x ∈ L := hL (x, su) List.mem_cons_self
    obtain ⟨C, gC, nC⟩ := S.mg x hx
    refine ⟨_, .named hi hl ⟨hg, hdb, .inl gC⟩ h1 cm, fun c F H σ ρ Xd DD D W0 cls d ex e r w q z => ?_⟩
    obtain ⟨w1, w2⟩ := w
    obtain ⟨CA, rfl, nA⟩ := r.1
    refine ⟨_, S.sub ex.cls (by simpa using w1) x hx CA C nA nC, fun b a _ => ?_, fun b => ?_⟩
    · simp only [b, if_true] at w2
      exact h2 c F H σ ρ Xd DD D a _ d ex e r w2 q
    · simp only [b, Bool.false_eq_true, if_false] at w2
      exact lm c F H σ ρ Xd DD D W0 _ d ex e r w2 q z
/-- the body's reading does not depend on what takes its errors -/
theorem ds_try {k : Nat} {L : List Str} {body : List Stmt} {hd : ExceptHandler} {hds : List ExceptHandler} {wb : SW} {l : List (Str × SuW)} (A : At X E k) (S : ErS X.K X.mg L) (hL : ∀ p ∈ l, p.1 ∈ L) (hN : X.N.Nodup) {tb : WX → TS}
    (hb : ∀ (W : WX) (pn : List (Addr × Obj)) (xe : Value → Shared → Prop), Takes (X.tr pn xe) W → PassesOwn (model X.prog X.w) X.A X.env xe → PSs (X.tr pn xe) body (tb W)) (lb : ∀ W : WX, LS Z X.K (fun σ cls d H => W cls d σ H) (tb W) wb)
    (h : DHs Z X (hd :: hds) l) (hs : X.stack = X.env :: X.outer := by rfl) (hf : X.env.frame = some X.env.locals := by rfl) : DS Z X E (.Try body (hd :: hds) [] [] pos) (sTry L wb l) := by
  obtain ⟨m, cm, lm⟩ := dhs_clauses S hL h
  refine ⟨_, ps_try_mix hs hf hN A.tk hb cm, fun c F H σ ρ Xd DD D e l0 h q => ?_⟩
  refine lb _ c F H σ ρ _ DD D e (fun σ' ρ' ex F' H' cls dd x e' s' n' r' => ?_) h q
  exact lm c F' H' σ' ρ' Xd DD D _ cls dd ex e' r' x (q.mono s' n') fun z => l0 σ' ρ' ex F' H' cls dd z e' s' n' r'
/-- the weakest reading of statements over data -/
def canS (Z : SrcK) (K : PySem.W.Frag) (E : L2.St → XK) (w : SW) : TS := fun D σ H => ∃ (c : Cfg) (F : Hp) (ρ : Env) (Xd : XD) (DD : DEnds), EnvOk Z K c F H σ ρ ∧ ELk Z K c F H E Xd ∧ w Xd DD ρ ∧ EndsOk Z K c F H DD D
theorem ls_can {w : SW} : LS Z K E (canS Z K E w) w := fun c F H σ ρ Xd DD D e l h q => ⟨c, F, ρ, Xd, DD, e, l, h, q⟩
theorem pss_can {sts : List Stmt} {w : SW} (h : DSs Z X E sts w) : PSs X sts (canS Z X.K E w) := by
  obtain ⟨t, p, l⟩ := h
  exact ⟨fun pins s σ H D I ⟨c, F, ρ, Xd, DD, e, k, h, q⟩ => p.run pins s σ H D I (l c F H σ ρ Xd DD D e k h q)⟩
abbrev EW' (W : WX) : L2.St → XK := fun σ cls d H => W cls d σ H
theorem ds_tryD {k : Nat} {L : List Str} {body : List Stmt} {hd : ExceptHandler} {hds : List ExceptHandler} {wb : SW} {l : List (Str × SuW)} (A : At X E k) (S : ErS X.K X.mg L) (hN : X.N.Nodup)
    (hb : ∀ (W : WX) (pn : List (Addr × Obj)) (xe : Value → Shared → Prop), PassesOwn (model X.prog X.w) X.A X.env xe → At (X.tr pn xe) (EW' W) k → DSs Z (X.tr pn xe) (EW' W) body wb)
    (h : DHs Z X (hd :: hds) l) (hL : ∀ p ∈ l, p.1 ∈ L := by decide) (hs : X.stack = X.env :: X.outer := by rfl) (hf : X.env.frame = some X.env.locals := by rfl) : DS Z X E (.Try body (hd :: hds) [] [] pos) (sTry L wb l) :=
  ds_try A S hL hN (tb := fun W => canS Z X.K (EW' W) wb) (fun W pn xe tk hp => pss_can (hb W pn xe hp ⟨A.room, tk⟩)) (fun W => ls_can) h hs hf
/-! ### suites: one name is stored -/
abbrev EX := Exc → (D → Prop) → Prop
abbrev AX := Exc → (List D → Prop) → Prop
def LX (Z : SrcK) (K : PySem.W.Frag) (i : Nat) (t : Addr → Value → Option Addr → TE) (w : EX) : Prop :=
  ∀ (c : Cfg) (F H : Hp) (σ : L2.St) (ρ : Env) (a : Addr) (cls : Value) (d : Option Addr) (ex : Exc) (Qd : D → Prop) (Qv : VK), EnvOk Z K c F H σ ρ → (i < σ.length → σ[i]? = some (some (.ref a))) → i < σ.length → ExRep K F ex cls d → w ex Qd →
    (∀ x v F' H', Qd x → EnvOk Z K c F' H' σ ρ → Same F F' → Kx c.fp F H F' H' → Rep K F' x v → Qv v H') → t a cls d σ H Qv
def LAX (Z : SrcK) (K : PySem.W.Frag) (i : Nat) (t : Addr → Value → Option Addr → TA) (w : AX) : Prop :=
  ∀ (c : Cfg) (F H : Hp) (σ : L2.St) (ρ : Env) (a : Addr) (cls : Value) (d : Option Addr) (ex : Exc) (Qd : List D → Prop) (Qv : List V → Hp → Prop), EnvOk Z K c F H σ ρ → (i < σ.length → σ[i]? = some (some (.ref a))) → i < σ.length → ExRep K F ex cls d → w ex Qd →
    (∀ xs vs F' H', Qd xs → EnvOk Z K c F' H' σ ρ → Same F F' → Kx c.fp F H F' H' → RepL K F' xs vs → Qv vs H') → t a cls d σ H Qv
abbrev InSu (X : Cx) (P : Cx → Addr → Value → Option Addr → Prop) : Prop := ∀ (a : Addr) (oe : Obj) (cls : Value) (d : Option Addr) (pn : List (Addr × Obj)), Zc cls d oe → (∃ vs, oe.data = .fields vs) → P (X.suite a ((a, oe) :: pn)) a cls d
def DX (Z : SrcK) (X : Cx) (i : Nat) (e : Expr) (w : EX) : Prop := ∃ t : Addr → Value → Option Addr → TE, InSu X (fun Y a cls d => PE Y e (t a cls d)) ∧ LX Z X.K i t w
def DAX (Z : SrcK) (X : Cx) (i : Nat) (es : List Expr) (w : AX) : Prop := ∃ t : Addr → Value → Option Addr → TA, InSu X (fun Y a cls d => PA Y es (t a cls d)) ∧ LAX Z X.K i t w
def xC (x : D) : EX := fun _ Q => Q x
/-- e.f -/
def xFld (nm f : Str) : EX := fun ex Q => ex.cls = nm ∧ ∃ x, ex.fld = some (f, x) ∧ Q x
def xNil : AX := fun _ Q => Q []
def xCons (a : EX) (r : AX) : AX := fun ex Q => a ex fun x => r ex fun xs => Q (x :: xs)
def xLst (a : AX) : EX := fun ex Q => a ex fun xs => xs.length ≤ 100000 ∧ Q (.lst xs)
def xTup (a : AX) : EX := fun ex Q => a ex fun xs => xs.length ≤ 100000 ∧ Q (.tup xs)
variable {i : Nat} {es : List Expr} {wx : EX} {ax : AX}
theorem dx_str {s : Str} {j : Nat} : DX Z X i (.Constant (.str s) j pos) (xC (.str s)) := ⟨fun _ _ _ => tC (.str s), fun _ _ _ _ _ _ _ => pe_str, fun c F H σ ρ a cls d ex Qd Qv e _ _ _ h q => q _ _ F H h e (Same.refl _) (Kx.refl _ _ _) rfl⟩
def tByXc (C : Addr) (f : Str) (a : Addr) (cls : Value) (d : Option Addr) (te : TE) : TE := fun σ H Q => te σ H fun x H1 => x = .ref a ∧ cls = .ref C ∧ ∃ (dd : Addr) (v : V), d = some dd ∧ H1 dd = some (.xd [(f, v)]) ∧ Q v H1
theorem pe_byXc {a : Addr} {oe : Obj} {cls : Value} {d : Option Addr} {pn : List (Addr × Obj)} {te : TE} {nm f : Str} {C fI : Addr} (T : XcTxt X.prog X.K X.mg nm f C fI) (hz : Zc cls d oe) (hf : ∃ vs, oe.data = .fields vs) (he : PE (X.suite a ((a, oe) :: pn)) e te)
    (hb : attributeBase e f X.env (eval e X.env) = eval e X.env) : PE (X.suite a ((a, oe) :: pn)) (.Attribute e f pos) (tByXc C f a cls d te) := by
  refine ⟨fun pins s σ H Q I h => attr_of hb (thn (he.run pins s σ H _ I h) fun u s1 hh => ?_)⟩
  obtain ⟨x, H1, I1, rx, rfl, rfl, dd, v, rfl, ea, q⟩ := hh
  obtain rfl : u = Value.ref a := rx
  obtain ⟨ha, _⟩ := I1.pin (a, oe) (List.mem_append_left _ List.mem_cons_self)
  obtain ⟨vs, hd⟩ := hf
  obtain ⟨mA, hns, hr⟩ : ObjOk X.prog X.w H1 s1.heap dd (.xd [(f, v)]) := I1.hok dd _ ea
  obtain ⟨od, ho, hl⟩ := lookIn_ns hns
  have l : List.lookup f [(f, v)] = some v := by simp [List.lookup]
  obtain ⟨u, hu, ru⟩ := RelO.some_of (v := v) (o := mA f) (by rw [← l]; exact hr f)
  have J : PySem.W.InstAt s1.heap a oe C (some od) := ⟨ha, hz.1, by unfold PySem.W.notCls; rw [hd] <;> rfl, by rw [hz.2]; exact ho⟩
  exact HandSPX.exc_get I1.kIn J T.ga T.gg T.exC (PySem.W.findObj_own T.hdC T.noN rfl (by rw [hl, hu])) (handed_of ru) ⟨v, H1, I1.tok _, ru, q⟩
theorem dx_fld {n nm f : Str} {p : Pos} (T : Er1 X.prog X.K X.mg nm f) (hN : X.N[i]? = some n := by rfl) (hv : Vis X.env.scope n := by first | exact Or.inl rfl | exact Or.inr (Or.inl rfl) | exact Or.inr (Or.inr rfl)) (hd : (n == ("__debug__" : Str)) = false := by decide)
    (hcd : (n == ("__classdict__" : Str)) = false := by decide) (hb : attributeBase (.Name n p) f X.env (eval (.Name n p) X.env) = eval (.Name n p) X.env := by rfl) : DX Z X i (.Attribute (.Name n p) f pos) (xFld nm f) := by
  obtain ⟨C, fI, T, nC⟩ := T.ex
  refine ⟨fun a cls d => tByXc C f a cls d (tVar i), fun a oe cls d pn hz hf => pe_byXc T hz hf (pe_var (X := X.suite a ((a, oe) :: pn)) hN hv hd hcd) hb, fun c F H σ ρ a cls d ex Qd Qv e hi hl r h q => ?_⟩
  obtain ⟨h1, x, h2, h3⟩ := h
  obtain ⟨⟨CA, rfl, nA⟩, r2⟩ := r
  rw [h2] at r2
  obtain ⟨dx, v, rfl, r3, r4⟩ := r2
  rw [h1, nC] at nA
  cases nA
  exact ⟨_, hi hl, rfl, rfl, dx, v, rfl, e.fh _ _ r3, q x v F H h3 e (Same.refl _) (Kx.refl _ _ _) r4⟩
theorem dax_nil : DAX Z X i [] xNil := ⟨fun _ _ _ => tNil, fun _ _ _ _ _ _ _ => pa_nil, fun c F H σ ρ a cls d ex Qd Qv e _ _ _ h q => q [] [] F H h e (Same.refl _) (Kx.refl _ _ _) rfl⟩
theorem ExRep.mono {F1 : Hp} {ex : Exc} {cls : Value} {d : Option Addr} (s : Same F F1) (h : ExRep K F ex cls d) : ExRep K F1 ex cls d := by
  obtain ⟨h1, h2⟩ := h
  refine ⟨h1, ?_⟩
  cases q : ex.fld with
  | none => rw [q] at h2; exact h2
  | some p =>
    rw [q] at h2
    obtain ⟨dx, v, z1, z2, z3⟩ := h2
    exact ⟨dx, v, z1, s _ _ z2, Rep.mono s _ _ z3⟩
theorem dax_cons (ha : DX Z X i e wx) (hr : DAX Z X i es ax) (hs : starEach (e :: es) X.env = (false, eval e X.env) :: starEach es X.env := by rfl) : DAX Z X i (e :: es) (xCons wx ax) := by
  obtain ⟨t, p, l⟩ := ha
  obtain ⟨t1, p1, l1⟩ := hr
  refine ⟨fun a cls d => tCons (t a cls d) (t1 a cls d), fun a oe cls d pn hz hf => pa_cons (p a oe cls d pn hz hf) (p1 a oe cls d pn hz hf) hs, fun c F H σ ρ a cls d ex Qd Qv e hi hl r h q => ?_⟩
  refine l c F H σ ρ a cls d ex _ _ e hi hl r h fun x v F1 H1 h1 e1 s1 n1 r1 => ?_
  refine l1 c F1 H1 σ ρ a cls d ex _ _ e1 hi hl (r.mono s1) h1 fun xs vs F2 H2 h2 e2 s2 n2 r2 => ?_
  exact q _ _ F2 H2 h2 e2 (s1.trans s2) (n1.trans n2) ⟨v, vs, rfl, Rep.mono s2 _ _ r1, r2⟩
theorem dx_lst (h : DAX Z X i es ax) : DX Z X i (.List es pos) (xLst ax) := by
  obtain ⟨t, p, l⟩ := h
  refine ⟨fun a cls d => tLst (t a cls d), fun a oe cls d pn hz hf => pe_lst (p a oe cls d pn hz hf), fun c F H σ ρ a cls d ex Qd Qv e hi hl r h q => ?_⟩
  refine l c F H σ ρ a cls d ex _ _ e hi hl r h fun xs vs F1 H1 h1 e1 s1 n1 r1 => ?_
  refine ⟨by rw [r1.len]; exact sz h1.1, fun p hp => ?_⟩
  obtain ⟨x, r⟩ := lay_lst e1.fh r1 hp
  exact q _ _ _ _ h1.2 (e1.ext x) (s1.trans x.ff) (n1.trans x.kx) r
theorem dx_tup {j : Nat} (h : DAX Z X i es ax) : DX Z X i (.Tuple es j pos) (xTup ax) := by
  obtain ⟨t, p, l⟩ := h
  refine ⟨fun a cls d => tTup (t a cls d), fun a oe cls d pn hz hf => pe_tup (p a oe cls d pn hz hf), fun c F H σ ρ a cls d ex Qd Qv e hi hl r h q => ?_⟩
  refine l c F H σ ρ a cls d ex _ _ e hi hl r h fun xs vs F1 H1 h1 e1 s1 n1 r1 => ?_
  refine ⟨by rw [r1.len]; exact sz h1.1, fun p hp => ?_⟩
  obtain ⟨x, r⟩ := lay_tup e1.fh r1 hp
  exact q _ _ _ _ h1.2 (e1.ext x) (s1.trans x.ff) (n1.trans x.kx) r
/-- except C: x = '..' -/
def suStr (j : Nat) (s : Str) : SuW := fun _ _ DD ρ => DD.nx (ρ.set j (.d (.str s)))
theorem dsu_str {x s : Str} {pos' p : Pos} {m : Nat} (j : Nat) (hN : X.N.Nodup) (hi : X.N[j]? = some x := by rfl) (hx : Loc X.env.scope x := by first | exact Or.inl rfl | exact Or.inr rfl) (hs : swapsWith (.Constant (.str s) m p) (some (.Name x pos')) pos.line X.env = pure false := by rfl)
    (hf : X.fn x = true ∨ X.env.scope.names.lookup x = some .local := by first | exact .inl rfl | exact .inr rfl) : DSu Z X [.Assign [.Name x pos'] (.Constant (.str s) m p) pos] none (suStr j s) := by
  refine ⟨fun a cls d => tAsg (tC (.str s)) (gName j), fun a oe cls d pn hz hff => pss_one (ps_set (X := X.suite a ((a, oe) :: pn)) hN hi hx pe_str hs hf), fun c F H σ ρ Xd DD D a cls d ex e r h q => ?_⟩
  exact q.nx _ _ F H h (e.setD (x := .str s) rfl) (Same.refl _) (Nx.refl _)
/-- except C as e: x = .. -/
def suAsg (i j : Nat) (w : EX) : SuW := fun ex _ DD ρ => i < ρ.length ∧ w ex fun x => DD.nx (((ρ.set i .un).set j (.d x)).set i .un)
theorem dsu_asg {x : Str} {pos' : Pos} (i j : Nat) (hN : X.N.Nodup) (he : DX Z X i e wx) (hi : X.N[j]? = some x := by rfl) (hx : Loc X.env.scope x := by first | exact Or.inl rfl | exact Or.inr rfl) (hs : swapsWith e (some (.Name x pos')) pos.line X.env = pure false := by rfl)
    (hf : X.fn x = true ∨ X.env.scope.names.lookup x = some .local := by first | exact .inl rfl | exact .inr rfl) : DSu Z X [.Assign [.Name x pos'] e pos] (some i) (suAsg i j wx) := by
  obtain ⟨t, p, l⟩ := he
  refine ⟨fun a cls d => tAsg (t a cls d) (gName j), fun a oe cls d pn hz hff => pss_one (ps_set (X := X.suite a ((a, oe) :: pn)) hN hi hx (p a oe cls d pn hz hff) hs hf), fun c F H σ ρ Xd DD D a cls d ex e r h q => ?_⟩
  obtain ⟨hl, h⟩ := h
  have e1 : EnvOk Z X.K c F H (σ.set i (some (.ref a))) (ρ.set i .un) := e.setU
  refine l c F H _ _ a cls d ex _ _ e1 (fun _ => List.getElem?_set_self (by rw [e.len]; exact hl)) (by rw [List.length_set, e.len]; exact hl) r h fun x v F2 H2 h2 e2 s2 n2 r2 => ?_
  exact q.nx _ _ F2 H2 h2 (e2.setD r2).setU s2 n2.nx
end
theorem err_pair {K : PySem.W.Frag} {a c : Str} {A0 C0 A C : Addr} {b : Bool} (h1 : PySem.W.nsIn K mainGlobals a = some (some (.ref A0))) (h2 : PySem.W.nsIn K mainGlobals c = some (some (.ref C0))) (h3 : PySem.W.exmOne K (.ref A0) (.ref C0) = some b)
    (k1 : PySem.W.nsIn K mainGlobals a = some (some (.ref A))) (k2 : PySem.W.nsIn K mainGlobals c = some (some (.ref C))) (hb : subX a c = b := by rfl) : PySem.W.exmOne K (.ref A) (.ref C) = some (subX a c) := by
  rw [h1] at k1
  cases k1
  rw [h2] at k2
  cases k2
  rw [hb]
  exact h3
end DL
set_option linter.all false
set_option autoImplicit false
set_option maxHeartbeats 4000000
set_option maxRecDepth 100000
/-! Instances: made, their fields stored and read. -/
namespace DL
open PySem PySem.Spec PyProof.Rows L2
/-- what the written part says of a class C of the program: fields fns -/
structure ClsD (K : PySem.W.Frag) (mg : Str → Option Value) (C : Str) (fns : List Str) : Prop where
  ex : ∃ CA : Addr, mg C = some (.ref CA) ∧ PySem.W.nsIn K mainGlobals C = some (some (.ref CA)) ∧ Cls K CA ∧ ∀ f ∈ fns, NoAttr K CA f
def putD (f : Str) (v : D) : List (Str × D) → List (Str × D)
  | [] => [(f, v)]
  | (g, x) :: r => if g = f then (g, v) :: r else (g, x) :: putD f v r
def notObj : SV → Bool
  | .obj _ _ _ => false
  | _ => true
/-- no other slot holds an instance of the frame's own -/
def onlyAt (ρ : Env) (i : Nat) : Bool := (ρ.set i .un).all notObj
theorem nob_d {x : D} : notObj (.d x) = true := rfl
theorem nob_un : notObj .un = true := rfl
theorem nob_own {xs : List D} : notObj (.own xs) = true := rfl
theorem nob_src : notObj .src = true := rfl
/-! ### readings -/
def wFld (C f : Str) (a : EW) : EW := fun X ρ Q => a X ρ fun x => match x with
  | .ins D ns xs => D = C ∧ match (ns.zip xs).lookup f with
    | some y => Q y
    | none => False
  | _ => False
def wOfld (C : Str) (i : Nat) (f : Str) : EW := fun _ ρ Q => match ρ[i]? with
  | some (.obj _ D fs) => D = C ∧ match fs.lookup f with
    | some y => Q y
    | none => False
  | _ => False
def gOfld (C : Str) (i : Nat) (f : Str) : GW := fun x ρ Q => match ρ[i]? with
  | some (.obj px D fs) => D = C ∧ onlyAt ρ i = true ∧ Nat.blt fs.length 1000 = true ∧ Q (ρ.set i (.obj px D (putD f x fs)))
  | _ => False
abbrev ISpec := List D → (List (Str × D) → Prop) → Prop
def wMake (C : Str) (sp : ISpec) (t : AW) : EW := fun X ρ Q => t X ρ fun ss => match datas ss with
  | some xs => sp xs fun fs => Q (.ins C (fs.map (·.1)) (fs.map (·.2)))
  | none => False
section
variable {Z : SrcK} {X : Cx} {E : L2.St → XK} {K : PySem.W.Frag} {e : Expr} {w : EW} {pos : Pos} {c : Cfg} {F H F' H' : Hp} {σ : L2.St} {ρ : Env}
theorem repF_lookup {f : Str} {y : D} : ∀ {fs : List (Str × V)} {ns : List Str} {xs : List D}, fs.map (·.1) = ns → RepL K F xs (fs.map (·.2)) → (ns.zip xs).lookup f = some y → ∃ v, fs.lookup f = some v ∧ Rep K F y v
  | [], ns, xs, h1, h2, h3 => by
    have h1 : ([] : List Str) = ns := h1
    subst h1
    cases h3
  | (g, v) :: fs, ns, xs, h1, h2, h3 => by
    have h1 : g :: fs.map (·.1) = ns := h1
    subst h1
    cases xs with
    | nil => cases h3
    | cons x xs =>
      obtain ⟨v', r, e, r1, r2⟩ := h2
      have e : v :: fs.map (·.2) = v' :: r := e
      injection e with e1 e2
      subst e1 e2
      have h3 : List.lookup f ((g, x) :: (fs.map (·.1)).zip xs) = some y := h3
      simp only [List.lookup] at h3 ⊢
      cases q : f == g with
      | true =>
        rw [q] at h3
        have h3 : x = y := Option.some.inj h3
        subst h3
        exact ⟨v, rfl, r1⟩
      | false =>
        rw [q] at h3
        exact repF_lookup rfl r2 h3
theorem de_fld {C f : Str} {fns : List Str} (T : ClsD X.K X.mg C fns) (h : DE Z X E e w) (hf : f ∈ fns := by decide) (hb : attributeBase e f X.env (eval e X.env) = eval e X.env := by rfl) (hC : C ≠ ("{}" : Str) := by decide) : DE Z X E (.Attribute e f pos) (wFld C f w) := by
  obtain ⟨CA, _, nC, cl, na⟩ := T.ex
  obtain ⟨t, p, l⟩ := h
  refine ⟨_, pe_fld p hb, fun c F H σ ρ Xd Qd Qv e k h q => ?_⟩
  refine l c F H σ ρ Xd _ _ e k h fun d v F1 H1 h1 e1 s1 n1 r1 => ?_
  cases d with
  | ins D ns xs =>
    obtain ⟨h1, h2⟩ := h1
    subst h1
    obtain ⟨a, ob, fs, rfl, ⟨r2, r3⟩, r4, r5⟩ := r1
    obtain ⟨CB, dx, rfl, r9⟩ := r3.ins hC
    rw [nC] at r9
    cases r9
    cases q1 : (ns.zip xs).lookup f with
    | none => rw [q1] at h2; exact h2.elim
    | some y =>
      rw [q1] at h2
      obtain ⟨v, l1, l2⟩ := repF_lookup r4 r5 q1
      exact ⟨a, _, dx, fs, v, rfl, e1.fh _ _ r2, cl, na f hf, l1, q y v F1 H1 h2 e1 s1 n1 l2⟩
  | non => exact h1.elim
  | bl _ => exact h1.elim
  | int _ => exact h1.elim
  | str _ => exact h1.elim
  | tup _ => exact h1.elim
  | lst _ => exact h1.elim
theorem obj_cases {i : Nat} {P : Addr → Str → List (Str × D) → Prop} (h : match ρ[i]? with
  | some (SV.obj px C fs) => P px C fs
  | _ => False) : ∃ px C fs, ρ[i]? = some (SV.obj px C fs) ∧ P px C fs := by
  cases q1 : ρ[i]? with
  | none => rw [q1] at h; exact h.elim
  | some s =>
    rw [q1] at h
    cases s with
    | obj px C fs => exact ⟨px, C, fs, rfl, h⟩
    | un => exact h.elim
    | src => exact h.elim
    | own _ => exact h.elim
    | d _ => exact h.elim
theorem zip_map {α β : Type} : ∀ fs : List (α × β), (fs.map (·.1)).zip (fs.map (·.2)) = fs
  | [] => rfl
  | p :: fs => by rw [List.map_cons, List.map_cons, List.zip_cons_cons, zip_map fs]
theorem de_ofld {C f x : Str} {p : Pos} {fns : List Str} (i : Nat) (T : ClsD X.K X.mg C fns) (hf : f ∈ fns := by decide) (hN : X.N[i]? = some x := by rfl) (hv : Vis X.env.scope x := by first | exact Or.inl rfl | exact Or.inr (Or.inl rfl) | exact Or.inr (Or.inr rfl)) (hd : (x == ("__debug__" : Str)) = false := by decide)
    (hcd : (x == ("__classdict__" : Str)) = false := by decide) (hb : attributeBase (.Name x p) f X.env (eval (.Name x p) X.env) = eval (.Name x p) X.env := by rfl) (hC : C ≠ ("{}" : Str) := by decide) : DE Z X E (.Attribute (.Name x p) f pos) (wOfld C i f) := by
  obtain ⟨CA, _, nC, cl, na⟩ := T.ex
  refine ⟨_, pe_fld (pe_var hN hv hd hcd) hb, fun c F H σ ρ Xd Qd Qv e k h q => ?_⟩
  obtain ⟨a, D, fs, h1, h2, h3⟩ := obj_cases h
  subst h2
  obtain ⟨o, o1, ob, gs, rfl, r2, r3, r4, r5, r6, r7⟩ := e.slot i _ h1
  obtain ⟨CB, dx, rfl, r8⟩ := r5.ins hC
  rw [nC] at r8
  cases r8
  cases q1 : fs.lookup f with
  | none => rw [q1] at h3; exact h3.elim
  | some y =>
    rw [q1] at h3
    obtain ⟨v, l1, l2⟩ := repF_lookup (f := f) (y := y) r6 r7 (by rw [zip_map]; exact q1)
    exact ⟨.ref a, o1, a, _, dx, gs, v, rfl, r4, cl, na f hf, l1, q y v F H h3 e (Same.refl _) (Kx.refl _ _ _) l2⟩
theorem put_map {f : Str} {d : D} {v : V} : ∀ {fs : List (Str × D)} {gs : List (Str × V)}, gs.map (·.1) = fs.map (·.1) → RepL K F (fs.map (·.2)) (gs.map (·.2)) → Rep K F d v → (putF f v gs).map (·.1) = (putD f d fs).map (·.1) ∧ RepL K F ((putD f d fs).map (·.2)) ((putF f v gs).map (·.2))
  | [], [], _, _, r => ⟨rfl, v, [], rfl, r, rfl⟩
  | [], _ :: _, h, _, _ => by cases h
  | _ :: _, [], h, _, _ => by cases h
  | (g, x) :: fs, (g', y) :: gs, h1, h2, r => by
    have h1 : g' :: gs.map (·.1) = g :: fs.map (·.1) := h1
    injection h1 with e1 h0
    subst e1
    obtain ⟨v', t, e, r1, r2⟩ := h2
    have e : y :: gs.map (·.2) = v' :: t := e
    injection e with e1 e2
    subst e1 e2
    unfold putF putD
    by_cases hf : g' = f
    · rw [if_pos hf, if_pos hf]
      exact ⟨by simpa using h0, v, _, rfl, r, r2⟩
    · rw [if_neg hf, if_neg hf]
      obtain ⟨i1, i2⟩ := put_map (f := f) h0 r2 r
      exact ⟨by simpa using i1, y, _, rfl, r1, i2⟩
theorem EnvOk.mutateO {i : Nat} {C : Str} {fs fs' : List (Str × D)} {a : Addr} {ob ob' : HO} {gs' : List (Str × V)} (e : EnvOk Z K c F H σ ρ) (h : ρ[i]? = some (SV.obj a C fs)) (hs : σ[i]? = some (some (V.ref a))) (hp : H a = some ob) (nl : ∀ vs, ob ≠ .lst vs) (hf : F a = none) (h0 : c.H0 a = none) (nC : ObAt K C gs' ob')
    (ho : onlyAt ρ i = true) (m : gs'.map (·.1) = fs'.map (·.1)) (r : RepL K F (fs'.map (·.2)) (gs'.map (·.2))) : EnvOk Z K c F (upd H a ob') σ (ρ.set i (.obj a C fs')) := by
  have hl : i < ρ.length := by
    rcases Nat.lt_or_ge i ρ.length with z | z
    · exact z
    · rw [List.getElem?_eq_none_iff.mpr z] at h
      cases h
  have nF : ∀ b o, F b = some o → b ≠ a := fun b o q z => by
    rw [z, hf] at q
    cases q
  have no : ∀ (j : Nat) px D gs, j ≠ i → ρ[j]? ≠ some (SV.obj px D gs) := fun j px D gs hj z => by
    unfold onlyAt at ho
    rw [List.all_eq_true] at ho
    have m : SV.obj px D gs ∈ ρ.set i .un := by
      have : (ρ.set i .un)[j]? = some (SV.obj px D gs) := by rw [List.getElem?_set_ne (Ne.symm hj)]; exact z
      exact List.mem_of_getElem? this
    exact Bool.noConfusion (ho _ m)
  refine ⟨by rw [List.length_set]; exact e.len, fun j t h1 => ?_, fun j k us zs hjk h1 h2 => ?_, fun b o q => ?_, e.f0, e.new, fun b o q hb => ?_, fun b q => ?_, fun x fp q => ?_⟩
  · by_cases hj : j = i
    · subst hj
      rw [List.getElem?_set_self hl] at h1
      cases h1
      exact ⟨_, hs, ob', gs', rfl, hf, h0, upd_same, nC, m, r⟩
    · rw [List.getElem?_set_ne (Ne.symm hj)] at h1
      obtain ⟨o, o1, o2⟩ := e.slot j t h1
      refine ⟨o, o1, ?_⟩
      cases t with
      | own us =>
        obtain ⟨b, us', r1, r2, r3, r4, r5⟩ := o2
        refine ⟨b, us', r1, r2, r3, ?_, r5⟩
        have hb : b ≠ a := fun z => by rw [z, hp] at r4; exact absurd (Option.some.inj r4) (nl _)
        rw [upd_ne hb]
        exact r4
      | un => trivial
      | d y => exact o2
      | src => exact o2
      | obj px D gs => exact absurd h1 (no j px D gs hj)
  · have f : ∀ (j : Nat) us, (ρ.set i (SV.obj a C fs'))[j]? = some (SV.own us) → ρ[j]? = some (SV.own us) := fun j us h1 => by
      by_cases hj : j = i
      · subst hj
        rw [List.getElem?_set_self hl] at h1
        cases h1
      · rw [List.getElem?_set_ne (Ne.symm hj)] at h1
        exact h1
    exact e.sep j k us zs hjk (f j us h1) (f k zs h2)
  · rw [upd_ne (nF b o q)]
    exact e.fh b o q
  · have hb2 : b ≠ a := fun z => by rw [z, h0] at q; cases q
    rw [upd_ne hb2]
    exact e.keep b o q hb
  · have hb2 : b ≠ a := fun z => by rw [z, h0] at q; exact q rfl
    rw [upd_ne hb2]
    exact e.all b q
  · obtain ⟨q1, q2⟩ := e.src x fp q
    refine ⟨Z.loc q1 fun b hb => ?_, q2⟩
    have hb2 : b ≠ a := fun z => (q2 b hb).2 (by rw [z]; exact h0)
    rw [upd_ne hb2]
/-- o.f as a target -/
def gAttr (K : PySem.W.Frag) (to : TE) (f : Str) : TG := fun v σ H Q => to σ H fun x H1 => ∃ a C dx fs, x = .ref a ∧ H1 a = some (.ins C dx fs) ∧ Cls K C ∧ NoAttr K C f ∧ fs.length < 1000 ∧ Q σ (upd H1 a (.ins C dx (putF f v fs)))
theorem pg_attr {o : Expr} {to : TE} {f : Str} (ho : PE X o to) : PG X (.Attribute o f pos) (gAttr X.K to f) := by
  refine ⟨fun pins s σ H v u Q I r h => ?_⟩
  rw [assign_Attribute]
  refine wpAny_bind (wpAny_holding (thn (ho.run pins s σ H _ I h) fun ov s1 ⟨x, H1, I1, r1, a, C, dx, fs, e1, e2, cl, na, hl, q⟩ => ?_))
  subst e1
  obtain rfl : ov = Value.ref a := r1
  exact wpAny_bind (wpAny_standAt (wpAny_bind (wpAny_holding (setattr_ok I1 e2 cl na hl r fun s3 I3 => wpAny_release ⟨σ, _, I3, q⟩))))
theorem dg_attr {C f x : Str} {p : Pos} {fns : List Str} (i : Nat) (T : ClsD X.K X.mg C fns) (hf : f ∈ fns := by decide) (hN : X.N[i]? = some x := by rfl) (hv : Vis X.env.scope x := by first | exact Or.inl rfl | exact Or.inr (Or.inl rfl) | exact Or.inr (Or.inr rfl)) (hd : (x == ("__debug__" : Str)) = false := by decide)
    (hcd : (x == ("__classdict__" : Str)) = false := by decide) (hC : C ≠ ("{}" : Str) := by decide) : DG Z X (.Attribute (.Name x p) f pos) (gOfld C i f) := by
  obtain ⟨CA, _, nC, cl, na⟩ := T.ex
  refine ⟨_, pg_attr (pe_var hN hv hd hcd), fun c F H σ ρ d v Qd Qv e r h q => ?_⟩
  obtain ⟨a, D, fs, h1, h2, h3, h4, h5⟩ := obj_cases h
  subst h2
  obtain ⟨o, o1, ob, gs, rfl, r2, r3, r4, r5, r6, r7⟩ := e.slot i _ h1
  obtain ⟨CB, dx, rfl, r8⟩ := r5.ins hC
  rw [nC] at r8
  cases r8
  obtain ⟨m1, m2⟩ := put_map (f := f) r6 r7 r
  refine ⟨.ref a, o1, a, _, dx, gs, rfl, r4, cl, na f hf, by have := congrArg List.length r6; rw [List.length_map, List.length_map] at this; have h4 := Nat.le_of_ble_eq_true h4; omega, ?_⟩
  refine q _ _ F _ h5 (e.mutateO h1 o1 r4 (fun vs z => nomatch z) r2 r3 ⟨rfl, hC, nC⟩ h3 m1 m2) (Same.refl _) nx_mut
/-! ### __init__ -/
/-- H without x -/
def less (H : Hp) (x : Addr) : Hp := fun b => if b = x then none else H b
theorem less_at {H : Hp} {x : Addr} : less H x x = none := if_pos rfl
theorem less_ne {H : Hp} {x b : Addr} (h : b ≠ x) : less H x b = H b := if_neg h
/-- what __init__ of C promises, over data -/
def spI (Z : SrcK) (K : PySem.W.Frag) (C : Str) (sp : ISpec) : Sp := fun vs H Q _ => ∃ (x dx CA : Addr) (ws : List V) (F : Hp) (ds : List D) (Qd : List (Str × D) → Prop),
  vs = .ref x :: ws ∧ H x = some (.ins CA dx []) ∧ F x = none ∧ PySem.W.nsIn K mainGlobals C = some (some (.ref CA)) ∧ Same F H ∧ RepL K F ds ws ∧ sp ds Qd ∧
  ∀ fs gs dx' F' H', Qd fs → After Z none [] F (less H x) F' (less H' x) → F' x = none → H' x = some (.ins CA dx' gs) → gs.map (·.1) = fs.map (·.1) → RepL K F' (fs.map (·.2)) (gs.map (·.2)) → Same F' H' → Q .non H'
variable {es : List Expr} {ws : AW}
theorem de_make {k j : Nat} {C : Str} {fns : List Str} {sp : ISpec} {f : Addr} {fd : FuncData} {ps : List Str} {p : Pos} (A : At X E k) (hk : j + 1 ≤ k) (T : ClsD X.K X.mg C fns) (M : ∀ CA, X.mg C = some (.ref CA) → Mk X.K CA f) (G : FnOk X.prog X.w X.K X.mg X.base (L2.CX X.prog X.w) j f fd ps (spI Z X.K C sp)) (hb : Binds X.K fd ps []) (ha : DA Z X E (e :: es) ws) (hg : Gl X C := by rfl) (hdb : (C == ("__debug__" : Str)) = false := by decide)
    (he : starEach (e :: es) X.env = (false, eval e X.env) :: starEach es X.env := by rfl) (hpl : (backTo pos (starEach es X.env)).any (·.1) = false := by rfl) (hC0 : C ≠ ("{}" : Str) := by decide) : DE Z X E (.Call (.Name C p) (e :: es) [] pos) (wMake C sp ws) := by
  obtain ⟨CA, mC, nC, cl, na⟩ := T.ex
  obtain ⟨t, pa, la⟩ := ha
  refine ⟨_, pe_make (CX := L2.CX X.prog X.w) (E := E0) (M CA mC) G (A.room.mono hk) hg mC hb .nil (fun _ _ _ _ _ _ _ ⟨_, _, _, _, _, _, _, _, _, _, _, _, z⟩ => z.elim) pa hdb he hpl, fun c F H σ ρ Xd Qd Qv e k h q => ?_⟩
  refine la c F H σ ρ Xd _ _ e k h fun ss vs F1 H1 h1 e1 s1 n1 r1 => ?_
  cases q1 : datas ss with
  | none => rw [q1] at h1; exact h1.elim
  | some xs =>
    rw [q1] at h1
    have rr := r1.datas q1
    intro x dx hx hdx hne
    have f1 : F1 x = none := e1.fh.free hx
    have hH : ∀ b o, H1 b = some o → (upd (upd H1 dx (.own x)) x (.ins CA dx [])) b = some o := fun b o hb => by
      rw [upd_ne (ne_of_none hb hx), upd_ne (ne_of_none hb hdx)]
      exact hb
    refine ⟨x, dx, CA, vs, F1, xs, _, by rw [List.append_nil], upd_same, f1, nC, fun b o hb => hH b o (e1.fh b o hb), rr, h1, fun fs gs dx' F' H' qf af fx hx' m r sF => ⟨rfl, ?_⟩⟩
    have keep : ∀ b o, H1 b = some o → H' b = some o := fun b o hb => by
      have hbx := ne_of_none hb hx
      have := af.keep b o (by rw [less_ne hbx]; exact hH b o hb) (fun z => nomatch z)
      rw [less_ne hbx] at this
      exact this
    have new : ∀ b, F' b ≠ none → F1 b ≠ none ∨ H1 b = none := fun b hb => by
      rcases af.new b hb with z | z
      · exact .inl z
      · cases q2 : H1 b with
        | none => exact .inr rfl
        | some o =>
          rw [less_ne (ne_of_none q2 hx), hH b o q2] at z
          cases z
    have a2 : After Z c.src c.fp F1 H1 F' H' := ⟨af.ff, sF, new, fun b o hb _ => keep b o hb, fun b hb => by
      obtain ⟨o, ho⟩ := ne_some hb
      rw [keep b o ho]
      simp, fun a fp hs => by
      obtain ⟨p1, p2⟩ := e1.src a fp hs
      refine ⟨Z.loc p1 fun b hb => ?_, fun b hb => ?_⟩
      · obtain ⟨o, ho⟩ := ne_some ((Z.tr p1).2 b hb)
        rw [ho, keep b o ho]
      · cases z : F' b with
        | none => rfl
        | some u =>
          rcases new b (by rw [z]; simp) with z2 | z2
          · exact absurd (p2 b hb).1 z2
          · exact absurd z2 ((Z.tr p1).2 b hb)⟩
    have e2 := e1.after a2
    have sF2 : Same F' (upd F' x (.ins CA dx' gs)) := fun b u hb => by
      rw [upd_ne (ne_of_none hb fx)]
      exact hb
    have x2 : EnvOk Z X.K c (upd F' x (.ins CA dx' gs)) H' σ ρ := by
      have old : ∀ b o, H1 b = some o → b ≠ x := fun b o hb => ne_of_none hb hx
      refine ⟨e2.len, fun i s h => ?_, e2.sep, fun b u hb => ?_, e2.f0.trans sF2, fun b hb => ?_, e2.keep, e2.all, fun a fp hs => ?_⟩
      · obtain ⟨o, h1, h2⟩ := e1.slot i s h
        obtain ⟨o', h1', h2'⟩ := e2.slot i s h
        rw [h1] at h1'
        cases h1'
        refine ⟨o, h1, ?_⟩
        cases s with
        | own ys =>
          obtain ⟨b, w1, r1, r2, r3, r4, r5⟩ := h2
          obtain ⟨b', w2, q1, q2, q3, q4, q5⟩ := h2'
          rw [r1] at q1
          cases q1
          exact ⟨b, w2, r1, by rw [upd_ne (old b _ r4)]; exact q2, q3, q4, RepL.mono sF2 _ _ q5⟩
        | un => trivial
        | d y =>
          obtain ⟨v, z1, z2⟩ := h2'
          exact ⟨v, z1, Rep.mono sF2 _ _ z2⟩
        | src => exact h2'
        | obj b D gs' =>
          obtain ⟨_, _, r1, _, _, r4, _⟩ := h2
          obtain ⟨o', w2, q1, q2, q3, q4, q5, q6, q7⟩ := h2'
          exact ⟨o', w2, r1, by rw [upd_ne (old b _ r4)]; exact q2, q3, q4, q5, q6, RepL.mono sF2 _ _ q7⟩
      · by_cases hb2 : b = x
        · subst hb2
          rw [upd_same] at hb
          cases hb
          exact hx'
        · rw [upd_ne hb2] at hb
          exact sF b u hb
      · by_cases hb2 : b = x
        · subst hb2
          exact .inr (e1.h0 hx)
        · rw [upd_ne hb2] at hb
          exact e2.new b hb
      · obtain ⟨p1, p2⟩ := e2.src a fp hs
        refine ⟨p1, fun b hb => ⟨?_, (p2 b hb).2⟩⟩
        obtain ⟨o, ho⟩ := ne_some ((Z.tr (e1.src a fp hs).1).2 b hb)
        rw [upd_ne (old b o ho)]
        exact (p2 b hb).1
    refine q _ _ _ H' qf x2 ((s1.trans a2.ff).trans sF2) (n1.trans ⟨a2.all, fun b o hb _ => keep b o hb, fun b hb => ?_⟩) ⟨x, _, gs, rfl, ⟨upd_same, rfl, hC0, nC⟩, m, RepL.mono sF2 _ _ r⟩
    by_cases hb2 : b = x
    · subst hb2
      exact .inr hx
    · rw [upd_ne hb2] at hb
      exact new b hb
end
section
variable {P : Program} {w : World} {K : PySem.W.Frag} {mg : Str → Option Value} {base : Heap} {Z : SrcK}
/-- THE RULE for __init__ -/
theorem init_of {C qual : Str} {st : Stmt} {f : Addr} {fd : FuncData} {N ps : List Str} {k : Nat} {sp : ISpec} {wb : SW} (F : Fun K "__init__" qual st f fd) (S : FnScope N ps (defScope st)) (hl : ∀ ds Q, sp ds Q → ds.length + 1 = ps.length)
    (hbody : ∀ (cdv : Value) (A : Around) (outer : List PySem.Env) (s : Shared) (H : Hp) (E : XK), Room k (A.deeper (envOfC qual (defScope st) s.heap.objs.size f cdv)) →
      DSs Z (cxOf (L2.CX P w) P w K mg base N qual (defScope st) f cdv A outer s H E) (fun _ => E) (defBody st) wb)
    (hw : ∀ x ds Q, sp ds Q → wb (fun _ _ => False) { nx := fun ρ => ∃ fs, ρ[0]? = some (.obj x C fs) ∧ Q fs, rt := fun _ => False } ((.obj x C [] :: ds.map SV.d) ++ List.replicate (N.length - (ds.length + 1)) .un)) (hC : C ≠ ("{}" : Str) := by decide) : FnOk P w K mg base (L2.CX P w) (k + 1) f fd ps (spI Z K C sp) := by
  refine F.okX S (fun vs H Q E h => ?_) (fun cdv A outer s H vs Q E hr h => ?_)
  · obtain ⟨x, dx, CA, ws, F0, ds, Qd, rfl, _, _, _, _, r, h1, _⟩ := h
    rw [List.length_cons, r.len, hl _ _ h1]
  · obtain ⟨x, dx, CA, ws, F0, ds, Qd, rfl, hx, fx, nC, sF, r, h1, q⟩ := h
    obtain ⟨t, p, l⟩ := hbody cdv A outer s H E hr
    refine ⟨t, p, ?_⟩
    have hN : ds.length + 1 ≤ N.length := by
      rw [hl _ _ h1]
      have e := congrArg List.length S.pre
      rw [List.length_take] at e
      omega
    have hlen := r.len
    have e0 : EnvOk Z K ⟨none, F0, less H x⟩ F0 H (L2.start N (.ref x :: ws)) ((.obj x C [] :: ds.map SV.d) ++ List.replicate (N.length - (ds.length + 1)) .un) := by
      have noOwn : ∀ (j : Nat) xs, ((SV.obj x C [] :: ds.map SV.d) ++ List.replicate (N.length - (ds.length + 1)) SV.un)[j]? ≠ some (SV.own xs) := fun j xs z => by
        have m := List.mem_of_getElem? z
        rcases List.mem_append.mp m with m | m
        · rcases List.mem_cons.mp m with m | m
          · cases m
          · obtain ⟨y, _, e⟩ := List.mem_map.mp m
            cases e
        · cases (List.mem_replicate.mp m).2
      refine ⟨?_, fun j s hj => ?_, fun i j xs ys _ z _ => absurd z (noOwn i xs), sF, Same.refl _, fun b hb => .inl hb, fun b o hb _ => ?_, fun b hb => ?_, fun a fp z => nomatch z⟩
      · unfold L2.start
        simp only [List.length_append, List.length_map, List.length_cons, List.length_replicate]
        omega
      · have hL : (L2.start N (.ref x :: ws)) = (some (V.ref x) :: ws.map some) ++ List.replicate (N.length - (ws.length + 1)) none := by
          unfold L2.start
          simp
        rw [hL]
        by_cases hj1 : j < ds.length + 1
        · rw [List.getElem?_append_left (by simpa using hj1)] at hj
          rw [List.getElem?_append_left (by simp; omega)]
          cases j with
          | zero =>
            cases hj
            exact ⟨_, rfl, _, [], rfl, fx, less_at, hx, ⟨rfl, hC, nC⟩, rfl, rfl⟩
          | succ j =>
            have hj : (ds.map SV.d)[j]? = some s := hj
            rw [List.getElem?_map] at hj
            cases q2 : ds[j]? with
            | none => rw [q2] at hj; cases hj
            | some y =>
              rw [q2] at hj
              cases hj
              obtain ⟨v, v1, v2⟩ := r.get q2
              exact ⟨some v, by show (ws.map some)[j]? = _; rw [List.getElem?_map, v1]; rfl, v, rfl, v2⟩
        · rw [List.getElem?_append_right (by simp; omega), List.getElem?_replicate] at hj
          split at hj
          · rename_i hc
            cases hj
            refine ⟨none, ?_, trivial⟩
            rw [List.getElem?_append_right (by simp; omega), List.getElem?_replicate, if_pos]
            simp at hc ⊢
            omega
          · cases hj
      · have hbx : b ≠ x := fun z => by rw [z] at hb; have : less H x x = some o := hb; rw [less_at] at this; cases this
        have : less H x b = some o := hb
        rw [less_ne hbx] at this
        exact this
      · intro z
        apply hb
        show less H x b = none
        unfold less
        rw [z]
        split <;> rfl
    refine l ⟨none, F0, less H x⟩ F0 H _ _ _ _ _ e0 elk0 (hw x ds Qd h1) ⟨fun σ ρ F' H' z e' s' n' => ?_, fun _ _ _ _ _ _ z => z.elim, fun _ _ _ _ z => z.elim, fun _ _ _ _ z => z.elim⟩
    obtain ⟨fs, z1, z2⟩ := z
    obtain ⟨o, o1, ob, gs, rfl, r2, r3, r4, r5, r6, r7⟩ := e'.slot 0 _ z1
    obtain ⟨CB, dx', rfl, r8⟩ := r5.ins hC
    have r8 := nC.symm.trans r8
    cases r8
    refine q fs gs dx' F' H' z2 ⟨e'.f0, fun b u hb => ?_, fun b hb => e'.new b hb, fun b u hb _ => ?_, fun b hb => ?_, fun _ _ z => nomatch z⟩ r2 r4 r6 r7 e'.fh
    · rw [less_ne (ne_of_none hb r2)]
      exact e'.fh b u hb
    · have hbx : b ≠ x := fun z => by rw [z, less_at] at hb; cases hb
      rw [less_ne hbx]
      exact e'.keep b u hb fun z => nomatch z
    · have hbx : b ≠ x := fun z => hb (by rw [z, less_at])
      rw [less_ne hbx]
      exact e'.all b hb
end
def clsDef : Stmt → Nat → Stmt
  | .ClassDef (body := b) .., i => b.getD i (.Pass ⟨0, 0, 0, 0⟩)
  | st, _ => st
theorem gOfld_ex {C f : Str} {i : Nat} : ∀ d ρ Q, gOfld C i f d ρ Q → ∃ ρ', Q ρ' := fun d ρ Q h => by
  obtain ⟨_, _, _, _, _, _, _, z⟩ := obj_cases h
  exact ⟨_, z⟩
/-- a class that is made by a call, as its callers know it -/
structure FdI (P : Program) (w : World) (K : PySem.W.Frag) (mg : Str → Option Value) (base : Heap) (Z : SrcK) (k : Nat) (C : Str) (ps : List Str) (sp : ISpec) : Prop where
  ex : ∃ (f : Addr) (fd : FuncData), FnOk P w K mg base (L2.CX P w) k f fd ps (spI Z K C sp) ∧ (∀ CA, mg C = some (.ref CA) → Mk K CA f) ∧ Binds K fd ps []
theorem de_makeF {Z : SrcK} {X : Cx} {E : L2.St → XK} {e : Expr} {pos : Pos} {es : List Expr} {ws : AW} {k j : Nat} {C : Str} {fns : List Str} {sp : ISpec} {ps : List Str} {p : Pos} (A : At X E k) (hk : j + 1 ≤ k) (T : ClsD X.K X.mg C fns) (G : FdI X.prog X.w X.K X.mg X.base Z j C ps sp) (ha : DA Z X E (e :: es) ws) (hg : Gl X C := by rfl) (hdb : (C == ("__debug__" : Str)) = false := by decide)
    (he : starEach (e :: es) X.env = (false, eval e X.env) :: starEach es X.env := by rfl) (hpl : (backTo pos (starEach es X.env)).any (·.1) = false := by rfl) (hC0 : C ≠ ("{}" : Str) := by decide) : DE Z X E (.Call (.Name C p) (e :: es) [] pos) (wMake C sp ws) := by
  obtain ⟨f, fd, F, M, hb⟩ := G.ex
  exact de_make A hk T M F hb ha hg hdb he hpl hC0
abbrev VCI (C : Str) (wb : SW) (n : Nat) (sp : ISpec) : Prop := ∀ (x : Addr) ds Q, sp ds Q → wb (fun _ _ => False) { nx := fun ρ => ∃ fs, ρ[0]? = some (.obj x C fs) ∧ Q fs, rt := fun _ => False } ((.obj x C [] :: ds.map SV.d) ++ List.replicate (n - (ds.length + 1)) .un)
theorem fdI_of {P : Program} {w : World} {K : PySem.W.Frag} {mg : Str → Option Value} {base : Heap} {Z : SrcK} {C qual : Str} {st : Stmt} {f : Addr} {fd : FuncData} {N ps : List Str} {k : Nat} {sp : ISpec} {wb : SW} (F : Fun K "__init__" qual st f fd) (hm : ∀ CA, mg C = some (.ref CA) → Mk K CA f) (hb : Binds K fd ps []) (S : FnScope N ps (defScope st)) (hl : ∀ ds Q, sp ds Q → ds.length + 1 = ps.length)
    (hbody : ∀ (cdv : Value) (A : Around) (outer : List PySem.Env) (s : Shared) (H : Hp) (E : XK), Room k (A.deeper (envOfC qual (defScope st) s.heap.objs.size f cdv)) →
      DSs Z (cxOf (L2.CX P w) P w K mg base N qual (defScope st) f cdv A outer s H E) (fun _ => E) (defBody st) wb)
    (hw : VCI C wb N.length sp) (hC : C ≠ ("{}" : Str) := by decide) : FdI P w K mg base Z (k + 1) C ps sp := ⟨⟨f, fd, init_of F S hl hbody hw hC, hm, hb⟩⟩
theorem mk_eq {K : PySem.W.Frag} {mg : Str → Option Value} {C : Str} {o f : Addr} (mC : mg C = some (.ref o)) (M : Mk K o f) : ∀ CA, mg C = some (.ref CA) → Mk K CA f := fun CA h => by
  rw [mC] at h
  cases h
  exact M
end DL
set_option linter.all false
set_option autoImplicit false
set_option maxHeartbeats 4000000
set_option maxRecDepth 100000
namespace DL
open PySem PySem.Spec PyProof.Rows L2
def topS (i : Nat) : Stmt := PySem.Challenge.pw_fastestalong_k11_programs_judged.main.body.getD i (.Pass ⟨0, 0, 0, 0⟩)
abbrev s__law_gear : Stmt := topS 24
abbrev s__law_low : Stmt := topS 28
abbrev s__law_tooth : Stmt := topS 25
abbrev s__law_add : Stmt := topS 29
abbrev s__law_spot : Stmt := topS 35
abbrev s__law_mul : Stmt := topS 31
abbrev s__law_next : Stmt := topS 36
abbrev s__law_take : Stmt := topS 30
abbrev s__law_steps : Stmt := topS 37
abbrev s__law_program : Stmt := topS 38
abbrev s__law_pick : Stmt := topS 26
abbrev s__law_trail : Stmt := topS 40
abbrev s__law_near : Stmt := topS 52
abbrev s__law_bent : Stmt := topS 50
abbrev s__law_is_fraction : Stmt := topS 45
abbrev s__law_is_above : Stmt := topS 46
abbrev s__law_under : Stmt := topS 33
abbrev s__law_is_spot : Stmt := topS 47
abbrev s__law_step_place : Stmt := topS 48
abbrev s__law_program_place : Stmt := topS 49
abbrev s__law_same : Stmt := topS 27
abbrev s_is_tuple_of : Stmt := topS 12
abbrev s_is_integer : Stmt := topS 5
abbrev s_common : Stmt := topS 6
abbrev s_is_fraction : Stmt := topS 7
abbrev s_below : Stmt := topS 8
abbrev s_is_above : Stmt := topS 13
abbrev s_is_point : Stmt := topS 15
abbrev s_is_amount : Stmt := topS 14
abbrev s_step_fault : Stmt := topS 16
abbrev s_program_fault : Stmt := topS 17
abbrev s_is_program : Stmt := topS 18
abbrev s_check_program : Stmt := topS 19
abbrev s_path_of : Stmt := topS 21
abbrev s_path : Stmt := topS 22
abbrev s_axis_count : Stmt := topS 20
abbrev s__law_tried : Stmt := topS 51
abbrev s_law : Stmt := topS 53
structure Bn (mg : Str → Option Value) : Prop where
  abs : mg "abs" = none
  all : mg "all" = none
  bool : mg "bool" = none
  enumerate : mg "enumerate" = none
  int : mg "int" = none
  isinstance : mg "isinstance" = none
  len : mg "len" = none
  list : mg "list" = none
  min : mg "min" = none
  range : mg "range" = none
  repr : mg "repr" = none
  str : mg "str" = none
  tuple : mg "tuple" = none
  zip : mg "zip" = none
def c_NOUGHT : D := (.tup [(.int 0), (.int 1)])
def c_MOST_AXES : D := (.int 3)
def c_MOST_STEPS : D := (.int 30)
structure Cn (K : PySem.W.Frag) (mg : Str → Option Value) : Prop where
  NOUGHT : Gc K mg "NOUGHT" c_NOUGHT
  MOST_AXES : Gc K mg "MOST_AXES" c_MOST_AXES
  MOST_STEPS : Gc K mg "MOST_STEPS" c_MOST_STEPS
def errL : List Str := ["InvalidProgram"]
structure Xn (P : Program) (K : PySem.W.Frag) (mg : Str → Option Value) : Prop where
  InvalidProgram : Er1 P K mg "InvalidProgram" "place"
  subs : ErS K mg errL
abbrev kws__law_gear : List (List Str × List Nat) := []
abbrev kws__law_low : List (List Str × List Nat) := []
abbrev kws__law_tooth : List (List Str × List Nat) := []
abbrev kws__law_add : List (List Str × List Nat) := []
abbrev kws__law_spot : List (List Str × List Nat) := []
abbrev kws__law_mul : List (List Str × List Nat) := []
abbrev kws__law_next : List (List Str × List Nat) := []
abbrev kws__law_take : List (List Str × List Nat) := []
abbrev kws__law_steps : List (List Str × List Nat) := []
abbrev kws__law_program : List (List Str × List Nat) := []
abbrev kws__law_pick : List (List Str × List Nat) := []
abbrev kws__law_trail : List (List Str × List Nat) := []
abbrev kws__law_near : List (List Str × List Nat) := []
abbrev kws__law_bent : List (List Str × List Nat) := []
abbrev kws__law_is_fraction : List (List Str × List Nat) := []
abbrev kws__law_is_above : List (List Str × List Nat) := []
abbrev kws__law_under : List (List Str × List Nat) := []
abbrev kws__law_is_spot : List (List Str × List Nat) := []
abbrev kws__law_step_place : List (List Str × List Nat) := []
abbrev kws__law_program_place : List (List Str × List Nat) := []
abbrev kws__law_same : List (List Str × List Nat) := []
abbrev kws_is_tuple_of : List (List Str × List Nat) := []
abbrev kws_is_integer : List (List Str × List Nat) := []
abbrev kws_common : List (List Str × List Nat) := []
abbrev kws_is_fraction : List (List Str × List Nat) := []
abbrev kws_below : List (List Str × List Nat) := []
abbrev kws_is_above : List (List Str × List Nat) := []
abbrev kws_is_point : List (List Str × List Nat) := []
abbrev kws_is_amount : List (List Str × List Nat) := []
abbrev kws_step_fault : List (List Str × List Nat) := []
abbrev kws_program_fault : List (List Str × List Nat) := [(["value"], [0])]
abbrev kws_is_program : List (List Str × List Nat) := [(["value"], [0])]
abbrev kws_check_program : List (List Str × List Nat) := []
abbrev kws_path_of : List (List Str × List Nat) := []
abbrev kws_path : List (List Str × List Nat) := [(["program"], [0])]
abbrev kws_axis_count : List (List Str × List Nat) := [(["program"], [0])]
abbrev kws__law_tried : List (List Str × List Nat) := []
abbrev kws_law : List (List Str × List Nat) := []
end DL
set_option linter.all false
set_option autoImplicit false
set_option maxHeartbeats 4000000
set_option maxRecDepth 100000
set_option exponentiation.threshold 20000
/-! Lemmas for what the defs promise. -/
namespace DL
open PySem PySem.Spec PyProof.Rows L2
theorem gcd_loop {X : XD} {DD : DEnds} {wr : Nat} (a b : Int) (ha : 0 ≤ a) (hb : 0 ≤ b) (q : ∀ u : Int, u = (Int.gcd a b : Int) → DD.nx [.d (.int u), .d (.int 0)]) :
    sWhile (DL.tB (wBin bGt (wVar 1) (wC (.int 0)))) (sPar [0, 1] (wCons (wVar 1) (wCons (wBin bMod (wVar 0) (wVar 1)) wNil))) X DD [.d (.int a), .d (.int b)] := by
  refine ⟨fun m ρ => ∃ x y : Int, ρ = [.d (.int x), .d (.int y)] ∧ 0 ≤ x ∧ 0 ≤ y ∧ y.toNat = m ∧ Int.gcd x y = Int.gcd a b, ⟨b.toNat, a, b, rfl, ha, hb, rfl, rfl⟩, ?_⟩
  rintro m ρ ⟨x, y, rfl, hx, hy, hm, hg⟩
  refine ite2 (fun z => ?_) fun z => ?_
  · have hy0 : 0 < y := of_decide_eq_true z
    refine ⟨hy0, (x % y).toNat, ?_, y, x % y, rfl, by omega, Int.emod_nonneg _ (by omega), rfl, ?_⟩
    · have := Int.emod_lt_of_pos x hy0
      have := Int.emod_nonneg x (show y ≠ 0 by omega)
      omega
    · rw [gcd_step hx hy0, hg]
  · have hy0 : ¬ 0 < y := fun k => z (decide_eq_true k)
    have e : y = 0 := by omega
    subst e
    refine q x ?_
    rw [← hg, Int.gcd_zero_right]
    omega
theorem bools_fr : ∀ {xs : List D}, (∀ x ∈ xs, x = .bl true) → ∃ bs, bools xs = some bs ∧ bs.all id = true := fun {xs} h => ⟨_, bools_all h, all_replicate _⟩
theorem low_loop {X : XD} {DD : DEnds} {u v : SV} (a b : Int) (ha : 0 ≤ a) (hb : 0 ≤ b) (q : ∀ r : Int, r = (Int.gcd a b : Int) → DD.nx [u, v, .d (.int r), .d (.int 0)]) :
    sWhile (DL.tB (wBin bGt (wVar 3) (wC (.int 0)))) (sPar [2, 3] (wCons (wVar 3) (wCons (wBin bMod (wCB bInt (wCons (wVar 2) wNil)) (wVar 3)) wNil))) X DD [u, v, .d (.int a), .d (.int b)] := by
  refine ⟨fun m ρ => ∃ x y : Int, ρ = [u, v, .d (.int x), .d (.int y)] ∧ 0 ≤ x ∧ 0 ≤ y ∧ y.toNat = m ∧ Int.gcd x y = Int.gcd a b, ⟨b.toNat, a, b, rfl, ha, hb, rfl, rfl⟩, ?_⟩
  rintro m ρ ⟨x, y, rfl, hx, hy, hm, hg⟩
  refine ite2 (fun z => ?_) fun z => ?_
  · have hy0 : 0 < y := of_decide_eq_true z
    refine ⟨hy0, (x % y).toNat, ?_, y, x % y, rfl, by omega, Int.emod_nonneg _ (by omega), rfl, ?_⟩
    · have := Int.emod_lt_of_pos x hy0
      have := Int.emod_nonneg x (show y ≠ 0 by omega)
      omega
    · rw [gcd_step hx hy0, hg]
  · have hy0 : ¬ 0 < y := fun k => z (decide_eq_true k)
    have e : y = 0 := by omega
    subst e
    refine q x ?_
    rw [← hg, Int.gcd_zero_right]
    omega
theorem low_fin {Q : RV → Prop} {a b : Int} (hb : b ≠ 0) (hlog : b.natAbs.log2 < 9000) (q : Q (.d (fr (rat a b)))) : ∀ f : Int, f = (Int.gcd a b : Int) * (if 0 < b then 1 else -1) → (f ≠ 0 ∧ f.natAbs.log2 < 9000) ∧ (f ≠ 0 ∧ f.natAbs.log2 < 9000) ∧ 2 ≤ 100000 ∧ Q (.d (.tup [.int (a.fdiv f), .int (b.fdiv f)])) := fun f hf => by
  obtain ⟨h1, h2, h3⟩ := low_parts (top := a) hb hf
  have hn : f.natAbs = Int.gcd a b := by
    rw [hf]
    split <;> omega
  have hl : f.natAbs.log2 < 9000 := by
    rw [hn]
    refine Nat.lt_of_le_of_lt ?_ hlog
    rw [Nat.le_log2 (by omega)]
    exact Nat.le_trans (Nat.log2_self_le (Nat.pos_iff_ne_zero.mp (gcd_pos hb))) (gcd_le hb)
  rw [h2, h3]
  exact ⟨⟨h1, hl⟩, ⟨h1, hl⟩, by decide, q⟩
theorem bAll_true {ys : List D} {Q : D → Prop} (h : ∀ y ∈ ys, y = .bl true) (q : Q (.bl true)) : bAll [.lst ys] Q := by
  obtain ⟨bs, e1, e2⟩ := bools_fr h
  show match bools ys with
    | some bs => Q (.bl (bs.all id))
    | none => False
  rw [e1]
  show Q (.bl (bs.all id))
  rw [e2]
  exact q
theorem mem_range {lo : Int} {n : Nat} {x : D} (h : x ∈ rangeD lo n) : ∃ k : Nat, k < n ∧ x = .int (lo + k) := by
  obtain ⟨k, hk, rfl⟩ := List.mem_map.mp h
  exact ⟨k, List.mem_range.mp hk, rfl⟩
theorem isFr_low {i j : Int} (hj : 0 < j) : peq (fr (rat i j)) (.tup [.int i, .int j]) = isFr (.tup [.int i, .int j]) := by
  have e1 : (rat i j).num = i / (Int.gcd j i : Int) := by
    unfold rat
    rw [Rat.num_divInt, Int.sign_eq_one_of_pos hj, Int.one_mul]
  have e2 : (rat i j).den = j.natAbs / Int.gcd j i := by
    unfold rat
    rw [Rat.den_divInt, if_neg (by omega)]
  show (((rat i j).num == i) && (((rat i j).den : Int) == j && true)) = decide (0 < j ∧ Int.gcd i j = 1)
  by_cases hg : Int.gcd i j = 1
  · have hg2 : Int.gcd j i = 1 := by rw [Int.gcd_comm]; exact hg
    rw [hg2] at e1 e2
    rw [e1, e2, decide_eq_true ⟨hj, hg⟩]
    have a1 : i / ((1 : Nat) : Int) = i := by simp
    have a2 : ((j.natAbs / 1 : Nat) : Int) = j := by
      rw [Nat.div_one]
      omega
    rw [a1, a2]
    simp
  · rw [decide_eq_false (fun k => hg k.2)]
    rw [Bool.and_eq_false_iff]
    by_cases h1 : (rat i j).num = i
    · right
      rw [Bool.and_true]
      refine beq_false_of_ne fun h2 => hg ?_
      have r := (rat i j).reduced
      rw [h1] at r
      have h3 : (rat i j).den = j.natAbs := by omega
      rw [h3] at r
      exact r
    · left
      exact beq_false_of_ne h1
theorem fr_int (k : Int) : fr (k : Rat) = .tup [.int k, .int 1] := rfl
theorem frs_len (qs : List Rat) : (frs qs).length = qs.length := by simp [frs]
theorem plainL_frs (n : Nat) (qs : List Rat) : plainL (n + 2) (frs qs) = true := by
  induction qs with
  | nil => simp [frs, plainL]
  | cons q qs ih =>
    simp only [frs, List.map_cons, plainL, Bool.and_eq_true]
    exact ⟨plain_fr n q, ih⟩
theorem rsum_snoc (t : Rat) : ∀ ps : List Rat, (ps ++ [t]).sum = ps.sum + t
  | [] => by
    show t + 0 = 0 + t
    rw [Rat.add_zero, Rat.zero_add]
  | p :: ps => by
    show p + (ps ++ [t]).sum = (p + ps.sum) + t
    rw [rsum_snoc t ps, Rat.add_assoc]
theorem ne_t {a b : Rat} (h : a = b) : ¬ (!peq (fr a) (fr b)) = true := by
  subst h
  rw [peq_fr, decide_eq_true rfl]
  simp
theorem isnot_t {x b : Bool} (h : x = b) : ¬ (!decide (x = b)) = true := by
  subst h
  simp
theorem num_ne {q : Rat} (h : (!peq (.int q.num) (.int 0)) = true) : q ≠ 0 := fun z => by
  subst z
  rw [peq_int] at h
  simp at h
theorem num_pos {q : Rat} (h : 0 < q.num) : 0 < q := by
  rw [Rat.lt_iff]
  simpa using h
theorem num_neg {q : Rat} (h : q.num < 0) : q < 0 := by
  rw [Rat.lt_iff]
  simpa using h
theorem num_nil {q : Rat} (h : q.num = 0) : q = 0 := by
  by_cases k : q = 0
  · exact k
  · exact absurd h (num_nz k)
theorem mul_lt_neg {p q r : Rat} (h : r < 0) : p * r < q * r ↔ q < p := by
  have h2 : 0 < -r := by grind
  have e : q * -r < p * -r ↔ q < p := Rat.mul_lt_mul_right h2
  rw [Rat.mul_neg, Rat.mul_neg] at e
  rw [← e]
  constructor <;> intro k <;> grind
theorem cross {t b : Int} (hb : b ≠ 0) : (rat t b).num * b = t * (rat t b).den := by
  have h1 := den_q (rat t b)
  have h2 : (b : Rat) ≠ 0 := fun z => hb (by exact_mod_cast z)
  have e : (t : Rat) / (b : Rat) = ((rat t b).num : Rat) / (((rat t b).den : Int) : Rat) := (rat_of t b).symm.trans (self_div _)
  have e3 : (((rat t b).num * b : Int) : Rat) = ((t * (rat t b).den : Int) : Rat) := by
    rw [Rat.intCast_mul, Rat.intCast_mul]
    generalize ((rat t b).num : Rat) = x at *
    generalize (((rat t b).den : Int) : Rat) = y at *
    generalize (t : Rat) = u at *
    generalize (b : Rat) = v at *
    grind
  exact_mod_cast e3
def unfr : D → Rat
  | .tup [.int a, .int b] => rat a b
  | _ => 0
theorem unfr_fr (q : Rat) : unfr (fr q) = q := rat_self q
theorem unfr_frs (qs : List Rat) : (frs qs).map unfr = qs := by
  induction qs with
  | nil => rfl
  | cons q qs ih =>
    show unfr (fr q) :: (frs qs).map unfr = q :: qs
    rw [ih, unfr_fr]
theorem rsum_perm {xs ys : List Rat} (h : xs.Perm ys) : xs.sum = ys.sum := by
  induction h with
  | nil => rfl
  | cons x _ ih =>
    exact congrArg (x + ·) ih
  | swap x y l =>
    show y + (x + l.sum) = x + (y + l.sum)
    rw [← Rat.add_assoc, ← Rat.add_assoc, Rat.add_comm y x]
  | trans _ _ h1 h2 => exact h1.trans h2
theorem rat_scale {p : Rat} {f : Int} (hf : f ≠ 0) : rat (p.num * f) (p.den * f) = p := by
  unfold rat
  rw [Rat.divInt_mul_right hf]
  exact rat_self p
theorem fr_neg (p : Rat) : D.tup [.int (-p.num), .int p.den] = fr (-p) := by
  unfold fr
  rw [Rat.neg_num, Rat.neg_den]
theorem frs_rev (qs : List Rat) : (frs qs).reverse = frs qs.reverse := by simp [frs]
/-! ### one fraction -/
def rabs (q : Rat) : Rat := if q < 0 then -q else q
@[irreducible] def sp_un (f : Rat → D) : Spec := S1 fun x Q => ∃ q : Rat, x = fr q ∧ Q (.d (f q))
theorem un_el {f : Rat → D} {ss : List SV} {Q : RV → Prop} {Xe : Exc → Prop} (h : sp_un f ss Q Xe) : ∃ x, ss = [.d x] ∧ ∃ q : Rat, x = fr q ∧ Q (.d (f q)) := by
  unfold sp_un at h
  exact h
theorem un_ok {f : Rat → D} {q : Rat} {Q : RV → Prop} {Xe : Exc → Prop} (k : Q (.d (f q))) : sp_un f [.d (fr q)] Q Xe := by
  unfold sp_un
  exact ⟨_, rfl, q, rfl, k⟩
theorem len_un {f : Rat → D} : ∀ ss Q Xe, sp_un f ss Q Xe → ss.length = 1 := fun ss Q Xe h => by
  obtain ⟨x, e, _⟩ := un_el h
  rw [e] <;> rfl
theorem num_sign (q : Rat) : q < 0 ↔ q.num < 0 := by
  rw [Rat.lt_iff]
  simp
theorem fr_abs (q : Rat) : D.tup [.int (if q.num < 0 then -q.num else q.num), .int q.den] = fr (rabs q) := by
  unfold rabs
  by_cases h : q < 0
  · rw [if_pos h, if_pos ((num_sign q).mp h)]
    exact fr_neg q
  · rw [if_neg h, if_neg (fun k => h ((num_sign q).mpr k))]
    rfl
theorem Sz.abs {n : Nat} {q : Rat} (h : Sz n q) : Sz n (rabs q) := by
  unfold rabs
  split
  · exact h.neg
  · exact h
theorem dec_lt (p q : Rat) : decide (p.num * (q.den : Int) < q.num * (p.den : Int)) = decide (p < q) := by
  rw [decide_eq_decide]
  exact (Rat.lt_iff p q).symm
/-! ### data of any form -/
mutual
def sml : D → Prop
  | .int i => i.natAbs < 2 ^ 4000
  | .tup xs => smlL xs
  | .lst xs => smlL xs
  | _ => True
def smlL : List D → Prop
  | [] => True
  | x :: xs => sml x ∧ smlL xs
end
/-- data that may be looked at by any def -/
def okD (d : D) : Prop := short 40 d = true ∧ sml d
theorem sml_at : ∀ {xs : List D}, smlL xs → ∀ x ∈ xs, sml x
  | [], _, _, h => nomatch h
  | x :: xs, h, y, m => by
    simp only [smlL] at h
    rcases List.mem_cons.mp m with e | m
    · rw [e]
      exact h.1
    · exact sml_at h.2 y m
theorem short_mono : ∀ (n m : Nat) (d : D), n ≤ m → short n d = true → short m d = true := by
  have key : ∀ n m : Nat, n ≤ m → ∀ d : D, short n d = true → short m d = true := by
    intro n
    induction n with
    | zero => intro m _ d h; simp [short] at h
    | succ n ih =>
      intro m hm d h
      obtain ⟨m, rfl⟩ : ∃ k, m = k + 1 := ⟨m - 1, by omega⟩
      have l : ∀ xs : List D, shortL n xs = true → shortL m xs = true := fun xs h => shortL_of fun x hx => ih m (by omega) x (shortL_at h x hx)
      cases d with
      | tup xs =>
        simp only [short, Bool.and_eq_true] at h ⊢
        exact ⟨h.1, l xs h.2⟩
      | lst xs =>
        simp only [short, Bool.and_eq_true] at h ⊢
        exact ⟨h.1, l xs h.2⟩
      | str s =>
        simp only [short] at h ⊢
        exact h
      | non => simp [short]
      | bl _ => simp [short]
      | int _ => simp [short]
      | ins _ _ _ => simp [short] at h
  exact fun n m d h => key n m h d
theorem okD.plain {d : D} (h : okD d) : plain 40 d = true := short_plain _ _ d (Nat.le_refl _) h.1
theorem okD.ty {d : D} (h : okD d) : (tyOf d).isSome = true := plain_ty h.plain
theorem okD.tup {xs : List D} (h : okD (.tup xs)) : ∀ x ∈ xs, okD x := fun x m => by
  obtain ⟨h1, h2⟩ := h
  simp only [short, Bool.and_eq_true] at h1
  simp only [sml] at h2
  exact ⟨short_mono 39 40 x (by decide) (shortL_at h1.2 x m), sml_at h2 x m⟩
theorem okD.len {xs : List D} (h : okD (.tup xs)) : xs.length ≤ 1000 := by
  have h1 := h.1
  simp only [short, Bool.and_eq_true, decide_eq_true_eq] at h1
  exact h1.1
/-- a fraction by its form -/
theorem isFr_el {d : D} (h : isFr d = true) : ∃ q : Rat, d = fr q := by
  unfold isFr at h
  split at h
  · rename_i a b
    have h := of_decide_eq_true h
    have e := isFr_low (i := a) h.1
    have h2 : isFr (.tup [.int a, .int b]) = true := decide_eq_true h
    rw [h2] at e
    refine ⟨rat a b, ?_⟩
    unfold fr at e ⊢
    simp only [peq, peqL, Bool.and_true, Bool.and_eq_true, beq_iff_eq] at e
    rw [e.1, e.2]
  · cases h
theorem okD.sz {q : Rat} (h : okD (fr q)) : Sz 4000 q := by
  have h2 := h.2
  simp only [fr, sml, smlL] at h2
  exact ⟨h2.1, by have := h2.2.1; omega⟩
theorem okD_fr {n : Nat} {q : Rat} (h : Sz n q) (k : n ≤ 4000) : okD (fr q) := by
  have h := h.mono k
  refine ⟨short_fr 38 q, ?_⟩
  simp only [fr, sml, smlL]
  exact ⟨h.1, by have := h.2; omega, trivial⟩
def isAbove (d : D) : Bool := isFr d && decide (0 < unfr d)
def isAmount (d : D) : Bool := isFr d && !decide (unfr d < 0)
def isPoint (n : Int) : D → Bool
  | .tup xs => decide ((xs.length : Int) = n) && xs.all isFr
  | _ => false
def isBool : D → Bool
  | .bl _ => true
  | _ => false
def nought : Rat := 0
theorem nought_fr : D.tup [.int 0, .int 1] = fr 0 := rfl
theorem sz_0 : Sz 1 (0 : Rat) := ⟨by decide, by decide⟩
end DL
set_option linter.all false
set_option autoImplicit false
set_option maxHeartbeats 4000000
set_option maxRecDepth 100000
set_option exponentiation.threshold 20000
/-! Programs of moves, as the laws draw them. -/
namespace DL
open PySem PySem.Spec PyProof.Rows L2
/-- multiples of 1 / (6 * 10 ^ 60), so many at most -/
def D0 : Int := 6 * 10 ^ 60
theorem D0_pos : 0 < D0 := by decide
def Gr (b : Nat) (q : Rat) : Prop := ∃ z : Int, q = rat z D0 ∧ z.natAbs ≤ b
theorem D0_nz : (D0 : Rat) ≠ 0 := by
  have : D0 ≠ 0 := by decide
  exact fun z => this (by exact_mod_cast z)
theorem Gr.add {a b : Nat} {p q : Rat} (h : Gr a p) (k : Gr b q) : Gr (a + b) (p + q) := by
  obtain ⟨y, rfl, hy⟩ := h
  obtain ⟨z, rfl, hz⟩ := k
  refine ⟨y + z, ?_, by omega⟩
  have := D0_nz
  rw [rat_of, rat_of, rat_of, Rat.intCast_add]
  grind
theorem Gr.sub {a b : Nat} {p q : Rat} (h : Gr a p) (k : Gr b q) : Gr (a + b) (p - q) := by
  obtain ⟨y, rfl, hy⟩ := h
  obtain ⟨z, rfl, hz⟩ := k
  refine ⟨y - z, ?_, by omega⟩
  have := D0_nz
  rw [rat_of, rat_of, rat_of, Rat.intCast_sub]
  grind
theorem Gr.mono {a b : Nat} {p : Rat} (h : Gr a p) (k : a ≤ b) : Gr b p := by
  obtain ⟨y, e, hy⟩ := h
  exact ⟨y, e, by omega⟩
theorem Gr.scale {a : Nat} {p : Rat} (h : Gr a p) (k : Int) : Gr (k.natAbs * a) (p * k) := by
  obtain ⟨y, rfl, hy⟩ := h
  refine ⟨k * y, ?_, ?_⟩
  · have := D0_nz
    rw [rat_of, rat_of, Rat.intCast_mul]
    grind
  · rw [Int.natAbs_mul]
    exact Nat.mul_le_mul_left _ hy
theorem Gr.abs {a : Nat} {p : Rat} (h : Gr a p) : Gr a (rabs p) := by
  unfold rabs
  split
  · obtain ⟨y, rfl, hy⟩ := h
    refine ⟨-y, ?_, by omega⟩
    have := D0_nz
    rw [rat_of, rat_of, Rat.intCast_neg]
    grind
  · exact h
theorem Gr.sz {n : Nat} {q : Rat} (h : Gr (2 ^ n) q) (k : 204 ≤ n) : Sz (n + 1) q := by
  obtain ⟨z, rfl, hz⟩ := h
  have e : 2 ^ 204 ≤ 2 ^ n := Nat.pow_le_pow_right (by decide) k
  have e2 : 2 ^ (n + 1) = 2 * 2 ^ n := by rw [Nat.pow_succ, Nat.mul_comm]
  have e3 : 0 < 2 ^ n := Nat.two_pow_pos n
  refine sz_rat (by decide) ?_ ?_
  · omega
  · have : D0.natAbs < 2 ^ 204 := by decide
    omega
theorem Gr.rat {a b : Int} {m : Nat} (hb : b ≠ 0) (hd : b ∣ D0) (h : a.natAbs * D0.natAbs ≤ m) : Gr m (rat a b) := by
  obtain ⟨c, hc⟩ := hd
  refine ⟨a * c, ?_, ?_⟩
  · have hc0 : c ≠ 0 := fun z => by
      rw [z, Int.mul_zero] at hc
      exact absurd hc (by decide)
    rw [hc]
    unfold DL.rat
    rw [Rat.divInt_mul_right hc0]
  · refine Nat.le_trans ?_ h
    rw [Int.natAbs_mul]
    refine Nat.mul_le_mul_left _ ?_
    rw [hc, Int.natAbs_mul]
    exact Nat.le_mul_of_pos_left _ (by omega)
theorem Gr.zero : Gr 0 0 := ⟨0, by unfold DL.rat; rw [Rat.zero_divInt], by decide⟩
/-! ### points, steps, programs -/
structure StepR where
  goal : List Rat
  feed : Rat
  slow : Rat
  stop : Bool
structure ProgR where
  start : List Rat
  steps : List StepR
def ptD (xs : List Rat) : D := .tup (frs xs)
def stepD (s : StepR) : D := .tup [ptD s.goal, fr s.feed, fr s.slow, .bl s.stop]
def progD (p : ProgR) : D := .tup [ptD p.start, .tup (p.steps.map stepD)]
/-- points on the grid -/
def GrL (b : Nat) (xs : List Rat) : Prop := ∀ x ∈ xs, Gr b x
def stepOk (pt : List Rat) (s : StepR) : Prop := s.goal.length = pt.length ∧ s.goal ≠ pt ∧ GrL (2 ^ 340) s.goal ∧ 0 < s.feed ∧ Sz 300 s.feed ∧ 0 ≤ s.slow ∧ s.slow ≤ s.feed ∧ Sz 340 s.slow
def chainOk : List Rat → List StepR → Prop
  | _, [] => True
  | pt, s :: r => stepOk pt s ∧ chainOk s.goal r
structure OkP (p : ProgR) : Prop where
  axes : 1 ≤ p.start.length ∧ p.start.length ≤ 3
  grid : GrL (2 ^ 340) p.start
  many : 1 ≤ p.steps.length ∧ p.steps.length ≤ 30
  chain : chainOk p.start p.steps
theorem GrL.mono {a b : Nat} {xs : List Rat} (h : GrL a xs) (k : a ≤ b) : GrL b xs := fun x m => (h x m).mono k
theorem chain_snoc {s : StepR} : ∀ {pt : List Rat} {ss : List StepR}, chainOk pt ss → stepOk ((ss.getLast?.map StepR.goal).getD pt) s → chainOk pt (ss ++ [s])
  | _, [], _, h => ⟨h, trivial⟩
  | pt, t :: r, h, k => by
    refine ⟨h.1, chain_snoc h.2 ?_⟩
    cases r with
    | nil => exact k
    | cons u r =>
      rw [List.getLast?_cons_cons] at k
      cases hh : (u :: r).getLast? with
      | none => simp at hh
      | some z =>
        rw [hh] at k
        exact k
/-! ### subscripts whose answer is known -/
theorem mAt {xs : List D} {j : Int} {d : D} {Q : D → Prop} (h : atI xs j = some d) (q : Q d) : (match L2.atI xs j with
    | some d => Q d
    | none => False) := by
  rw [h]
  exact q
theorem mIx {n j : Nat} {i : Int} {R : Nat → Prop} (h : ixN n i = some j) (q : R j) : (match L2.ixN n i with
    | some n => R n
    | none => False) := by
  rw [h]
  exact q
theorem ixN_of {n j : Nat} (h : j < n) : ixN n (j : Int) = some j := by
  unfold ixN
  rw [if_pos (by omega), if_pos (by omega)]
  simp
theorem at_frs {xs : List Rat} {k : Nat} (h : k < xs.length) : atI (frs xs) (k : Int) = some (fr xs[k]) := atI_nat (by
  unfold frs
  rw [List.getElem?_map, List.getElem?_eq_getElem h]
  rfl)
theorem peq_pt (xs ys : List Rat) : peqL (frs xs) (frs ys) = decide (xs = ys) := by
  induction xs generalizing ys with
  | nil => cases ys <;> simp [frs, peqL]
  | cons x xs ih =>
    cases ys with
    | nil => simp [frs, peqL]
    | cons y ys =>
      have e : peqL (frs (x :: xs)) (frs (y :: ys)) = (peq (fr x) (fr y) && peqL (frs xs) (frs ys)) := by simp [frs, peqL]
      rw [e, ih, peq_fr]
      by_cases h1 : x = y <;> by_cases h2 : xs = ys <;> simp [h1, h2]
theorem peq_ptD (xs ys : List Rat) : peq (ptD xs) (ptD ys) = decide (xs = ys) := by
  unfold ptD
  simp only [peq]
  exact peq_pt xs ys
theorem plain_pt (n : Nat) (xs : List Rat) : plain (n + 3) (ptD xs) = true := by
  unfold ptD
  simp only [plain]
  exact plainL_frs n xs
theorem frs_set {xs : List Rat} {k : Nat} {q : Rat} : (frs xs).set k (fr q) = frs (xs.set k q) := by
  unfold frs
  rw [List.map_set]
theorem frs_app (xs ys : List Rat) : frs (xs ++ ys) = frs xs ++ frs ys := List.map_append
theorem GrL.set {b : Nat} {xs : List Rat} {k : Nat} {q : Rat} (h : GrL b xs) (hq : Gr b q) : GrL b (xs.set k q) := fun x m => by
  rcases List.mem_or_eq_of_mem_set m with h1 | h1
  · exact h x h1
  · rw [h1]
    exact hq
theorem GrL.at {b : Nat} {xs : List Rat} (h : GrL b xs) {k : Nat} (hk : k < xs.length) : Gr b xs[k] := h _ (List.getElem_mem hk)
theorem one_fr : D.tup [.int 1, .int 1] = fr 1 := rfl
theorem one_gr : Gr D0.natAbs 1 := ⟨D0, by decide +kernel, Nat.le_refl _⟩
theorem rat_pos {a b : Int} (ha : 0 < a) (hb : 0 < b) : 0 < rat a b := by
  refine num_pos ?_
  unfold rat
  rw [Rat.num_divInt, Int.sign_eq_one_of_pos hb, Int.one_mul]
  have hg : 0 < Int.gcd b a := by
    rw [Int.gcd_comm]
    exact gcd_pos (by omega)
  exact Int.ediv_pos_of_pos_of_dvd ha (by omega) (Int.gcd_dvd_right ..)
theorem frs_inj : ∀ {xs ys : List Rat}, frs xs = frs ys → xs = ys
  | [], [], _ => rfl
  | [], _ :: _, h => by cases h
  | _ :: _, [], h => by cases h
  | x :: xs, y :: ys, h => by
    have h : fr x :: frs xs = fr y :: frs ys := h
    injection h with h1 h2
    rw [fr_inj h1, frs_inj h2]
/-! ### what programs come to -/
def subL (a b : List Rat) : List Rat := List.zipWith (fun x y => x - y) a b
def gapsFrom : List Rat → List StepR → List (List Rat)
  | _, [] => []
  | pt, s :: r => subL s.goal pt :: gapsFrom s.goal r
def gapsM (p : ProgR) : List (List Rat) := gapsFrom p.start p.steps
def longM (gs : List Rat) : Rat := gs.foldl (fun a g => if a < rabs g then rabs g else a) 0
def marksFrom (a : Rat) : List (List Rat) → List Rat
  | [] => []
  | g :: r => (a + longM g) :: marksFrom (a + longM g) r
def marksM (p : ProgR) : List Rat := 0 :: marksFrom 0 (gapsM p)
def headM (g : List Rat) : List Rat := g.map fun x => x / longM g
def headsM (p : ProgR) : List (List Rat) := (gapsM p).map headM
/-- the points that are passed -/
def trailM (p : ProgR) : List (List Rat) := p.start :: p.steps.map StepR.goal
theorem gaps_len (pt : List Rat) (ss : List StepR) : (gapsFrom pt ss).length = ss.length := by
  induction ss generalizing pt with
  | nil => rfl
  | cons s r ih => rw [gapsFrom, List.length_cons, List.length_cons, ih]
theorem gaps_at : ∀ (pt : List Rat) (ss : List StepR) (k : Nat) (a b : List Rat), (pt :: ss.map StepR.goal)[k]? = some b → (pt :: ss.map StepR.goal)[k + 1]? = some a → (gapsFrom pt ss)[k]? = some (subL a b)
  | pt, [], k, a, b, _, h => by simp at h
  | pt, s :: r, 0, a, b, h1, h2 => by
    have e1 : pt = b := Option.some.inj h1
    have e2 : s.goal = a := Option.some.inj h2
    rw [← e1, ← e2]
    rfl
  | pt, s :: r, k + 1, a, b, h1, h2 => gaps_at s.goal r k a b h1 h2
theorem subL_gr {a b : Nat} {xs ys : List Rat} (h : GrL a xs) (k : GrL b ys) : GrL (a + b) (subL xs ys) := fun x m => by
  obtain ⟨i, hi⟩ := List.getElem?_of_mem m
  unfold subL at hi
  rw [List.getElem?_zipWith] at hi
  cases e1 : xs[i]? with
  | none => rw [e1] at hi; cases hi
  | some u =>
    cases e2 : ys[i]? with
    | none => rw [e1, e2] at hi; cases hi
    | some v =>
      rw [e1, e2] at hi
      have hi : u - v = x := Option.some.inj hi
      rw [← hi]
      exact (h u (List.mem_of_getElem? e1)).sub (k v (List.mem_of_getElem? e2))
theorem subL_len (xs ys : List Rat) : (subL xs ys).length = min xs.length ys.length := by simp [subL]
theorem gaps_gr : ∀ {pt : List Rat} {ss : List StepR}, GrL (2 ^ 340) pt → chainOk pt ss → ∀ g ∈ gapsFrom pt ss, GrL (2 ^ 341) g ∧ g.length = pt.length
  | _, [], _, _, _, m => nomatch m
  | pt, s :: r, hp, ⟨h1, h2⟩, g, m => by
    rcases List.mem_cons.mp m with e | m
    · rw [e]
      refine ⟨(subL_gr h1.2.2.1 hp).mono (by decide), ?_⟩
      rw [subL_len, h1.1]
      omega
    · have := gaps_gr h1.2.2.1 h2 g m
      rw [h1.1] at this
      exact this
/-- the greatest is none of them less -/
theorem long_step (gs : List Rat) : ∀ a : Rat, 0 ≤ a → a ≤ gs.foldl (fun a g => if a < rabs g then rabs g else a) a ∧ ∀ g ∈ gs, rabs g ≤ gs.foldl (fun a g => if a < rabs g then rabs g else a) a := by
  induction gs with
  | nil => exact fun a _ => ⟨by show a ≤ a; grind, fun g m => nomatch m⟩
  | cons g r ih =>
    intro a ha
    have hb : a ≤ (if a < rabs g then rabs g else a) ∧ rabs g ≤ (if a < rabs g then rabs g else a) := by
      split
      · rename_i h
        exact ⟨by grind, by grind⟩
      · rename_i h
        exact ⟨by grind, by grind⟩
    obtain ⟨i1, i2⟩ := ih _ (by grind : 0 ≤ (if a < rabs g then rabs g else a))
    refine ⟨by rw [List.foldl_cons]; grind, fun x m => ?_⟩
    rw [List.foldl_cons]
    rcases List.mem_cons.mp m with e | m
    · rw [e]
      grind
    · exact i2 x m
theorem rabs_nonneg (q : Rat) : 0 ≤ rabs q := by
  unfold rabs
  split <;> grind
theorem rabs_pos {q : Rat} (h : q ≠ 0) : 0 < rabs q := by
  unfold rabs
  split <;> grind
theorem long_ge {gs : List Rat} {g : Rat} (h : g ∈ gs) : rabs g ≤ longM gs := (long_step gs 0 (by grind)).2 g h
theorem long_nonneg (gs : List Rat) : 0 ≤ longM gs := (long_step gs 0 (by grind)).1
theorem long_prop {P : Rat → Prop} (gs : List Rat) (h0 : P 0) (h : ∀ g ∈ gs, P (rabs g)) : P (longM gs) := by
  unfold longM
  have key : ∀ (gs : List Rat) (a : Rat), P a → (∀ g ∈ gs, P (rabs g)) → P (gs.foldl (fun a g => if a < rabs g then rabs g else a) a) := fun gs => by
    induction gs with
    | nil => exact fun a h _ => h
    | cons g r ih =>
      intro a ha hr
      rw [List.foldl_cons]
      refine ih _ ?_ fun x m => hr x (List.mem_cons_of_mem _ m)
      split
      · exact hr g List.mem_cons_self
      · exact ha
  exact key gs 0 h0 h
theorem subL_ne {xs ys : List Rat} (hl : xs.length = ys.length) (h : xs ≠ ys) : ∃ g ∈ subL xs ys, g ≠ 0 := by
  induction xs generalizing ys with
  | nil =>
    cases ys with
    | nil => exact absurd rfl h
    | cons _ _ => cases hl
  | cons x xs ih =>
    cases ys with
    | nil => cases hl
    | cons y ys =>
      by_cases e : x = y
      · subst e
        obtain ⟨g, m, hg⟩ := ih (by simpa using hl) (fun z => h (by rw [z]))
        exact ⟨g, List.mem_cons_of_mem _ m, hg⟩
      · exact ⟨x - y, List.mem_cons_self, by grind⟩
theorem gaps_pos : ∀ {pt : List Rat} {ss : List StepR}, chainOk pt ss → ∀ g ∈ gapsFrom pt ss, 0 < longM g
  | _, [], _, _, m => nomatch m
  | pt, s :: r, ⟨h1, h2⟩, g, m => by
    rcases List.mem_cons.mp m with e | m
    · rw [e]
      obtain ⟨x, hx, h0⟩ := subL_ne h1.1 h1.2.1
      have := long_ge hx
      have := rabs_pos h0
      grind
    · exact gaps_pos h2 g m
/-- pair by pair -/
theorem all2_pair {f : Rat → Rat → Rat} : ∀ {a b : List Rat} {ys : List D}, All2 (fun x y => ∀ p g : Rat, x = .tup [fr p, fr g] → y = fr (f p g)) (pairD (frs a) (frs b)) ys → ys = frs (List.zipWith f a b)
  | [], b, ys, h => by
    change All2 _ [] ys at h
    cases h
    simp [frs]
  | x :: a, [], ys, h => by
    change All2 _ [] ys at h
    cases h
    simp [frs]
  | x :: a, y :: b, ys, h => by
    have h : All2 _ (.tup [fr x, fr y] :: pairD (frs a) (frs b)) ys := h
    cases h with
    | cons r1 r2 =>
      rw [r1 x y rfl, all2_pair r2]
      rfl
/-- one by one -/
theorem all2_one {f : Rat → D} : ∀ {a : List Rat} {ys : List D}, All2 (fun x y => ∀ p : Rat, x = fr p → y = f p) (frs a) ys → ys = a.map f
  | [], ys, h => by
    cases h
    rfl
  | x :: a, ys, h => by
    have h : All2 _ (fr x :: frs a) ys := h
    cases h with
    | cons r1 r2 =>
      rw [r1 x rfl, all2_one r2]
      rfl
theorem all2_any {α : Type} {g : α → D} {f : α → D} : ∀ {a : List α} {ys : List D}, All2 (fun x y => ∀ p : α, p ∈ a → x = g p → y = f p) (a.map g) ys → ys = a.map f := fun {a} => by
  have key : ∀ (b a : List α), (∀ x ∈ a, x ∈ b) → ∀ ys : List D, All2 (fun x y => ∀ p : α, p ∈ b → x = g p → y = f p) (a.map g) ys → ys = a.map f := fun b a => by
    induction a with
    | nil =>
      intro _ ys h
      cases h
      rfl
    | cons x a ih =>
      intro hb ys h
      have h : All2 _ (g x :: a.map g) ys := h
      cases h with
      | cons r1 r2 =>
        rw [r1 x (hb x List.mem_cons_self) rfl, ih (fun y m => hb y (List.mem_cons_of_mem _ m)) _ r2]
        rfl
  exact fun {ys} h => key a a (fun _ m => m) ys h
theorem all2_range {R : D → D → Prop} {n : Nat} {ys : List D} (h : All2 R (rangeD 0 n) ys) (f : Nat → D) (k : ∀ (i : Nat) (y : D), i < n → R (.int (0 + i)) y → y = f i) : ys = (List.range n).map f := by
  unfold rangeD at h
  have key : ∀ (xs : List Nat) (ys : List D), (∀ i ∈ xs, i < n) → All2 R (xs.map fun (k : Nat) => D.int (0 + (k : Int))) ys → ys = xs.map f := fun xs => by
    induction xs with
    | nil =>
      intro ys _ h
      cases h
      rfl
    | cons i xs ih =>
      intro ys hx h
      have h : All2 R (D.int (0 + (i : Int)) :: xs.map fun (k : Nat) => D.int (0 + (k : Int))) ys := h
      cases h with
      | cons r1 r2 =>
        rw [k i _ (hx i List.mem_cons_self) r1, ih _ (fun j m => hx j (List.mem_cons_of_mem _ m)) r2]
        rfl
  exact key _ _ (fun i m => List.mem_range.mp m) h
theorem trail_len (p : ProgR) : (trailM p).length = p.steps.length + 1 := by simp [trailM]
theorem trail_gr {p : ProgR} (h : OkP p) : ∀ g ∈ trailM p, GrL (2 ^ 340) g ∧ g.length = p.start.length := by
  intro g m
  rcases List.mem_cons.mp m with e | m
  · rw [e]
    exact ⟨h.grid, rfl⟩
  · have key : ∀ (pt : List Rat) (ss : List StepR), chainOk pt ss → ∀ g ∈ ss.map StepR.goal, GrL (2 ^ 340) g ∧ g.length = pt.length := fun pt ss => by
      induction ss generalizing pt with
      | nil => exact fun _ g m => nomatch m
      | cons s r ih =>
        intro hc g m
        rcases List.mem_cons.mp m with e | m
        · rw [e]
          exact ⟨hc.1.2.2.1, hc.1.1⟩
        · have := ih _ hc.2 g m
          rw [hc.1.1] at this
          exact this
    exact key _ _ h.chain g m
/-! ### programs judged -/
def stepFault (pt : List Rat) : D → D
  | .tup [goal, feed, slow, stop] =>
    if isPoint pt.length goal = false ∨ peq goal (ptD pt) = true then .tup [.int 0]
    else if isAbove feed = false then .tup [.int 1]
    else if isAmount slow = false ∨ unfr feed < unfr slow then .tup [.int 2]
    else if isBool stop = true then .non else .tup [.int 3]
  | _ => .tup []
def goalOf : D → List Rat
  | .tup (.tup xs :: _) => xs.map unfr
  | _ => []
def faultGo (pt : List Rat) : Nat → List D → D
  | _, [] => .non
  | k, s :: r => match stepFault pt s with
    | .tup xs => .tup ([.int 1, .int k] ++ xs)
    | _ => faultGo (goalOf s) (k + 1) r
def stepsFault (pt : List Rat) : D → D
  | .tup ss => if 1 ≤ ss.length ∧ ss.length ≤ 30 then faultGo pt 0 ss else .tup [.int 1]
  | _ => .tup [.int 1]
def progFault : D → D
  | .tup [.tup ps, steps] => if 1 ≤ ps.length ∧ ps.length ≤ 3 ∧ ps.all isFr = true then stepsFault (ps.map unfr) steps else .tup [.int 0]
  | .tup [_, _] => .tup [.int 0]
  | _ => .tup []
theorem all_fr (xs : List Rat) : (frs xs).all isFr = true := by
  rw [List.all_eq_true]
  intro x m
  obtain ⟨q, _, rfl⟩ := List.mem_map.mp m
  exact isFr_fr q
theorem isPoint_pt (xs : List Rat) : isPoint xs.length (ptD xs) = true := by
  unfold isPoint ptD
  simp only [Bool.and_eq_true, decide_eq_true_eq]
  exact ⟨by rw [frs_len], all_fr xs⟩
theorem stepFault_ok {pt : List Rat} {s : StepR} (h : stepOk pt s) : stepFault pt (stepD s) = .non := by
  obtain ⟨h1, h2, _, h4, _, h6, h7, _⟩ := h
  have e1 : isPoint pt.length (ptD s.goal) = true := by
    rw [← h1]
    exact isPoint_pt _
  have e2 : peq (ptD s.goal) (ptD pt) = false := by
    rw [peq_ptD]
    exact decide_eq_false h2
  have e3 : isAbove (fr s.feed) = true := by
    unfold isAbove
    rw [isFr_fr, unfr_fr, decide_eq_true h4]
    rfl
  have e4 : isAmount (fr s.slow) = true := by
    unfold isAmount
    rw [isFr_fr, unfr_fr, decide_eq_false (by grind)]
    rfl
  have e5 : ¬ unfr (fr s.feed) < unfr (fr s.slow) := by
    rw [unfr_fr, unfr_fr]
    grind
  unfold stepFault stepD
  simp [e1, e2, e3, e4, e5, isBool]
theorem goalOf_step (s : StepR) : goalOf (stepD s) = s.goal := by
  unfold goalOf stepD ptD
  exact unfr_frs s.goal
theorem faultGo_ok : ∀ {pt : List Rat} {ss : List StepR} (k : Nat), chainOk pt ss → faultGo pt k (ss.map stepD) = .non
  | _, [], _, _ => rfl
  | pt, s :: r, k, ⟨h1, h2⟩ => by
    rw [List.map_cons, faultGo, stepFault_ok h1, goalOf_step]
    exact faultGo_ok (k + 1) h2
theorem progFault_ok {p : ProgR} (h : OkP p) : progFault (progD p) = .non := by
  unfold progFault progD ptD stepsFault
  simp only [frs_len, List.length_map]
  rw [if_pos ⟨h.axes.1, h.axes.2, all_fr _⟩, if_pos h.many, unfr_frs]
  exact faultGo_ok 0 h.chain
def enumFrom (j : Int) : List D → List D
  | [] => []
  | x :: xs => .tup [.int j, x] :: enumFrom (j + 1) xs
theorem rangeD_succ (lo : Int) (n : Nat) : rangeD lo (n + 1) = .int lo :: rangeD (lo + 1) n := by
  unfold rangeD
  rw [List.range_succ_eq_map, List.map_cons, List.map_map]
  congr 1
  · show D.int (lo + 0) = _
    rw [Int.add_zero]
  · apply List.map_congr_left
    intro i _
    show D.int (lo + ((i + 1 : Nat) : Int)) = .int (lo + 1 + (i : Int))
    congr 1
    omega
theorem enum_from (xs : List D) : ∀ j : Int, pairD (rangeD j xs.length) xs = enumFrom j xs := by
  induction xs with
  | nil => intro j; simp [pairD, enumFrom]
  | cons x xs ih =>
    intro j
    rw [List.length_cons, rangeD_succ]
    show D.tup [.int j, x] :: pairD (rangeD (j + 1) xs.length) xs = _
    rw [ih]
    rfl
theorem enumD_from (xs : List D) : enumD xs = enumFrom 0 xs := enum_from xs 0
theorem stepFault_cases (pt : List Rat) (s : D) : stepFault pt s = .non ∨ ∃ xs, stepFault pt s = .tup xs ∧ xs.length ≤ 1 := by
  unfold stepFault
  split
  · split
    · exact .inr ⟨_, rfl, by decide⟩
    · split
      · exact .inr ⟨_, rfl, by decide⟩
      · split
        · exact .inr ⟨_, rfl, by decide⟩
        · split
          · exact .inl rfl
          · exact .inr ⟨_, rfl, by decide⟩
  · exact .inr ⟨_, rfl, by decide⟩
theorem isPoint_el {n : Int} {d : D} (h : isPoint n d = true) : ∃ xs : List Rat, d = ptD xs := by
  unfold isPoint at h
  split at h
  · rename_i xs
    simp only [Bool.and_eq_true, List.all_eq_true] at h
    obtain ⟨qs, e⟩ := frs_of fun x m => isFr_el (h.2 x m)
    exact ⟨qs, by rw [e]; rfl⟩
  · cases h
theorem stepFault_non {pt : List Rat} {s : D} (h : stepFault pt s = .non) : ∃ (g : List Rat) (r : List D), s = .tup (ptD g :: r) ∧ goalOf s = g := by
  unfold stepFault at h
  split at h
  · rename_i goal feed slow stop
    split at h
    · cases h
    · rename_i z
      rcases bcases (isPoint pt.length goal) with e | e
      · obtain ⟨g, rfl⟩ := isPoint_el e
        exact ⟨g, _, rfl, unfr_frs g⟩
      · exact absurd (Or.inl e) z
  · cases h
theorem progFault_len {ys : List D} (h : ys.length ≠ 2) : progFault (.tup ys) = .tup [] := by
  cases ys with
  | nil => rfl
  | cons a r =>
    cases r with
    | nil => cases a <;> rfl
    | cons b t =>
      cases t with
      | nil => exact absurd rfl h
      | cons c u => cases a <;> rfl
theorem smlL_of {xs : List D} (h : ∀ x ∈ xs, sml x) : smlL xs := by
  induction xs with
  | nil => simp [smlL]
  | cons x xs ih =>
    simp only [smlL]
    exact ⟨h x List.mem_cons_self, ih fun y m => h y (List.mem_cons_of_mem _ m)⟩
theorem okD_of {xs : List D} (hl : xs.length ≤ 1000) (h : ∀ x ∈ xs, short 39 x = true ∧ sml x) : okD (.tup xs) := by
  refine ⟨?_, ?_⟩
  · simp only [short, Bool.and_eq_true, decide_eq_true_eq]
    exact ⟨hl, shortL_of fun x m => (h x m).1⟩
  · simp only [sml]
    exact smlL_of fun x m => (h x m).2
theorem short_pt (n : Nat) {xs : List Rat} (hl : xs.length ≤ 1000) : short (n + 3) (ptD xs) = true := by
  unfold ptD
  simp only [short, Bool.and_eq_true, decide_eq_true_eq]
  refine ⟨by rw [frs_len]; exact hl, shortL_of fun x m => ?_⟩
  obtain ⟨q, _, rfl⟩ := List.mem_map.mp m
  exact short_fr n q
theorem sml_fr {n : Nat} {q : Rat} (h : Sz n q) (k : n ≤ 4000) : sml (fr q) := (okD_fr h k).2
theorem sml_pt {xs : List Rat} (h : GrL (2 ^ 340) xs) : sml (ptD xs) := by
  unfold ptD
  simp only [sml]
  refine smlL_of fun x m => ?_
  obtain ⟨q, mq, rfl⟩ := List.mem_map.mp m
  exact sml_fr ((h q mq).sz (by decide)) (by decide)
theorem ok_steps : ∀ {pt : List Rat} {ss : List StepR}, pt.length ≤ 3 → chainOk pt ss → ∀ s ∈ ss, s.goal.length ≤ 3 ∧ GrL (2 ^ 340) s.goal ∧ Sz 300 s.feed ∧ Sz 340 s.slow
  | _, [], _, _, _, m => nomatch m
  | pt, t :: r, hl, ⟨h1, h2⟩, s, m => by
    rcases List.mem_cons.mp m with e | m
    · rw [e]
      exact ⟨by rw [h1.1]; exact hl, h1.2.2.1, h1.2.2.2.2.1, h1.2.2.2.2.2.2.2⟩
    · exact ok_steps (by rw [h1.1]; exact hl) h2 s m
theorem okD_prog {p : ProgR} (h : OkP p) : okD (progD p) := by
  have hm := h.many
  have ha := h.axes
  refine okD_of (by show 2 ≤ 1000; decide) fun x m => ?_
  have e : x = ptD p.start ∨ x = .tup (p.steps.map stepD) := by simpa using m
  rcases e with rfl | rfl
  · exact ⟨short_pt 36 (by omega), sml_pt h.grid⟩
  · have key : ∀ s ∈ p.steps, short 38 (stepD s) = true ∧ sml (stepD s) := fun s ms => by
      obtain ⟨h1, h2, h3, h4⟩ := ok_steps ha.2 h.chain s ms
      unfold stepD
      simp only [short, shortL, sml, smlL, Bool.and_eq_true, decide_eq_true_eq, List.length_cons, List.length_nil]
      exact ⟨⟨by decide, short_pt 34 (by omega), short_fr 35 _, short_fr 35 _, trivial, trivial⟩, sml_pt h2, sml_fr h3 (by decide), sml_fr h4 (by decide), trivial, trivial⟩
    refine ⟨?_, ?_⟩
    · simp only [short, Bool.and_eq_true, decide_eq_true_eq, List.length_map]
      refine ⟨by omega, shortL_of fun x m => ?_⟩
      obtain ⟨s, ms, rfl⟩ := List.mem_map.mp m
      exact (key s ms).1
    · simp only [sml]
      refine smlL_of fun x m => ?_
      obtain ⟨s, ms, rfl⟩ := List.mem_map.mp m
      exact (key s ms).2
/-! ### repr of programs -/
mutual
/-- all ints below 2 ^ 400 -/
def tiny4 : D → Prop
  | .int i => i.natAbs < 2 ^ 400
  | .tup xs => tiny4L xs
  | .lst xs => tiny4L xs
  | _ => True
def tiny4L : List D → Prop
  | [] => True
  | x :: xs => tiny4 x ∧ tiny4L xs
end
mutual
theorem show4 : ∀ (n : Nat) (d : D), short n d = true → tiny4 d → (toPy d).showable = true
  | 0, _, h, _ => by simp [short] at h
  | n + 1, .ins _ _ _, h, _ => by simp [short] at h
  | n + 1, .non, _, _ => by simp [toPy, PyData.showable]
  | n + 1, .bl _, _, _ => by simp [toPy, PyData.showable]
  | n + 1, .str _, _, _ => by simp [toPy, PyData.showable]
  | n + 1, .int i, _, h => by
    simp only [tiny4] at h
    simp only [toPy, PyData.showable, decide_eq_true_eq]
    exact log_lt h (by decide)
  | n + 1, .tup xs, h, k => by
    simp only [short, Bool.and_eq_true] at h
    simp only [tiny4] at k
    simp only [toPy, PyData.showable]
    exact showL n xs h.2 k
  | n + 1, .lst xs, h, k => by
    simp only [short, Bool.and_eq_true] at h
    simp only [tiny4] at k
    simp only [toPy, PyData.showable]
    exact showL n xs h.2 k
theorem showL : ∀ (n : Nat) (ds : List D), shortL n ds = true → tiny4L ds → PyData.showableAll (toPyL ds) = true
  | _, [], _, _ => by simp [toPyL, PyData.showableAll]
  | n, x :: xs, h, k => by
    simp only [shortL, Bool.and_eq_true] at h
    simp only [tiny4L] at k
    simp only [toPyL, PyData.showableAll, Bool.and_eq_true]
    exact ⟨show4 n x h.1 k.1, showL n xs h.2 k.2⟩
end
theorem tiny4L_of {xs : List D} (h : ∀ x ∈ xs, tiny4 x) : tiny4L xs := by
  induction xs with
  | nil => simp [tiny4L]
  | cons x xs ih =>
    simp only [tiny4L]
    exact ⟨h x List.mem_cons_self, ih fun y m => h y (List.mem_cons_of_mem _ m)⟩
theorem tiny4_fr {n : Nat} {q : Rat} (h : Sz n q) (k : n ≤ 400) : tiny4 (fr q) := by
  have h := h.mono k
  simp only [fr, tiny4, tiny4L]
  exact ⟨h.1, by have := h.2; omega, trivial⟩
theorem tiny4_pt {xs : List Rat} (h : GrL (2 ^ 340) xs) : tiny4 (ptD xs) := by
  unfold ptD
  simp only [tiny4]
  refine tiny4L_of fun x m => ?_
  obtain ⟨q, mq, rfl⟩ := List.mem_map.mp m
  exact tiny4_fr ((h q mq).sz (by decide)) (by decide)
theorem costL_le {c : Nat} {xs : List D} (h : ∀ x ∈ xs, cost x ≤ c) : costL xs ≤ xs.length * (c + 2) := by
  induction xs with
  | nil => simp [costL]
  | cons x xs ih =>
    have h1 := h x List.mem_cons_self
    have h2 := ih fun y m => h y (List.mem_cons_of_mem _ m)
    simp only [costL, List.length_cons, Nat.succ_mul]
    omega
theorem cost_fr {n : Nat} {q : Rat} (h : Sz n q) (n1 : 1 ≤ n) (k : n ≤ 400) : cost (fr q) ≤ 820 := by
  have h := h.mono k
  have a := log_lt (m := 401) h.1 (by decide)
  have b := log_lt (m := 401) h.den (by decide)
  simp only [fr, cost, costL]
  omega
theorem cost_pt {xs : List Rat} (hl : xs.length ≤ 3) (h : GrL (2 ^ 340) xs) : cost (ptD xs) ≤ 2500 := by
  unfold ptD
  simp only [cost]
  have := costL_le (c := 820) (xs := frs xs) fun x m => by
    obtain ⟨q, mq, rfl⟩ := List.mem_map.mp m
    exact cost_fr ((h q mq).sz (by decide)) (by decide) (by decide)
  rw [frs_len] at this
  have : xs.length * 822 ≤ 3 * 822 := Nat.mul_le_mul_right _ hl
  omega
theorem tiny4_prog {p : ProgR} (h : OkP p) : tiny4 (progD p) ∧ cost (progD p) ≤ 10000000 := by
  have hm := h.many
  have ha := h.axes
  have hs := ok_steps ha.2 h.chain
  have c0 := cost_pt ha.2 h.grid
  have cs : ∀ x ∈ p.steps.map stepD, cost x ≤ 5000 := fun x m => by
    obtain ⟨s, ms, rfl⟩ := List.mem_map.mp m
    obtain ⟨h1, h2, h3, h4⟩ := hs s ms
    have a := cost_pt h1 h2
    have b := cost_fr h3 (by decide) (by decide)
    have c := cost_fr h4 (by decide) (by decide)
    simp only [stepD, cost, costL]
    omega
  have cl := costL_le cs
  rw [List.length_map] at cl
  have : p.steps.length * 5002 ≤ 30 * 5002 := Nat.mul_le_mul_right _ hm.2
  refine ⟨?_, ?_⟩
  · unfold progD
    simp only [tiny4, tiny4L]
    refine ⟨tiny4_pt h.grid, tiny4L_of fun x m => ?_, trivial⟩
    obtain ⟨s, ms, rfl⟩ := List.mem_map.mp m
    obtain ⟨h1, h2, h3, h4⟩ := hs s ms
    simp only [stepD, tiny4, tiny4L]
    exact ⟨tiny4_pt h2, tiny4_fr h3 (by decide), tiny4_fr h4 (by decide), trivial, trivial⟩
  · simp only [progD, cost, costL]
    omega
theorem repr_prog {p : ProgR} (h : OkP p) {Q : D → Prop} (q : Q (.str (reprD (progD p)))) : bRepr [progD p] Q := by
  have ok := okD_prog h
  obtain ⟨t, c⟩ := tiny4_prog h
  exact ⟨ok.plain, show4 40 _ ok.1 t, Nat.le_trans (shown_cost 40 _ ok.plain) c, q⟩
/-! ### parts of the greatest -/
theorem div_lt_div {a b c : Rat} (h : 0 < c) : a / c < b / c ↔ a < b := by
  rw [Rat.div_def, Rat.div_def]
  exact Rat.mul_lt_mul_right (Rat.inv_pos.mpr h)
theorem rabs_div {g c : Rat} (h : 0 < c) : rabs (g / c) = rabs g / c := by
  have z : (0 : Rat) / c = 0 := by grind
  have e : g / c < 0 ↔ g < 0 := by
    rw [← div_lt_div (a := g) (b := 0) h, z]
  unfold rabs
  by_cases k : g < 0
  · rw [if_pos k, if_pos (e.mpr k)]
    grind
  · rw [if_neg k, if_neg (fun q => k (e.mp q))]
theorem long_div {c : Rat} (h : 0 < c) (gs : List Rat) : longM (gs.map fun x => x / c) = longM gs / c := by
  have key : ∀ (gs : List Rat) (a : Rat), (gs.map fun x => x / c).foldl (fun a g => if a < rabs g then rabs g else a) (a / c) = gs.foldl (fun a g => if a < rabs g then rabs g else a) a / c := fun gs => by
    induction gs with
    | nil => exact fun _ => rfl
    | cons g r ih =>
      intro a
      rw [List.map_cons, List.foldl_cons, List.foldl_cons, rabs_div h, ← ih]
      congr 1
      by_cases k : a < rabs g
      · rw [if_pos k, if_pos ((div_lt_div h).mpr k)]
      · rw [if_neg k, if_neg (fun q => k ((div_lt_div h).mp q))]
  have z : (0 : Rat) / c = 0 := by grind
  have := key gs 0
  rw [z] at this
  exact this
theorem long_head {g : List Rat} (h : 0 < longM g) : longM (headM g) = 1 := by
  unfold headM
  rw [long_div h]
  grind
end DL
set_option linter.all false
set_option autoImplicit false
set_option maxHeartbeats 4000000
set_option maxRecDepth 100000
/-! More words: long assignments, max and min of a list, in, ranges with a step. -/
namespace DL
open PySem PySem.Spec PyProof.Rows L2
/-! ### readings -/
def bMaxL : OpN
  | [.lst xs], Q => match intsD xs with
    | some ns => ns ≠ [] ∧ ∀ m ∈ ns, (∀ y ∈ ns, y ≤ m) → Q (.int m)
    | none => False
  | _, _ => False
theorem room65 {k : Nat} {A : Around} (r : L2.Room k A) : A.units + 65 < cLine := by
  have := r.un
  omega
def bIn : Op2
  | x, .lst ys, Q => plain 40 x = true ∧ plain 40 (.lst ys) = true ∧ Q (.bl (ys.any fun z => peq z x))
  | _, _, _ => False
def bNotIn : Op2
  | x, .lst ys, Q => plain 40 x = true ∧ plain 40 (.lst ys) = true ∧ Q (.bl (!ys.any fun z => peq z x))
  | _, _, _ => False
/-- range(a, b, -1) -/
def downD (lo : Int) (n : Nat) : List D := (List.range n).map fun (k : Nat) => D.int (lo - (k : Int))
section
variable {Z : SrcK} {X : Cx} {E : L2.St → XK} {K : PySem.W.Frag} {a b e : Expr} {w : EW} {pos : Pos} {c : Cfg} {F H F' H' : Hp} {σ : L2.St} {ρ : Env}
theorem lcb_maxL : LCB K (rMax K) bMaxL := fun F H ds vs Qd Qv s r z q => by
  unfold bMaxL at z
  split at z
  · obtain ⟨v, rfl, a, ws, rfl, h2, h3⟩ := repL_1 r
    split at z
    · rename_i bs hb
      have e := intsD_rep h3 hb
      subst e
      obtain ⟨z1, z2⟩ := z
      exact ⟨a, bs, rfl, same_l s h2, List.length_pos_iff.mpr z1, fun m hm hy => q _ _ F H (z2 m hm hy) (Ext.refl s) rfl⟩
    · exact z.elim
  · exact z.elim
mutual
theorem plain_up : ∀ (n : Nat) (d : D), plain n d = true → plain (n + 1) d = true
  | 0, _, h => by simp [plain] at h
  | _ + 1, .non, _ => by simp [plain]
  | _ + 1, .bl _, _ => by simp [plain]
  | _ + 1, .int _, _ => by simp [plain]
  | _ + 1, .str s, h => by
    simp only [plain] at h ⊢
    exact h
  | n + 1, .tup xs, h => by
    simp only [plain] at h ⊢
    exact plainL_up n xs h
  | n + 1, .lst xs, h => by
    simp only [plain] at h ⊢
    exact plainL_up n xs h
  | _ + 1, .ins _ _ _, h => by simp [plain] at h
theorem plainL_up : ∀ (n : Nat) (ds : List D), plainL n ds = true → plainL (n + 1) ds = true
  | _, [], _ => by simp [plainL]
  | n, x :: xs, h => by
    simp only [plainL, Bool.and_eq_true] at h ⊢
    exact ⟨plain_up n x h.1, plainL_up n xs h.2⟩
end
theorem toPyL_any (x : D) (hx : plain 40 x = true) : ∀ {ys : List D}, plainL 39 ys = true → ((toPyL ys).any fun z => PyData.eqv z (toPy x)) = ys.any fun z => peq z x
  | [], _ => rfl
  | y :: ys, h => by
    simp only [plainL, Bool.and_eq_true] at h
    rw [toPyL, List.any_cons, List.any_cons, toPyL_any x hx h.2]
    congr 1
    exact eqv_peq 40 _ _ (plain_up _ _ h.1) hx
theorem lop_in : LOp K (rInD K) bIn := fun F H dx dy vx vy Qd Qv s rx ry z q => by
  unfold bIn at z
  split at z
  · rename_i x ys
    obtain ⟨h1, h2, h3⟩ := z
    refine ⟨toPy _, toPyL ys, rep_dp s _ _ _ h1 rx, rep_dp s _ _ _ h2 ry, plain_shaped h1, plain_shaped h2, ?_⟩
    rw [toPyL_any _ h1 (by simpa only [plain] using h2)]
    exact q _ _ F H h3 (Ext.refl s) rfl
  · exact z.elim
theorem lop_notIn : LOp K (rNotInD K) bNotIn := fun F H dx dy vx vy Qd Qv s rx ry z q => by
  unfold bNotIn at z
  split at z
  · rename_i x ys
    obtain ⟨h1, h2, h3⟩ := z
    refine ⟨toPy _, toPyL ys, rep_dp s _ _ _ h1 rx, rep_dp s _ _ _ h2 ry, plain_shaped h1, plain_shaped h2, ?_⟩
    rw [toPyL_any _ h1 (by simpa only [plain] using h2)]
    exact q _ _ F H h3 (Ext.refl s) rfl
  · exact z.elim
/-! ### a, b, .. = x, y, .. by a tuple that is made and taken apart -/
theorem EnvOk.layO {o : HO} {p : Addr} (e : EnvOk Z K c F H σ ρ) (hp : H p = none) : EnvOk Z K c F (upd H p o) σ ρ where
  len := e.len
  slot := fun i s h => by
    obtain ⟨v, h1, h2⟩ := e.slot i s h
    refine ⟨v, h1, ?_⟩
    cases s with
    | own ys =>
      obtain ⟨a, ws, r1, r2, r3, r4, r5⟩ := h2
      exact ⟨a, ws, r1, r2, r3, by rw [upd_ne (ne_of_none r4 hp)]; exact r4, r5⟩
    | un => trivial
    | d y => exact h2
    | src => exact h2
    | obj px C fs => exact obj_kx h2 (Same.refl _) (fun a u z _ _ => by rw [upd_ne (ne_of_none z hp)]; exact z) fun b z => .inl z
  sep := e.sep
  fh := fun b u h => by
    rw [upd_ne (ne_of_none (e.fh b u h) hp)]
    exact e.fh b u h
  f0 := e.f0
  new := e.new
  keep := fun b u h hb => by
    rw [upd_ne (ne_of_none (e.keep b u h hb) hp)]
    exact e.keep b u h hb
  all := fun b h => by
    obtain ⟨u, h2⟩ := ne_some (e.all b h)
    rw [upd_ne (ne_of_none h2 hp), h2]
    simp
  src := fun a fp h => by
    obtain ⟨p1, q⟩ := e.src a fp h
    refine ⟨Z.loc p1 fun b hb => ?_, q⟩
    obtain ⟨u, h2⟩ := ne_some ((Z.tr p1).2 b hb)
    rw [upd_ne (ne_of_none h2 hp)]
theorem ArgsOo.layO {o : HO} {p : Addr} {F Ha H : Hp} (hp : H p = none) : ∀ {ss : List SV} {vs : List V}, ArgsOo K c F H Ha ss vs → ArgsOo K c F (upd H p o) Ha ss vs
  | [], _, h => h
  | s :: r, vs, h => by
    obtain ⟨v, t, e1, e2, e3, e4⟩ := h
    refine ⟨v, t, e1, ?_, e3, ArgsOo.layO hp e4⟩
    cases s with
    | own ys =>
      obtain ⟨a, ws, r1, r2, r3, r4, r5⟩ := e2
      exact ⟨a, ws, r1, r2, r3, by rw [upd_ne (ne_of_none r4 hp)]; exact r4, r5⟩
    | un => trivial
    | d y => exact e2
    | src => exact e2
    | obj px C fs => exact obj_kx e2 (Same.refl _) (fun a u z _ _ => by rw [upd_ne (ne_of_none z hp)]; exact z) fun b z => .inl z
/-- names as targets, one after another -/
def gNames : List Nat → TGs
  | [] => gNil
  | i :: is => gCons (gName i) (gNames is)
theorem gNames_fold : ∀ {is : List Nat} {vs : List V} {σ : L2.St} {H : Hp} {Q : L2.St → Hp → Prop}, vs.length = is.length → Q ((is.zip vs).foldl (fun s p => s.set p.1 (some p.2)) σ) H → gNames is vs σ H Q
  | [], vs, σ, H, Q, hl, q => by
    have : vs = [] := List.eq_nil_of_length_eq_zero hl
    subst this
    exact ⟨rfl, q⟩
  | i :: is, [], _, _, _, hl, _ => by cases hl
  | i :: is, v :: vs, σ, H, Q, hl, q => ⟨v, vs, rfl, gNames_fold (is := is) (by simpa using hl) q⟩
theorem ds_parT {ts es : List Expr} {kt k2 : Nat} {pt pt2 : Pos} {ws : AW} (is : List Nat) (ha : DAo Z X E es ws) (hg : PGs X ts (gNames is)) (hn : (assignEach ts X.env).length = is.length := by rfl) (hsm : is.length ≤ 100 := by decide) (hc : X.calm = true := by rfl) (hst : (assignEach ts X.env).findIdx? (·.1) = none := by rfl)
    (hs : swapsWithSole [.Tuple ts kt pt] (.Tuple es k2 pt2) pos.line X.env = pure false := by rfl) (hw : swappedStores [.Tuple ts kt pt] (.Tuple es k2 pt2) X.env = pure none := by rfl) (h1 : (assignEach [.Tuple ts kt pt] X.env).map (·.2) = [assign (.Tuple ts kt pt) X.env] := by rfl) :
    DS Z X E (.Assign [.Tuple ts kt pt] (.Tuple es k2 pt2) pos) (sPar is ws) := by
  obtain ⟨t, p, l⟩ := ha
  refine ⟨_, ps_asg (pe_tup p) (pg_tup (n := is.length) hc hg hn hst) hs hw h1, fun c F H σ ρ Xd DD D e k h q => ?_⟩
  refine l c F H σ ρ Xd _ _ e k h fun ss vs F1 H1 h1 e1 s1 n1 r1 => ?_
  cases z : setAll is ss ρ with
  | none => rw [z] at h1; exact h1.elim
  | some ρ' =>
    rw [z] at h1
    have hl := r1.len.trans (setAll_len z)
    refine ⟨by rw [hl]; exact Nat.le_trans hsm (by decide), fun pa hpa => ⟨pa, vs, rfl, .inl (.inl upd_same), hl, gNames_fold hl ?_⟩⟩
    refine q.nx _ _ F1 _ h1 (setAll_env z (r1.layO hpa) (e1.layO hpa) fun j ys b hj hb i zs hi => ?_) s1 (n1.nx.trans fun b hb => ?_)
    · exact e.notOwn (xs := []) (r1.fresh j ys b hj hb) hi
    · by_cases hbp : b = pa
      · rw [hbp, upd_same]
        simp
      · rw [upd_ne hbp]
        exact hb
end
end DL
set_option linter.all false
set_option autoImplicit false
set_option maxHeartbeats 4000000
set_option maxRecDepth 100000
set_option exponentiation.threshold 20000
/-! Loops and comprehensions over what is mapped to data. -/
namespace DL
open PySem PySem.Spec PyProof.Rows L2
section
variable {α : Type} {g : GW} {a : EW} {t : TW} {b : SW} {ρ : Env} {Q : List D → Prop} {X : XD} {DD : DEnds} {f : α → D}
theorem compGo_one (h : α → D) : ∀ (xs : List α) (acc : List D), (∀ x ∈ xs, ∀ Q' : D → Prop, Q' (h x) → g (f x) ρ fun ρ' => a X0 ρ' Q') → acc.length + xs.length ≤ 100000 → Q (acc ++ xs.map h) → compGo g tYesW a ρ Q (xs.map f) acc
  | [], acc, _, _, q => by
    rw [List.map_nil, List.append_nil] at q
    exact q
  | x :: r, acc, s, hl, q => by
    rw [List.length_cons] at hl
    show g (f x) ρ fun ρ' => a X0 ρ' fun y => acc.length < 100000 ∧ compGo g tYesW a ρ Q (r.map f) (acc ++ [y])
    refine s x List.mem_cons_self _ ⟨by omega, ?_⟩
    refine compGo_one h r (acc ++ [h x]) (fun y m => s y (List.mem_cons_of_mem _ m)) (by rw [List.length_append, List.length_singleton]; omega) ?_
    rw [List.append_assoc]
    exact q
theorem compGo_fil (p : α → Bool) (h : α → D) : ∀ (xs : List α) (acc : List D), (∀ x ∈ xs, ∀ (Q' : D → Prop) (N : Prop), (p x = true → Q' (h x)) → (p x = false → N) → g (f x) ρ fun ρ' => t X0 ρ' fun k => if k = true then a X0 ρ' Q' else N) → acc.length + xs.length ≤ 100000 →
    Q (acc ++ (xs.filter p).map h) → compGo g t a ρ Q (xs.map f) acc
  | [], acc, _, _, q => by
    rw [List.filter_nil, List.map_nil, List.append_nil] at q
    exact q
  | x :: r, acc, s, hl, q => by
    rw [List.length_cons] at hl
    show g (f x) ρ fun ρ' => t X0 ρ' fun k => if k = true then a X0 ρ' fun y => acc.length < 100000 ∧ compGo g t a ρ Q (r.map f) (acc ++ [y]) else compGo g t a ρ Q (r.map f) acc
    refine s x List.mem_cons_self _ _ (fun e => ⟨by omega, ?_⟩) fun e => ?_
    · refine compGo_fil p h r (acc ++ [h x]) (fun y m => s y (List.mem_cons_of_mem _ m)) (by rw [List.length_append, List.length_singleton]; omega) ?_
      rw [List.filter_cons_of_pos e] at q
      rw [List.append_assoc]
      exact q
    · refine compGo_fil p h r acc (fun y m => s y (List.mem_cons_of_mem _ m)) (by omega) ?_
      rw [List.filter_cons_of_neg (by rw [e]; exact Bool.false_ne_true)] at q
      exact q
theorem forGo_map (I : List α → Env → Prop) (step : ∀ x r ρ, I (x :: r) ρ → ∀ N : Env → Prop, (∀ ρ', I r ρ' → N ρ') → g (f x) ρ fun ρ' => b X { DD with nx := N, ct := N, bk := DD.nx } ρ') (last : ∀ ρ, I [] ρ → DD.nx ρ) : ∀ xs ρ, I xs ρ → forGo g b X DD (xs.map f) ρ
  | [], ρ, h => last ρ h
  | x :: r, ρ, h => step x r ρ h _ fun ρ' h' => forGo_map I step last r ρ' h'
end
theorem pairD_map {α β : Type} {f : α → D} {g : β → D} : ∀ (xs : List α) (ys : List β), pairD (xs.map f) (ys.map g) = (xs.zip ys).map fun p => .tup [f p.1, g p.2]
  | [], ys => by simp [pairD]
  | x :: xs, [] => by simp [pairD]
  | x :: xs, y :: ys => by
    have := pairD_map (f := f) (g := g) xs ys
    unfold pairD at this ⊢
    rw [List.map_cons, List.map_cons, List.zipWith_cons_cons, this]
    rfl
theorem zip3_map {α β γ : Type} {f : α → D} {g : β → D} {h : γ → D} : ∀ (xs : List α) (ys : List β) (zs : List γ), List.zipWith (fun (x : D) (p : D × D) => match p with
    | (y, z) => D.tup [x, y, z]) (xs.map f) ((ys.map g).zip (zs.map h)) = (xs.zip (ys.zip zs)).map fun p => .tup [f p.1, g p.2.1, h p.2.2]
  | [], ys, zs => by simp
  | x :: xs, [], zs => by simp
  | x :: xs, y :: ys, [] => by simp
  | x :: xs, y :: ys, z :: zs => by
    have := zip3_map (f := f) (g := g) (h := h) xs ys zs
    rw [List.map_cons, List.map_cons, List.map_cons, List.zip_cons_cons, List.zipWith_cons_cons, this]
    rfl
theorem frs_map (qs : List Rat) : frs qs = qs.map fr := rfl
/-- the enumerated -/
def numFrom {α : Type} : Int → List α → List (Int × α)
  | _, [] => []
  | k, x :: xs => (k, x) :: numFrom (k + 1) xs
theorem enumD_map {α : Type} {f : α → D} (xs : List α) : enumD (xs.map f) = (numFrom 0 xs).map fun p => .tup [.int p.1, f p.2] := by
  rw [enumD_from]
  have key : ∀ (xs : List α) (k : Int), enumFrom k (xs.map f) = (numFrom k xs).map fun p => .tup [.int p.1, f p.2] := fun xs => by
    induction xs with
    | nil => exact fun _ => rfl
    | cons x xs ih =>
      intro k
      show D.tup [.int k, f x] :: enumFrom (k + 1) (xs.map f) = _
      rw [ih]
      rfl
  exact key xs 0
theorem numFrom_len {α : Type} : ∀ (xs : List α) (k : Int), (numFrom k xs).length = xs.length
  | [], _ => rfl
  | x :: xs, k => by rw [numFrom, List.length_cons, List.length_cons, numFrom_len xs]
/-- for k in range(lo, lo + n) -/
theorem forGo_range {g : GW} {b : SW} {X : XD} {DD : DEnds} {lo : Int} {n : Nat} (I : Nat → Env → Prop) (step : ∀ k ρ, k < n → I k ρ → ∀ N : Env → Prop, (∀ ρ', I (k + 1) ρ' → N ρ') → g (.int (lo + k)) ρ fun ρ' => b X { DD with nx := N, ct := N, bk := DD.nx } ρ')
    (last : ∀ ρ, I n ρ → DD.nx ρ) {ρ : Env} (h : I 0 ρ) : forGo g b X DD (rangeD lo n) ρ := by
  have e : rangeD lo n = (List.range' 0 n).map fun (k : Nat) => D.int (lo + (k : Int)) := by
    unfold rangeD
    rw [List.range_eq_range']
  rw [e]
  refine forGo_map (fun r ρ => ∃ k m, r = List.range' k m ∧ k + m = n ∧ I k ρ) ?_ ?_ _ _ ⟨0, n, rfl, by omega, h⟩
  · rintro x r ρ ⟨k, m, hr, hm, hi⟩ N hN
    cases m with
    | zero => cases hr
    | succ m =>
      rw [List.range'_succ] at hr
      injection hr with h1 h2
      subst h1 h2
      exact step x ρ (by omega) hi N fun ρ' h' => hN ρ' ⟨x + 1, m, rfl, by omega, h'⟩
  · rintro ρ ⟨k, m, hr, hm, hi⟩
    cases m with
    | zero =>
      have hk : k = n := by omega
      rw [hk] at hi
      exact last ρ hi
    | succ m =>
      rw [List.range'_succ] at hr
      cases hr
theorem plain_ints {α : Type} (f : α → Int) (xs : List α) : plain 40 (.lst (xs.map fun x => .int (f x))) = true := by
  simp only [plain]
  induction xs with
  | nil => simp [plainL]
  | cons x xs ih =>
    simp only [List.map_cons, plainL, plain, Bool.and_eq_true]
    exact ⟨trivial, ih⟩
theorem peq_nil_map {α : Type} (f : α → D) (xs : List α) : peq (.lst (xs.map f)) (.lst []) = xs.isEmpty := by
  cases xs with
  | nil => simp [peq, peqL]
  | cons x xs => simp [peq, peqL]
theorem num_z {q : Rat} : peq (.int q.num) (.int 0) = decide (q = 0) := by
  rw [peq_int]
  by_cases h : q = 0
  · subst h
    rfl
  · rw [decide_eq_false h]
    exact decide_eq_false (num_nz h)
theorem at_map {α : Type} {f : α → D} {xs : List α} {k : Nat} (h : k < xs.length) : atI (xs.map f) (k : Int) = some (f xs[k]) := atI_nat (by
  rw [List.getElem?_map, List.getElem?_eq_getElem h]
  rfl)
end DL
set_option linter.all false
set_option autoImplicit false
set_option maxHeartbeats 4000000
set_option maxRecDepth 100000
set_option exponentiation.threshold 20000
/-! Limits and moves: what they are. -/
namespace DL
open PySem PySem.Spec PyProof.Rows L2
structure LimR where
  speed : Rat
  rate : Rat
  jump : Rat
def limD (l : LimR) : D := .tup [fr l.speed, fr l.rate, fr l.jump]
def limsD (ls : List LimR) : D := .tup (ls.map limD)
structure limOk (l : LimR) : Prop where
  s0 : 0 < l.speed
  s1 : Sz 300 l.speed
  r0 : 0 < l.rate
  r1 : Sz 300 l.rate
  j0 : 0 ≤ l.jump
  j1 : Sz 300 l.jump
structure OkL (n : Nat) (ls : List LimR) : Prop where
  len : ls.length = n
  ok : ∀ l ∈ ls, limOk l
/-! ### limits judged -/
def isLimit : D → Bool
  | .tup [a, b, c] => isAbove a && (isAbove b && isAmount c)
  | _ => false
def firstBad : Int → List D → D
  | _, [] => .non
  | k, x :: xs => if isLimit x = true then firstBad (k + 1) xs else .int k
def limPlace (n : Int) : D → D
  | .tup xs => if (xs.length : Int) = n then firstBad 0 xs else .int 0
  | _ => .int 0
theorem isLimit_ok {l : LimR} (h : limOk l) : isLimit (limD l) = true := by
  have a : ∀ q : Rat, 0 < q → isAbove (fr q) = true := fun q hq => by
    unfold isAbove
    rw [isFr_fr, unfr_fr, decide_eq_true hq]
    rfl
  have b : ∀ q : Rat, 0 ≤ q → isAmount (fr q) = true := fun q hq => by
    unfold isAmount
    rw [isFr_fr, unfr_fr, decide_eq_false (by grind)]
    rfl
  unfold isLimit limD
  simp only [a _ h.s0, a _ h.r0, b _ h.j0]
  rfl
theorem firstBad_ok : ∀ {ls : List LimR} (k : Int), (∀ l ∈ ls, limOk l) → firstBad k (ls.map limD) = .non
  | [], _, _ => rfl
  | l :: ls, k, h => by
    rw [List.map_cons, firstBad, if_pos (isLimit_ok (h l List.mem_cons_self))]
    exact firstBad_ok (k + 1) fun x m => h x (List.mem_cons_of_mem _ m)
theorem limPlace_ok {n : Nat} {ls : List LimR} (h : OkL n ls) : limPlace n (limsD ls) = .non := by
  show (if ((ls.map limD).length : Int) = n then firstBad 0 (ls.map limD) else .int 0) = .non
  rw [if_pos (by rw [List.length_map, h.len])]
  exact firstBad_ok 0 h.ok
theorem okD_lims {n : Nat} {ls : List LimR} (h : OkL n ls) (hn : n ≤ 1000) : okD (limsD ls) := by
  refine okD_of (by rw [List.length_map, h.len]; exact hn) fun x m => ?_
  obtain ⟨l, ml, rfl⟩ := List.mem_map.mp m
  have k := h.ok l ml
  unfold limD
  simp only [short, shortL, sml, smlL, Bool.and_eq_true, decide_eq_true_eq, List.length_cons, List.length_nil]
  exact ⟨⟨by decide, short_fr 36 _, short_fr 36 _, short_fr 36 _, trivial⟩, sml_fr k.s1 (by decide), sml_fr k.r1 (by decide), sml_fr k.j1 (by decide), trivial⟩
/-- of one fraction of a bounded size -/
@[irreducible] def sp_unS (n0 : Nat) (f : Rat → D) : Spec := S1 fun x Q => ∃ (q : Rat) (n : Nat), x = fr q ∧ Sz n q ∧ n ≤ n0 ∧ Q (.d (f q))
theorem unS_el {n0 : Nat} {f : Rat → D} {ss : List SV} {Q : RV → Prop} {Xe : Exc → Prop} (h : sp_unS n0 f ss Q Xe) : ∃ x, ss = [.d x] ∧ ∃ (q : Rat) (n : Nat), x = fr q ∧ Sz n q ∧ n ≤ n0 ∧ Q (.d (f q)) := by
  unfold sp_unS at h
  exact h
theorem unS_ok {n0 n : Nat} {f : Rat → D} {q : Rat} {Q : RV → Prop} {Xe : Exc → Prop} (hq : Sz n q) (hn : n ≤ n0) (k : Q (.d (f q))) : sp_unS n0 f [.d (fr q)] Q Xe := by
  unfold sp_unS
  exact ⟨_, rfl, q, n, rfl, hq, hn, k⟩
theorem len_unS {n0 : Nat} {f : Rat → D} : ∀ ss Q Xe, sp_unS n0 f ss Q Xe → ss.length = 1 := fun ss Q Xe h => by
  obtain ⟨x, e, _⟩ := unS_el h
  rw [e] <;> rfl
/-! ### a fraction or None -/
def optD : Option Rat → D
  | none => .non
  | some q => fr q
def SzO (n : Nat) (o : Option Rat) : Prop := ∀ q, o = some q → Sz n q
def minO : Option Rat → Option Rat → Option Rat
  | none, b => b
  | some a, none => some a
  | some a, some b => some (if b < a then b else a)
theorem SzO.min {n : Nat} {a b : Option Rat} (h : SzO n a) (k : SzO n b) : SzO n (minO a b) := by
  cases a with
  | none => exact k
  | some a =>
    cases b with
    | none => exact h
    | some b =>
      intro q e
      have e : (if b < a then b else a) = q := Option.some.inj e
      rw [← e]
      split
      · exact k _ rfl
      · exact h _ rfl
theorem SzO.mono {n m : Nat} {a : Option Rat} (h : SzO n a) (k : n ≤ m) : SzO m a := fun q e => (h q e).mono k
@[irreducible] def sp_lesser : Spec := S2 fun x y Q => ∃ (a b : Option Rat) (n : Nat), x = optD a ∧ y = optD b ∧ SzO n a ∧ SzO n b ∧ n ≤ 4400 ∧ Q (.d (optD (minO a b)))
theorem lesser_el {ss : List SV} {Q : RV → Prop} {Xe : Exc → Prop} (h : sp_lesser ss Q Xe) : ∃ x y, ss = [.d x, .d y] ∧ ∃ (a b : Option Rat) (n : Nat), x = optD a ∧ y = optD b ∧ SzO n a ∧ SzO n b ∧ n ≤ 4400 ∧ Q (.d (optD (minO a b))) := by
  unfold sp_lesser at h
  exact h
theorem lesser_ok {a b : Option Rat} {n : Nat} {x y : D} {Q : RV → Prop} {Xe : Exc → Prop} (ha : SzO n a) (hb : SzO n b) (hn : n ≤ 4400) (k : Q (.d (optD (minO a b)))) (e1 : x = optD a := by rfl) (e2 : y = optD b := by rfl) : sp_lesser [.d x, .d y] Q Xe := by
  unfold sp_lesser
  exact ⟨_, _, rfl, a, b, n, e1, e2, ha, hb, hn, k⟩
theorem len_lesser' : ∀ ss Q Xe, sp_lesser ss Q Xe → ss.length = 2 := fun ss Q Xe h => by
  obtain ⟨x, y, e, _⟩ := lesser_el h
  rw [e] <;> rfl
/-! ### moves -/
structure MoveR where
  number : Int
  length : Rat
  dir : List Rat
  bgn : Rat
  fin : Rat
  feed : Rat
  slow : Rat
  stops : Bool
  cap : Rat
  pull : Rat
  slope : Rat
abbrev mvNames : List Str := ["length", "direction", "number", "begin", "end", "feed", "slowest", "stops", "cap", "pull", "slope"]
def moveD (m : MoveR) : D := .ins "Move" mvNames [fr m.length, ptD m.dir, .int m.number, fr m.bgn, fr m.fin, fr m.feed, fr m.slow, .bl m.stops, fr m.cap, fr m.pull, fr m.slope]
/-- cap and pull, led through the axes -/
def capFrom : Rat → List (Rat × LimR) → Rat
  | a, [] => a
  | a, (e, l) :: r => capFrom (if e = 0 then a else if l.speed / rabs e * (l.speed / rabs e) < a then l.speed / rabs e * (l.speed / rabs e) else a) r
def pullFrom : Option Rat → List (Rat × LimR) → Option Rat
  | a, [] => a
  | a, (e, l) :: r => pullFrom (if e = 0 then a else minO a (some (l.rate / rabs e))) r
def capM (feed : Rat) (dir : List Rat) (ls : List LimR) : Rat := capFrom (feed * feed) (dir.zip ls)
def pullM (dir : List Rat) (ls : List LimR) : Rat := (pullFrom none (dir.zip ls)).getD 0
def moveM (k : Int) (pt : List Rat) (s : StepR) (ls : List LimR) (way : Rat) : MoveR :=
  let g := subL s.goal pt
  { number := k, length := longM g, dir := headM g, bgn := way, fin := way + longM g, feed := s.feed, slow := s.slow, stops := s.stop, cap := capM s.feed (headM g) ls, pull := pullM (headM g) ls, slope := 2 * pullM (headM g) ls }
def movesFrom (ls : List LimR) : Int → List Rat → Rat → List StepR → List MoveR
  | _, _, _, [] => []
  | k, pt, way, s :: r => moveM k pt s ls way :: movesFrom ls (k + 1) s.goal (way + longM (subL s.goal pt)) r
def movesM (p : ProgR) (ls : List LimR) : List MoveR := movesFrom ls 0 p.start 0 p.steps
/-- the turn cap of two directions -/
def turnFrom : Option Rat → List (Rat × Rat × LimR) → Option Rat
  | a, [] => a
  | a, (e, d, l) :: r => turnFrom (if e = d then a else minO a (some (l.jump / rabs (e - d) * (l.jump / rabs (e - d))))) r
def turnM (m n : MoveR) (ls : List LimR) : Option Rat := if m.stops = true then some 0 else turnFrom none (m.dir.zip (n.dir.zip ls))
theorem pull_some : ∀ {xs : List (Rat × LimR)} {a : Option Rat}, (a ≠ none ∨ ∃ p ∈ xs, p.1 ≠ 0) → ∃ q, pullFrom a xs = some q
  | [], a, h => by
    rcases h with h | ⟨p, m, _⟩
    · cases a with
      | none => exact absurd rfl h
      | some q => exact ⟨q, rfl⟩
    · cases m
  | (e, l) :: r, a, h => by
    rw [pullFrom]
    by_cases he : e = 0
    · rw [if_pos he]
      refine pull_some ?_
      rcases h with h | ⟨p, m, hp⟩
      · exact .inl h
      · rcases List.mem_cons.mp m with rfl | m
        · exact absurd he hp
        · exact .inr ⟨p, m, hp⟩
    · rw [if_neg he]
      refine pull_some (.inl ?_)
      cases a <;> simp [minO]
/-- the fields of a move, as __init__ leaves them -/
def mvF (m : MoveR) : List (Str × D) := [("length", fr m.length), ("direction", ptD m.dir), ("number", .int m.number), ("begin", fr m.bgn), ("end", fr m.fin), ("feed", fr m.feed), ("slowest", fr m.slow), ("stops", .bl m.stops), ("cap", fr m.cap), ("pull", fr m.pull), ("slope", fr m.slope)]
theorem sub_sz {a b : List Rat} (ha : GrL (2 ^ 340) a) (hb : GrL (2 ^ 340) b) : ∀ x ∈ subL a b, Sz 342 x := fun x m => ((subL_gr ha hb x m).mono (b := 2 ^ 341) (by decide)).sz (by decide)
theorem longs_sz {n : Nat} {gs : List Rat} (n1 : 1 ≤ n) (h : ∀ g ∈ gs, Sz n g) : Sz n (longM gs) := long_prop gs (sz_0.mono n1) fun g m => (h g m).abs
theorem head_sz {g : List Rat} (hs : ∀ x ∈ g, Sz 342 x) (h : 0 < longM g) : ∀ x ∈ headM g, Sz 684 x := fun x m => by
  obtain ⟨t, ht, rfl⟩ := List.mem_map.mp m
  exact (hs t ht).div (longs_sz (by decide) hs) (by grind)
theorem head_ne {g : List Rat} (h : 0 < longM g) : ∃ x ∈ headM g, x ≠ 0 := by
  have h1 := long_head h
  by_cases k : ∃ x ∈ headM g, x ≠ 0
  · exact k
  · exfalso
    have z : ∀ x ∈ headM g, x = 0 := fun x m => by
      by_cases e : x = 0
      · exact e
      · exact absurd ⟨x, m, e⟩ k
    have : longM (headM g) = 0 := long_prop (P := fun q => q = 0) (headM g) rfl fun x m => by rw [z x m]; unfold rabs; rw [if_neg (by grind)]
    grind
theorem subL_length {s : StepR} {pt : List Rat} (h : stepOk pt s) : (subL s.goal pt).length = pt.length := by rw [subL_len, h.1]; omega
theorem sub_pos {pt : List Rat} {s : StepR} (h : stepOk pt s) : 0 < longM (subL s.goal pt) := by
  obtain ⟨x, hx, h0⟩ := subL_ne h.1 h.2.1
  have := long_ge hx
  have := rabs_pos h0
  grind
theorem long_gr {b : Nat} {g : List Rat} (h : GrL b g) : Gr b (longM g) := long_prop g (Gr.zero.mono (Nat.zero_le _)) fun x m => (h x m).abs
/-- what is asked of moves: parts of directions of such sizes -/
def DirOk (n : Nat) (m : MoveR) : Prop := m.dir.length = n ∧ ∀ e ∈ m.dir, Sz 684 e
theorem moves_ok {ls : List LimR} : ∀ {ss : List StepR} {k : Int} {pt : List Rat} {way : Rat}, GrL (2 ^ 340) pt → chainOk pt ss → ∀ m ∈ movesFrom ls k pt way ss, DirOk pt.length m
  | [], _, _, _, _, _, m, h => nomatch h
  | s :: r, k, pt, way, hg, ⟨h1, h2⟩, m, h => by
    rcases List.mem_cons.mp h with rfl | h
    · exact ⟨by show (headM _).length = _; rw [headM, List.length_map, subL_length h1], head_sz (sub_sz h1.2.2.1 hg) (sub_pos h1)⟩
    · have := moves_ok h1.2.2.1 h2 m h
      rw [h1.1] at this
      exact this
theorem movesFrom_len {ls : List LimR} : ∀ (ss : List StepR) (k : Int) (pt : List Rat) (way : Rat), (movesFrom ls k pt way ss).length = ss.length
  | [], _, _, _ => rfl
  | s :: r, k, pt, way => by rw [movesFrom, List.length_cons, List.length_cons, movesFrom_len r]
theorem turn_sz {n : Nat} (hn : 3400 ≤ n) : ∀ {xs : List (Rat × Rat × LimR)} {a : Option Rat}, (∀ p ∈ xs, Sz 684 p.1 ∧ Sz 684 p.2.1 ∧ limOk p.2.2) → SzO n a → SzO n (turnFrom a xs)
  | [], a, _, h => h
  | (e, d, l) :: r, a, hx, h => by
    obtain ⟨h1, h2, h3⟩ := hx _ List.mem_cons_self
    rw [turnFrom]
    refine turn_sz hn (fun p m => hx p (List.mem_cons_of_mem _ m)) ?_
    split
    · exact h
    · rename_i ne
      have hab : rabs (e - d) ≠ 0 := by have := rabs_pos (q := e - d) (by grind); grind
      have hq : Sz 1700 (l.jump / rabs (e - d)) := (h3.j1.div (h1.sub h2).abs hab).mono (by decide)
      exact h.min fun q e => by
        rw [← Option.some.inj e]
        exact (hq.mul hq).mono (by omega)
theorem zip3_ok {n : Nat} {m k : MoveR} {ls : List LimR} (hm : DirOk n m) (hk : DirOk n k) (hL : OkL n ls) : ∀ p ∈ m.dir.zip (k.dir.zip ls), Sz 684 p.1 ∧ Sz 684 p.2.1 ∧ limOk p.2.2 := fun p h => by
  obtain ⟨h1, h2⟩ := List.of_mem_zip (a := p.1) (b := p.2) h
  obtain ⟨h3, h4⟩ := List.of_mem_zip (a := p.2.1) (b := p.2.2) h2
  exact ⟨hm.2 _ h1, hk.2 _ h3, hL.ok _ h4⟩
theorem turnM_sz {n : Nat} {m k : MoveR} {ls : List LimR} (hm : DirOk n m) (hk : DirOk n k) (hL : OkL n ls) : SzO 3400 (turnM m k ls) := by
  unfold turnM
  split
  · intro q e
    rw [← Option.some.inj e]
    exact sz_0.mono (by decide)
  · exact turn_sz (by decide) (zip3_ok hm hk hL) fun _ z => nomatch z
def turnsM (p : ProgR) (ls : List LimR) : List (Option Rat) := some 0 :: (List.zipWith (fun m k => turnM m k ls) (movesM p ls) (movesM p ls).tail ++ [some 0])
/-! ### turn caps told -/
abbrev sqJ (z : Rat × Rat × LimR) : Rat := z.2.2.jump / rabs (z.1 - z.2.1) * (z.2.2.jump / rabs (z.1 - z.2.1))
theorem turn_none : ∀ {zs : List (Rat × Rat × LimR)} {a : Option Rat}, turnFrom a zs = none → a = none ∧ ∀ z ∈ zs, z.1 = z.2.1
  | [], a, h => ⟨h, fun z m => (nomatch m)⟩
  | (e, d, l) :: r, a, h => by
    rw [turnFrom] at h
    obtain ⟨h1, h2⟩ := turn_none h
    by_cases k : e = d
    · rw [if_pos k] at h1
      refine ⟨h1, fun z m => ?_⟩
      rcases List.mem_cons.mp m with rfl | m
      · exact k
      · exact h2 z m
    · rw [if_neg k] at h1
      cases a <;> cases h1
theorem turn_some {t : Rat} : ∀ {zs : List (Rat × Rat × LimR)} {a : Option Rat}, turnFrom a zs = some t → (∀ z ∈ zs, z.1 ≠ z.2.1 → t ≤ sqJ z) ∧ (∀ b, a = some b → t ≤ b) ∧ ((∃ z ∈ zs, z.1 ≠ z.2.1 ∧ t = sqJ z) ∨ a = some t)
  | [], a, h => by
    have h : a = some t := h
    exact ⟨fun z m => (nomatch m), fun b e => (by rw [h] at e; cases e; grind), .inr h⟩
  | (e, d, l) :: r, a, h => by
    rw [turnFrom] at h
    obtain ⟨h1, h2, h3⟩ := turn_some h
    by_cases k : e = d
    · rw [if_pos k] at h2 h3
      refine ⟨fun z m ne => ?_, h2, ?_⟩
      · rcases List.mem_cons.mp m with rfl | m
        · exact absurd k ne
        · exact h1 z m ne
      · rcases h3 with ⟨z, m, q⟩ | q
        · exact .inl ⟨z, List.mem_cons_of_mem _ m, q⟩
        · exact .inr q
    · rw [if_neg k] at h2 h3
      have both : t ≤ sqJ (e, d, l) ∧ ∀ b, a = some b → t ≤ b := by
        cases a with
        | none => exact ⟨h2 _ rfl, fun b z => nomatch z⟩
        | some b =>
          have := h2 (if sqJ (e, d, l) < b then sqJ (e, d, l) else b) rfl
          refine ⟨?_, fun b' z => ?_⟩
          · split at this <;> grind
          · cases z
            split at this <;> grind
      refine ⟨fun z m ne => ?_, both.2, ?_⟩
      · rcases List.mem_cons.mp m with rfl | m
        · exact both.1
        · exact h1 z m ne
      · rcases h3 with ⟨z, m, q⟩ | q
        · exact .inl ⟨z, List.mem_cons_of_mem _ m, q⟩
        · cases a with
          | none => exact .inl ⟨_, List.mem_cons_self, k, (Option.some.inj q).symm⟩
          | some b =>
            have q : (if sqJ (e, d, l) < b then sqJ (e, d, l) else b) = t := Option.some.inj q
            by_cases c : sqJ (e, d, l) < b
            · rw [if_pos c] at q
              exact .inl ⟨_, List.mem_cons_self, k, q.symm⟩
            · rw [if_neg c] at q
              exact .inr (by rw [q])
theorem rabs_sq (q : Rat) : rabs q * rabs q = q * q := by
  unfold rabs
  split <;> grind
theorem sqJ_mul {z : Rat × Rat × LimR} (ne : z.1 ≠ z.2.1) : sqJ z * ((z.1 - z.2.1) * (z.1 - z.2.1)) = z.2.2.jump * z.2.2.jump := by
  have h := rabs_pos (q := z.1 - z.2.1) (by grind)
  rw [← rabs_sq]
  unfold sqJ
  generalize rabs (z.1 - z.2.1) = r at *
  generalize z.2.2.jump = j at *
  grind
theorem sq_pos {q : Rat} (h : q ≠ 0) : 0 < q * q := by
  rw [← rabs_sq]
  exact Rat.mul_pos (rabs_pos h) (rabs_pos h)
/-- moves by their place -/
theorem moves_at {ls : List LimR} : ∀ {ss : List StepR} {k : Int} {pt : List Rat} {way : Rat} (i : Nat) (h1 : i < (movesFrom ls k pt way ss).length) (h2 : i < ss.length) (h3 : i < (gapsFrom pt ss).length), (movesFrom ls k pt way ss)[i].dir = headM (gapsFrom pt ss)[i] ∧ (movesFrom ls k pt way ss)[i].stops = ss[i].stop
  | [], _, _, _, i, h1, h2, h3 => by simp at h2
  | s :: r, k, pt, way, 0, h1, h2, h3 => ⟨rfl, rfl⟩
  | s :: r, k, pt, way, i + 1, h1, h2, h3 => moves_at i (by simpa [movesFrom] using h1) (by simpa using h2) (by simpa [gapsFrom] using h3)
end DL
set_option linter.all false
set_option autoImplicit false
set_option maxHeartbeats 2000000
set_option maxRecDepth 100000
set_option exponentiation.threshold 20000
/-! Ways along a program: which move, which point. -/
namespace DL
open PySem PySem.Spec PyProof.Rows L2
def cntLe (w : Rat) (L : List Rat) : Nat := (L.filter fun m => !decide (w < m)).length
theorem cnt_le (w : Rat) (L : List Rat) : cntLe w L ≤ L.length := List.length_filter_le _ _
theorem cnt_cons (w x : Rat) (L : List Rat) : cntLe w (x :: L) = (if w < x then 0 else 1) + cntLe w L := by
  unfold cntLe
  rw [List.filter_cons]
  by_cases h : w < x
  · simp [h]
  · simp [h]
    omega
theorem cnt_none {w : Rat} : ∀ {L : List Rat}, (∀ x ∈ L, w < x) → cntLe w L = 0
  | [], _ => rfl
  | x :: L, h => by
    rw [cnt_cons, if_pos (h x List.mem_cons_self), cnt_none fun y m => h y (List.mem_cons_of_mem _ m)]
theorem cnt_iff {w : Rat} : ∀ {L : List Rat}, L.Pairwise (· < ·) → ∀ (k : Nat) (x : Rat), L[k]? = some x → (¬ w < x ↔ k < cntLe w L)
  | [], _, _, _, h => by simp at h
  | y :: L, s, k, x, h => by
    have s1 := (List.pairwise_cons.mp s).1
    have s2 := (List.pairwise_cons.mp s).2
    rw [cnt_cons]
    by_cases hy : w < y
    · rw [if_pos hy, cnt_none fun z m => by
        have := s1 z m
        grind]
      cases k with
      | zero =>
        have e : y = x := Option.some.inj h
        subst e
        exact ⟨fun z => absurd hy z, fun z => by omega⟩
      | succ k =>
        have m : x ∈ L := List.mem_of_getElem? h
        have := s1 x m
        exact ⟨fun z => absurd (by grind : w < x) z, fun z => by omega⟩
    · rw [if_neg hy]
      cases k with
      | zero =>
        have e : y = x := Option.some.inj h
        subst e
        exact ⟨fun _ => by omega, fun _ => hy⟩
      | succ k =>
        have := cnt_iff (w := w) s2 k x h
        rw [this]
        omega
theorem range_lt {c : Nat} : ∀ {n : Nat}, c ≤ n → (List.range n).filter (fun k => decide (k < c)) = List.range c
  | 0, h => by
    have : c = 0 := by omega
    subst this
    rfl
  | n + 1, h => by
    rw [List.range_succ, List.filter_append]
    by_cases e : c = n + 1
    · subst e
      rw [List.range_succ]
      congr 1
      · refine List.filter_eq_self.mpr fun k m => ?_
        have := List.mem_range.mp m
        simp
        omega
      · simp
    · rw [range_lt (by omega)]
      simp
      omega
theorem cnt_range {w : Rat} {L : List Rat} (s : L.Pairwise (· < ·)) : (List.range L.length).filter (fun k => !decide (w < L.getD k 0)) = List.range (cntLe w L) := by
  rw [← range_lt (cnt_le w L)]
  refine List.filter_congr fun k m => ?_
  have hk := List.mem_range.mp m
  have h : L[k]? = some L[k] := List.getElem?_eq_getElem hk
  have := cnt_iff (w := w) s k _ h
  rw [List.getD_eq_getElem?_getD, h, Option.getD_some]
  by_cases z : w < L[k]
  · have := mt this.mpr (fun u => u z)
    simp [z]
    omega
  · have := this.mp z
    simp [z, this]
/-! ### the marks -/
theorem marksFrom_len : ∀ (a : Rat) (gs : List (List Rat)), (marksFrom a gs).length = gs.length
  | _, [] => rfl
  | a, g :: r => by rw [marksFrom, List.length_cons, List.length_cons, marksFrom_len]
theorem marks_len (p : ProgR) : (marksM p).length = p.steps.length + 1 := by
  rw [marksM, List.length_cons, marksFrom_len, gapsM, gaps_len]
theorem heads_len (p : ProgR) : (headsM p).length = p.steps.length := by
  rw [headsM, List.length_map, gapsM, gaps_len]
theorem marksFrom_lt : ∀ {a : Rat} {gs : List (List Rat)}, (∀ g ∈ gs, 0 < longM g) → (∀ x ∈ marksFrom a gs, a < x) ∧ (marksFrom a gs).Pairwise (· < ·)
  | a, [], _ => ⟨(fun _ m => nomatch m), List.Pairwise.nil⟩
  | a, g :: r, h => by
    have i := marksFrom_lt (a := a + longM g) (gs := r) fun y m => h y (List.mem_cons_of_mem _ m)
    have hg := h g List.mem_cons_self
    refine ⟨fun x m => ?_, List.pairwise_cons.mpr ⟨i.1, i.2⟩⟩
    rcases List.mem_cons.mp m with e | m
    · rw [e]
      grind
    · have := i.1 x m
      grind
theorem marks_sorted {p : ProgR} (h : OkP p) : (marksM p).Pairwise (· < ·) := by
  have i := marksFrom_lt (a := 0) (gs := gapsM p) (gaps_pos h.chain)
  exact List.pairwise_cons.mpr ⟨i.1, i.2⟩
theorem marks_init {p : ProgR} (h : OkP p) : (marksM p).dropLast = 0 :: ((marksM p).drop 1).dropLast := by
  have hl := marks_len p
  have := h.many.1
  have e : marksM p = 0 :: marksFrom 0 (gapsM p) := rfl
  cases hm : marksFrom 0 (gapsM p) with
  | nil =>
    rw [e, hm, List.length_cons, List.length_nil] at hl
    omega
  | cons x r =>
    rw [e, hm]
    rfl
theorem init_sorted {p : ProgR} (h : OkP p) : (marksM p).dropLast.Pairwise (· < ·) := (marks_sorted h).sublist (List.dropLast_sublist _)
theorem init_at (p : ProgR) {k : Nat} (hk : k < p.steps.length) : (marksM p).dropLast[k]? = (marksM p)[k]? := by
  rw [List.getElem?_dropLast]
  have := marks_len p
  rw [if_pos (by omega)]
theorem marks_nonneg {p : ProgR} (h : OkP p) : ∀ x ∈ marksM p, 0 ≤ x := fun x m => by
  rcases List.mem_cons.mp m with e | m
  · rw [e]
    grind
  · have := (marksFrom_lt (a := 0) (gs := gapsM p) (gaps_pos h.chain)).1 x m
    grind
theorem marksFrom_gr {b : Nat} : ∀ {gs : List (List Rat)} {a : Rat} {k : Nat}, (∀ g ∈ gs, Gr b (longM g)) → Gr (b * k) a → ∀ x ∈ marksFrom a gs, Gr (b * (k + gs.length)) x
  | [], _, _, _, _, _, m => nomatch m
  | g :: r, a, k, h, ha, x, m => by
    have e : Gr (b * (k + 1)) (a + longM g) := by
      rw [Nat.mul_add, Nat.mul_one]
      exact ha.add (h g List.mem_cons_self)
    rcases List.mem_cons.mp m with z | m
    · rw [z]
      exact e.mono (Nat.mul_le_mul_left _ (by rw [List.length_cons]; omega))
    · have := marksFrom_gr (fun y m => h y (List.mem_cons_of_mem _ m)) e x m
      rw [List.length_cons]
      have q : k + 1 + r.length = k + (r.length + 1) := by omega
      rw [← q]
      exact this
theorem marks_sz {p : ProgR} (h : OkP p) : ∀ x ∈ marksM p, Sz 347 x := fun x m => by
  have hg : ∀ g ∈ gapsM p, Gr (2 ^ 341) (longM g) := fun g m => long_prop g (Gr.zero.mono (by decide)) fun x m' => ((gaps_gr h.grid h.chain g m).1 x m').abs
  have hl : (gapsM p).length ≤ 30 := by
    rw [gapsM, gaps_len]
    exact h.many.2
  rcases List.mem_cons.mp m with e | m
  · rw [e]
    exact sz_0.mono (by omega)
  · have := marksFrom_gr hg (k := 0) (a := 0) (Gr.zero.mono (Nat.zero_le _)) x m
    refine (this.mono (b := 2 ^ 346) ?_).sz (by omega)
    have q : 2 ^ 341 * (0 + (gapsM p).length) ≤ 2 ^ 341 * 32 := Nat.mul_le_mul_left _ (by omega)
    exact Nat.le_trans q (by decide)
theorem marks_next : ∀ {gs : List (List Rat)} {a : Rat} {k : Nat} {g : List Rat} {m : Rat}, gs[k]? = some g → (a :: marksFrom a gs)[k]? = some m → (a :: marksFrom a gs)[k + 1]? = some (m + longM g)
  | [], _, _, _, _, h, _ => by simp at h
  | g :: r, a, 0, _, _, h1, h2 => by
    have e1 : g = _ := Option.some.inj h1
    have e2 : a = _ := Option.some.inj h2
    rw [← e1, ← e2]
    rfl
  | g :: r, a, k + 1, _, _, h1, h2 => marks_next (gs := r) (a := a + longM g) (k := k) h1 h2
/-! ### the move and the point -/
def idxM (p : ProgR) (w : Rat) : Nat := cntLe w ((marksM p).drop 1).dropLast
def wholeM (p : ProgR) : Rat := (marksM p).getD p.steps.length 0
def markM (p : ProgR) (w : Rat) : Rat := (marksM p).getD (idxM p w) 0
def spotM (p : ProgR) (w : Rat) : List Rat := List.zipWith (fun a h => a + h * (w - markM p w)) ((trailM p).getD (idxM p w) []) ((headsM p).getD (idxM p w) [])
theorem idx_cnt {p : ProgR} (h : OkP p) {w : Rat} (hw : 0 ≤ w) : cntLe w (marksM p).dropLast = idxM p w + 1 := by
  rw [marks_init h, cnt_cons, if_neg (by grind)]
  unfold idxM
  omega
theorem idx_lt {p : ProgR} (h : OkP p) {w : Rat} (hw : 0 ≤ w) : idxM p w < p.steps.length := by
  have := cnt_le w (marksM p).dropLast
  rw [idx_cnt h hw, List.length_dropLast, marks_len] at this
  omega
theorem getD_at {α : Type} {d : α} {xs : List α} {k : Nat} (h : k < xs.length) : xs[k]? = some (xs.getD k d) := by
  rw [List.getD_eq_getElem?_getD, List.getElem?_eq_getElem h, Option.getD_some]
theorem mark_le {p : ProgR} (h : OkP p) {w : Rat} (hw : 0 ≤ w) : markM p w ≤ w := by
  have hi := idx_lt h hw
  have hl := marks_len p
  have e : (marksM p).dropLast[idxM p w]? = some (markM p w) := by
    rw [init_at p hi]
    exact getD_at (by omega)
  have := (cnt_iff (w := w) (init_sorted h) _ _ e).mpr (by
    rw [idx_cnt h hw]
    omega)
  grind
theorem idx_at {p : ProgR} (h : OkP p) {k : Nat} {m : Rat} (hk : k < p.steps.length) (hm : (marksM p)[k]? = some m) : idxM p m = k := by
  have h0 : 0 ≤ m := marks_nonneg h m (List.mem_of_getElem? hm)
  have e : (marksM p).dropLast[k]? = some m := by rw [init_at p hk, hm]
  have s := init_sorted h
  have a := (cnt_iff (w := m) s _ _ e).mp (by grind)
  rw [idx_cnt h h0] at a
  have hi := idx_lt h h0
  have hl := marks_len p
  have e2 : (marksM p).dropLast[idxM p m]? = some (markM p m) := by
    rw [init_at p hi]
    exact getD_at (by omega)
  have le := mark_le h h0
  by_cases z : k < idxM p m
  · exfalso
    have := List.pairwise_iff_getElem.mp s k (idxM p m) (by
      rw [List.length_dropLast]
      omega) (by
      rw [List.length_dropLast]
      omega) z
    have q1 := (List.getElem?_eq_some_iff.mp e).2
    have q2 := (List.getElem?_eq_some_iff.mp e2).2
    rw [q1, q2] at this
    grind
  · omega
theorem zip_id {f : Rat → Rat → Rat} (hf : ∀ a b, f a b = a) : ∀ {xs ys : List Rat}, xs.length = ys.length → List.zipWith f xs ys = xs
  | [], _, _ => by simp
  | x :: xs, [], h => by simp at h
  | x :: xs, y :: ys, h => by
    rw [List.zipWith_cons_cons, hf, zip_id hf (by simpa using h)]
theorem gap_at {p : ProgR} {k : Nat} (hk : k < p.steps.length) : ∃ a b : List Rat, (trailM p)[k]? = some b ∧ (trailM p)[k + 1]? = some a ∧ (gapsM p)[k]? = some (subL a b) ∧ (headsM p)[k]? = some (headM (subL a b)) := by
  have hl := trail_len p
  have e1 : (trailM p)[k]? = some ((trailM p).getD k []) := getD_at (by omega)
  have e2 : (trailM p)[k + 1]? = some ((trailM p).getD (k + 1) []) := getD_at (by omega)
  have g := gaps_at p.start p.steps k _ _ e1 e2
  exact ⟨_, _, e1, e2, g, by rw [headsM, List.getElem?_map, gapsM, g]; rfl⟩
theorem len_pt {p : ProgR} (h : OkP p) {k : Nat} {b : List Rat} (e : (trailM p)[k]? = some b) : b.length = p.start.length := (trail_gr h b (List.mem_of_getElem? e)).2
theorem headM_len (g : List Rat) : (headM g).length = g.length := by simp [headM]
theorem zip_back {c : Rat} (hc : c ≠ 0) : ∀ {a b : List Rat}, a.length = b.length → List.zipWith (fun x h => x + h * c) b ((subL a b).map fun x => x / c) = a
  | [], [], _ => rfl
  | [], _ :: _, h => by simp at h
  | _ :: _, [], h => by simp at h
  | x :: a, y :: b, h => by
    have e : subL (x :: a) (y :: b) = (x - y) :: subL a b := rfl
    rw [e, List.map_cons, List.zipWith_cons_cons, zip_back hc (by simpa using h), Rat.div_mul_cancel hc]
    congr 1
    grind
/-- at each joint the point of the path -/
theorem spot_joint {p : ProgR} (h : OkP p) {k : Nat} {m : Rat} (hm : (marksM p)[k]? = some m) : (trailM p)[k]? = some (spotM p m) := by
  have hl := marks_len p
  have hk := (List.getElem?_eq_some_iff.mp hm).1
  by_cases z : k < p.steps.length
  · obtain ⟨a, b, e1, e2, g, hd⟩ := gap_at z
    have hi := idx_at h z hm
    unfold spotM markM
    rw [hi, List.getD_eq_getElem?_getD, List.getD_eq_getElem?_getD, List.getD_eq_getElem?_getD, e1, hd, hm, Option.getD_some, Option.getD_some, Option.getD_some]
    rw [zip_id (fun a b => by grind)]
    rw [headM_len, subL_len, len_pt h e1, len_pt h e2]
    omega
  · have ek : k = p.steps.length := by omega
    obtain ⟨n, en⟩ : ∃ n, p.steps.length = n + 1 := ⟨p.steps.length - 1, by have := h.many.1; omega⟩
    rw [ek, en] at hm
    rw [ek, en]
    obtain ⟨a, b, e1, e2, g, hd⟩ := gap_at (p := p) (k := n) (by omega)
    have en0 : (marksM p)[n]? = some ((marksM p).getD n 0) := getD_at (by omega)
    have nx : (marksM p)[n + 1]? = some ((marksM p).getD n 0 + longM (subL a b)) := marks_next g en0
    have em : m = (marksM p).getD n 0 + longM (subL a b) := by
      rw [hm] at nx
      exact Option.some.inj nx
    have h0 : 0 ≤ m := marks_nonneg h m (List.mem_of_getElem? hm)
    have pos : 0 < longM (subL a b) := gaps_pos h.chain _ (List.mem_of_getElem? g)
    have hi : idxM p m = n := by
      have lt := idx_lt h h0
      have e : (marksM p).dropLast[n]? = some ((marksM p).getD n 0) := by rw [init_at p (by omega), en0]
      have := (cnt_iff (w := m) (init_sorted h) _ _ e).mp (by grind)
      rw [idx_cnt h h0] at this
      omega
    unfold spotM markM
    rw [hi, List.getD_eq_getElem?_getD (l := trailM p), List.getD_eq_getElem?_getD (l := headsM p), e1, hd, e2, Option.getD_some, Option.getD_some, em]
    have er : (marksM p).getD n 0 + longM (subL a b) - (marksM p).getD n 0 = longM (subL a b) := by grind
    rw [er, headM, zip_back (by grind) (by rw [len_pt h e1, len_pt h e2])]
/-! ### how far -/
def Near (m : Rat) (a b : List Rat) : Prop := ∀ (c : Nat) (x y : Rat), a[c]? = some x → b[c]? = some y → rabs (y - x) ≤ m
theorem rabs_add (x y : Rat) : rabs (x + y) ≤ rabs x + rabs y := by
  unfold rabs
  split <;> split <;> split <;> grind
theorem sub_at {a b : List Rat} {c : Nat} {x y : Rat} (h1 : a[c]? = some x) (h2 : b[c]? = some y) : x - y ∈ subL a b := by
  refine List.mem_of_getElem? (i := c) ?_
  rw [subL, List.getElem?_zipWith, h1, h2]
theorem near_trail {o : List Rat} : ∀ {ss : List StepR} {pt : List Rat} {a : Rat} {k : Nat} {b : List Rat} {m : Rat}, chainOk pt ss → Near a o pt → o.length = pt.length → (pt :: ss.map StepR.goal)[k]? = some b → (a :: marksFrom a (gapsFrom pt ss))[k]? = some m → Near m o b
  | _, pt, a, 0, b, m, _, n, _, e1, e2 => by
    have e1 : pt = b := Option.some.inj e1
    have e2 : a = m := Option.some.inj e2
    rw [← e1, ← e2]
    exact n
  | [], _, _, k + 1, _, _, _, _, _, e1, _ => by simp at e1
  | s :: r, pt, a, k + 1, b, m, h, n, hl, e1, e2 => by
    refine near_trail (ss := r) (pt := s.goal) (a := a + longM (subL s.goal pt)) (k := k) h.2 (fun c x y ex ey => ?_) (by rw [hl, h.1.1]) e1 e2
    have hc : c < pt.length := by
      rw [← h.1.1]
      exact (List.getElem?_eq_some_iff.mp ey).1
    have ez : pt[c]? = some pt[c] := List.getElem?_eq_getElem hc
    have q1 := n c x _ ex ez
    have q2 := long_ge (sub_at ey ez)
    have q3 := rabs_add (y - pt[c]) (pt[c] - x)
    have q4 : y - pt[c] + (pt[c] - x) = y - x := by grind
    rw [q4] at q3
    grind
theorem rabs_mul (x : Rat) {y : Rat} (h : 0 ≤ y) : rabs (x * y) = rabs x * y := by
  by_cases z : y = 0
  · rw [z, Rat.mul_zero, Rat.mul_zero]
    rfl
  · have hy : 0 < y := by grind
    unfold rabs
    by_cases hx : x < 0
    · have : x * y < 0 := by
        have := Rat.mul_pos (a := -x) (b := y) (by grind) hy
        grind
      rw [if_pos hx, if_pos this]
      grind
    · have : 0 ≤ x * y := Rat.mul_nonneg (by grind) h
      rw [if_neg hx, if_neg (by grind)]
theorem head_le {g : List Rat} (h : 0 < longM g) : ∀ x ∈ headM g, rabs x ≤ 1 := fun x m => by
  have := long_ge m
  rw [long_head h] at this
  exact this
theorem spot_near {p : ProgR} (h : OkP p) {w : Rat} (hw : 0 ≤ w) : longM (subL (spotM p w) p.start) ≤ w := by
  have hi := idx_lt h hw
  obtain ⟨a, b, e1, e2, g, hd⟩ := gap_at hi
  have pos : 0 < longM (subL a b) := gaps_pos h.chain _ (List.mem_of_getElem? g)
  have hl := marks_len p
  have em : (marksM p)[idxM p w]? = some (markM p w) := getD_at (by omega)
  have nr : Near (markM p w) p.start b := near_trail h.chain (fun c x y ex ey => by
    rw [ex] at ey
    have := Option.some.inj ey
    rw [this]
    have : y - y = 0 := by grind
    rw [this]
    show rabs 0 ≤ 0
    decide) rfl e1 em
  have ml := mark_le h hw
  refine long_prop (P := fun y => y ≤ w) _ hw fun x m => ?_
  obtain ⟨c, hc, ex⟩ := List.mem_iff_getElem.mp m
  have ex := List.getElem?_eq_some_iff.mpr ⟨hc, ex⟩
  rw [subL, List.getElem?_zipWith, spotM, List.getElem?_zipWith, List.getD_eq_getElem?_getD, List.getD_eq_getElem?_getD, e1, hd, Option.getD_some, Option.getD_some] at ex
  cases eb : b[c]? with
  | none => simp [eb] at ex
  | some y =>
    cases eh : (headM (subL a b))[c]? with
    | none => simp [eb, eh] at ex
    | some z =>
      cases es : p.start[c]? with
      | none => simp [eb, eh, es] at ex
      | some o =>
        simp only [eb, eh, es, Option.some.injEq] at ex
        have q1 := nr c o y es eb
        have q2 := head_le pos z (List.mem_of_getElem? eh)
        have q3 := rabs_add (y - o) (z * (w - markM p w))
        have q4 := rabs_mul z (y := w - markM p w) (by grind)
        have q5 : rabs z * (w - markM p w) ≤ 1 * (w - markM p w) := Rat.mul_le_mul_of_nonneg_right q2 (by grind)
        have q6 : y - o + z * (w - markM p w) = x := by
          rw [← ex]
          grind
        rw [q6, q4] at q3
        grind
/-! ### sizes -/
theorem trail_sz {p : ProgR} (h : OkP p) : ∀ g ∈ trailM p, ∀ x ∈ g, Sz 342 x := fun g m x hx => (((trail_gr h g m).1 x hx).sz (by omega)).mono (by omega)
theorem heads_sz {p : ProgR} (h : OkP p) : ∀ g ∈ headsM p, ∀ x ∈ g, Sz 684 x := fun g m x hx => by
  obtain ⟨g0, m0, e⟩ := List.mem_map.mp m
  rw [← e] at hx
  have hs := (gaps_gr h.grid h.chain g0 m0).1
  exact head_sz (fun y my => ((hs y my).sz (by omega)).mono (by omega)) (gaps_pos h.chain g0 m0) x hx
/-! ### for the walks -/
theorem cut_mid {xs : List D} (h : 2 ≤ xs.length) : cutD xs (some 1) (some (-1)) = (xs.drop 1).dropLast := by
  have e1 : HT.sIx xs.length 0 (some 1) = 1 := by
    show (if (1 : Int) < 0 then ((1 : Int) + (xs.length : Int)).toNat else min (1 : Int).toNat xs.length) = 1
    rw [if_neg (by decide)]
    have : (1 : Int).toNat = 1 := rfl
    omega
  have e2 : HT.sIx xs.length xs.length (some (-1)) = xs.length - 1 := by
    show (if (-1 : Int) < 0 then ((-1 : Int) + (xs.length : Int)).toNat else min (-1 : Int).toNat xs.length) = xs.length - 1
    rw [if_pos (by decide)]
    omega
  rw [cutD, e1, e2, List.dropLast_eq_take, List.length_drop]
theorem frs_mid (qs : List Rat) : ((frs qs).drop 1).dropLast = frs (qs.drop 1).dropLast := by
  rw [frs_map, frs_map, ← List.map_drop, ← List.map_dropLast]
theorem zipmap (f : Rat → Rat → Rat) : ∀ xs ys : List Rat, (xs.zip ys).map (fun z => fr (f z.1 z.2)) = frs (List.zipWith f xs ys)
  | [], _ => by simp [frs]
  | _ :: _, [] => by simp [frs]
  | x :: xs, y :: ys => by
    rw [List.zip_cons_cons, List.map_cons, zipmap f xs ys, List.zipWith_cons_cons]
    rfl
theorem ints_map {α : Type} (g : α → Int) : ∀ xs : List α, intsD (xs.map fun k => D.int (g k)) = some (xs.map g)
  | [] => rfl
  | x :: r => by
    show (intsD (r.map fun k => D.int (g k))).map (g x :: ·) = _
    rw [ints_map g r]
    rfl
theorem max_range {c : Nat} {Q : D → Prop} (h : Q (.int c)) : bMaxL [.lst ((List.range (c + 1)).map fun (k : Nat) => D.int (0 + (k : Int)))] Q := by
  show (match intsD ((List.range (c + 1)).map fun (k : Nat) => D.int (0 + (k : Int))) with
    | some ns => ns ≠ [] ∧ ∀ m ∈ ns, (∀ y ∈ ns, y ≤ m) → Q (.int m)
    | none => False)
  rw [ints_map (fun k : Nat => (0 : Int) + (k : Int))]
  refine ⟨by simp, fun m hm hy => ?_⟩
  have h1 := hy (0 + (c : Int)) (List.mem_map.mpr ⟨c, List.mem_range.mpr (by omega), rfl⟩)
  obtain ⟨k, hk, e⟩ := List.mem_map.mp hm
  have := List.mem_range.mp hk
  have : m = (c : Int) := by omega
  rw [this]
  exact h
theorem whole_mem {p : ProgR} : (marksM p)[p.steps.length]? = some (wholeM p) := getD_at (by
  rw [marks_len]
  omega)
theorem whole_at (p : ProgR) : atI (frs (marksM p)) (-1) = some (fr (wholeM p)) := by
  have hne : marksM p ≠ [] := by simp [marksM]
  have e := (List.dropLast_concat_getLast hne).symm
  have : (marksM p).getLast hne = wholeM p := by
    rw [List.getLast_eq_getElem]
    have h := whole_mem (p := p)
    have hl := marks_len p
    obtain ⟨h1, h2⟩ := List.getElem?_eq_some_iff.mp h
    rw [← h2]
    congr 1
    omega
  rw [e, this, frs_app]
  exact atI_last _ _
theorem whole_sz {p : ProgR} (h : OkP p) : Sz 347 (wholeM p) := marks_sz h _ (List.mem_of_getElem? whole_mem)
/-- a value for a way: what is told, what is raised -/
def WayQ (p : ProgR) (d : D) (q1 : Rat → Prop) (q2 : Prop) : Prop := (∃ (w : Rat) (n : Nat), d = fr w ∧ Sz n w ∧ n ≤ 2000 ∧ (0 ≤ w → w ≤ wholeM p → q1 w) ∧ (w < 0 ∨ wholeM p < w → q2)) ∨ (plain 40 d = true ∧ isFr d = false ∧ q2)
theorem WayQ.ok {p : ProgR} {w : Rat} {n : Nat} {q1 : Rat → Prop} {q2 : Prop} (h : Sz n w) (hn : n ≤ 2000) (h0 : 0 ≤ w) (h1 : w ≤ wholeM p) (q : q1 w) : WayQ p (fr w) q1 q2 := .inl ⟨w, n, rfl, h, hn, fun _ _ => q, fun z => by grind⟩
end DL
set_option Elab.async false
set_option linter.all false
set_option autoImplicit false
set_option maxHeartbeats 4000000
set_option maxRecDepth 100000
set_option exponentiation.threshold 20000
/-! Tuples times a number, tuples backwards; data that is small. -/
namespace HT
open PySem PyProof.Rows PySem.SeqAt
open PySem.AutoSeq1 (wpAny_loadPart')
open PySem.MeetsSeq PySem.MeetsSeq2 PySem.MeetsSeq3
section
variable {prog : Program} {w : World} {A : Around} {E : Value → Shared → Prop} {s : Shared}
theorem sliceApplied_rev {sl : Addr} {vl vu vs : Value} {n : Nat} {Q : Int × Int × Nat → Shared → Prop} (hs : s.heap.IsSliceOf sl vl vu vs) (pl : IsPart vl none) (pu : IsPart vu none) (ps : IsPart vs (some (-1)))
    (h : Q ((n : Int) - 1, -1, n) s) : wpAny (model prog w) A (Builtin.Slice.sliceApplied (.ref sl) (pure (n : Int))) Q E s := by
  obtain ⟨os, hos, hcs, hds⟩ := id hs
  unfold Builtin.Slice.sliceApplied Builtin.Slice.sliceFields
  refine wpAny_bind (wpAny_bind (wpAny_field hos hds (x := vl) rfl (wpAny_bind (wpAny_field hos hds (x := vu) rfl (wpAny_bind (wpAny_field hos hds (x := vs) rfl (wpAny_pure ?_)))))))
  refine wpAny_bind (slicePart_ ps ?_)
  show wpAny _ _ (if ((-1 : Int) == 0) = true then _ else _) _ _ s
  rw [if_neg (by decide)]
  refine wpAny_bind (slicePart_ pl (wpAny_bind (slicePart_ pu (wpAny_bind (wpAny_pure ?_)))))
  have e : Builtin.Slice.slicePlaces ((n : Int) - 1) (-1) (-1) = n := by
    unfold Builtin.Slice.slicePlaces
    have h1 : ¬ ((-1 : Int) > 0) := by omega
    simp only [h1, if_false]
    have : ((n : Int) - 1 - -1 - 1) / (- -1) = (n : Int) - 1 := by
      have : (- -1 : Int) = 1 := rfl
      rw [this, Int.ediv_one]
      omega
    rw [this]
    split <;> omega
  show wpAny _ _ (pure ((n : Int) - 1, (-1 : Int), Builtin.Slice.slicePlaces ((n : Int) - 1) (-1) (-1))) _ _ s
  rw [e]
  exact wpAny_pure h
theorem fm_congr {α β : Type} {f g : α → Option β} : ∀ {l : List α}, (∀ x ∈ l, f x = g x) → l.filterMap f = l.filterMap g
  | [], _ => rfl
  | x :: r, h => by
    rw [List.filterMap_cons, List.filterMap_cons, h x List.mem_cons_self, fm_congr fun y m => h y (List.mem_cons_of_mem _ m)]
theorem pick_rev (xs : Array Value) : ((List.range xs.size).filterMap fun (m : Nat) => xs[((xs.size : Int) - 1 + (m : Int) * -1).toNat]?).toArray = xs.toList.reverse.toArray := by
  have k := PySem.W.krv_all xs.toList.reverse.toArray
  have hs : xs.toList.reverse.toArray.size = xs.size := by simp
  rw [hs] at k
  have k : (List.range xs.size).filterMap (xs.toList.reverse.toArray[·]?) = xs.toList.reverse := k
  rw [← k]
  congr 1
  refine fm_congr fun m hm => ?_
  have hm := List.mem_range.mp hm
  have e : ((xs.size : Int) - 1 + (m : Int) * -1).toNat = xs.size - 1 - m := by omega
  have q : xs.toList.reverse[m]? = xs.toList[xs.toList.length - 1 - m]? := List.getElem?_reverse (by simpa using hm)
  have q2 : xs.toList.reverse.toArray[m]? = xs.toList.reverse[m]? := List.getElem?_toArray
  rw [e]
  refine Eq.trans ?_ (q2.trans q).symm
  simp
theorem getItem_tuple_rev {t sl : Addr} {items : Array Value} {vl vu vs : Value} {Q : Value → Shared → Prop} (ht : IsTup s.heap t items) (hs : s.heap.IsSliceOf sl vl vu vs) (pl : IsPart vl none) (pu : IsPart vu none) (ps : IsPart vs (some (-1)))
    (h : Q (.ref s.heap.objs.size) { s with heap := s.heap.push { cls := .type "tuple", data := .seq items.toList.reverse.toArray } })
    (hsz : items.size ≤ sizeLine) : wpAny (model prog w) A (getItem (.ref t) (.ref sl)) Q E s := by
  have htake : sizeOk (.seq items.toList.reverse.toArray) := by
    show items.toList.reverse.toArray.size ≤ sizeLine
    rw [List.size_toArray, List.length_reverse, Array.length_toList]
    exact hsz
  obtain ⟨os, hos, hcs, hds⟩ := id hs
  have hTs : s.TypeIs (.ref sl) "slice" := ⟨os, hos, hcs⟩
  unfold getItem
  try with_reducible refine wpAny_holding ?_
  first | refine wpAny_bind (wpAny_pure ?_) | skip
  refine wpAny_bind (wpAny_sequenceKey ht.typeIs (by decide) ?_)
  refine wpAny_bind (wpAny_callSpecial?_slot (name := Str.ofString "__getitem__") ht.typeIs PyProof.Rows.slot_tuple_getitem
    (wpAny_call_entry PyProof.Rows.slot_tuple_getitem ht.typeIs entry_tuple_getitem ?_ (args_tuple_getitem _ _)))
  show wpAny _ _ (Builtin.Tuple.tupleItemsOf (.ref t) >>= _) _ _ s
  refine wpAny_bind (tupleItemsOf_ ht ?_)
  refine wpAny_bind (wpAny_typeOf hTs ?_)
  rw [if_pos (by decide)]
  refine wpAny_bind (sliceApplied_rev hs pl pu ps ?_)
  have hno : ¬ ((((items.size : Int) - 1) == 0 && (-1 : Int) == 1 && items.size == items.size) = true) := by
    intro q
    rw [Bool.and_eq_true, Bool.and_eq_true] at q
    exact absurd q.1.2 (by decide)
  show wpAny _ _ (if (((items.size : Int) - 1) == 0 && (-1 : Int) == 1 && items.size == items.size) = true then _ else _) _ _ s
  rw [if_neg hno, pick_rev]
  first
    | exact wpAny_bind (m := Builtin.Tuple.tupleExact _) (wpAny_newObj_type (wpAny_pure ⟨_, rfl, wpAny_pure h⟩) htake)
    | exact wpAny_bind (m := Builtin.Tuple.tupleExact _) (wpAny_newObj_type (wpAny_bind (wpAny_pure (wpAny_pure ⟨_, rfl, wpAny_pure h⟩))) htake)
    | exact wpAny_bind (wpAny_bind (m := Builtin.Tuple.tupleExact _) (wpAny_newObj_type (wpAny_pure (wpAny_pure ⟨_, rfl, wpAny_pure h⟩)) htake))
    | exact wpAny_bind (wpAny_bind (m := Builtin.Tuple.tupleExact _) (wpAny_newObj_type (wpAny_pure ⟨_, rfl, wpAny_pure h⟩) htake))
end
end HT
namespace L2
open PySem PySem.Spec PyProof.Rows
section
variable {X : Cx}
def tRevT (K : PySem.W.Frag) (te : TE) : TE := fun σ H Q => te σ H fun x H1 => ∃ a xs, x = .ref a ∧ SqT K H1 a xs ∧ ∀ p, H1 p = none → Q (.ref p) (upd H1 p (.tup xs.reverse))
theorem pe_revT {e : Expr} {te : TE} {k : Nat} {p1 p2 p3 pos : Pos} (he : PE X e te) : PE X (.Subscript e (.Slice none none (some (.UnaryOp .USub (.Constant (.int 1) k p1) p2)) p3) pos) (tRevT X.K te) := by
  refine ⟨fun pins s σ H Q I h => ?_⟩
  refine Subscript_ (thn (he.run pins s σ H _ I h) fun v s1 ⟨x, H1, I1, r1, q1⟩ => ?_)
  obtain ⟨a, xs, ex, hx, q⟩ := q1
  subst ex
  cases r1
  have hst : PO X (some (.UnaryOp .USub (.Constant (.int 1) k p1) p2)) (tPart (tUn (rU fun i => .int (-i)) (tC (.int 1)))) := po_some (pe_un un_neg pe_int)
  refine wpAny_Slice (thn (po_none.run pins s1 σ H1 (fun o H2 => o = none ∧ H2 = H1) I1 ⟨rfl, rfl⟩) fun vl s2 ⟨l, H2, I2, pl, el, e2⟩ => ?_)
  subst el e2
  refine thn (po_none.run pins s2 σ H2 (fun o H3 => o = none ∧ H3 = H2) I2 ⟨rfl, rfl⟩) fun vu s3 ⟨u, H3, I3, pu, eu, e3⟩ => ?_
  subst eu e3
  refine thn (hst.run pins s3 σ H3 (fun o H4 => o = some (-1) ∧ H4 = H3) I3 ⟨1, rfl, -1, rfl, rfl, rfl⟩) fun vs s4 ⟨o, H4, I4, ps, eo, e4⟩ => ?_
  subst eo e4
  have I5 : Inv X pins σ H4 { s4 with heap := s4.heap.push { cls := .type "slice", data := .fields #[vl, vu, vs] } } := I4.kept (t' := s4.toks) fun b ob q => Heap.get?_push_of_some _ q
  obtain ⟨its, r, ht, hz⟩ := I5.tuple hx
  have hlen := r.length
  show wpAny (model X.prog X.w) X.A (subscriptTail e (.Slice none none (some (.UnaryOp .USub (.Constant (.int 1) k p1) p2)) p3) (.ref a) (.ref s4.heap.objs.size)) (EP X pins σ Q) X.xe { s4 with heap := s4.heap.push { cls := .type "slice", data := .fields #[vl, vu, vs] } }
  refine tail_any (ops := [.ref a, .ref s4.heap.objs.size]) ht.typeIs (PyProof.Rows.slot_tuple_getitem.lookup) ?_ (by with_unfolding_all rfl)
  refine HT.getItem_tuple_rev ht (Heap.IsSliceOf.new _ vl vu vs) pl pu ps ?_ (by rw [List.size_toArray]; omega)
  refine ⟨.ref _, _, I5.laid (t' := s4.toks) (o := .tup xs.reverse) (fun b ob q => Heap.get?_push_of_some _ q) (Nat.le_refl _) ?_, rfl, q _ (I5.hok.fresh (Nat.le_refl _))⟩
  exact ⟨by rw [List.length_reverse]; exact hz, _, r.reverse, IsTup.new _ _⟩
end
end L2
namespace DL
open PySem PySem.Spec PyProof.Rows L2
section
variable {K : PySem.W.Frag} {Z : SrcK} {X : Cx} {E : L2.St → XK} {a : Expr} {wa : EW} {pos : Pos}
def bRevT : Op1
  | .tup xs, Q => Q (.tup xs.reverse)
  | _, _ => False
theorem de_revT {k : Nat} {p1 p2 p3 : Pos} (ha : DE Z X E a wa) : DE Z X E (.Subscript a (.Slice none none (some (.UnaryOp .USub (.Constant (.int 1) k p1) p2)) p3) pos) (wUn bRevT wa) := by
  obtain ⟨t, p, l⟩ := ha
  refine ⟨_, pe_revT p, fun c F H σ ρ Xd Qd Qv e k h q => ?_⟩
  refine l c F H σ ρ Xd _ _ e k h fun d v F1 H1 h1 e1 s1 n1 r1 => ?_
  cases d with
  | tup xs =>
    obtain ⟨a, vs, rfl, h4, h5⟩ := r1
    refine ⟨a, vs, rfl, same_t e1.fh h4, fun p hp => ?_⟩
    obtain ⟨x, r⟩ := lay_tup e1.fh h5.rev hp
    exact q _ _ _ _ h1 (e1.ext x) (s1.trans x.ff) (n1.trans x.kx) r
  | non => exact h1.elim
  | bl _ => exact h1.elim
  | int _ => exact h1.elim
  | str _ => exact h1.elim
  | lst _ => exact h1.elim
  | ins _ _ _ => exact h1.elim
/-- a tuple times a number -/
def bMulT : Op2
  | .tup xs, .int k, Q => xs ≠ [] ∧ 2 ≤ k ∧ k ≤ 1000 ∧ xs.length ≤ 1000 ∧ Q (.tup (List.replicate k.toNat xs).flatten)
  | _, _, _ => False
theorem rep_flat {F : Hp} {xs : List D} {vs : List V} (h : RepL K F xs vs) : ∀ m : Nat, RepL K F (List.replicate m xs).flatten (List.replicate m vs).flatten
  | 0 => rfl
  | m + 1 => by
    rw [List.replicate_succ, List.replicate_succ, List.flatten_cons, List.flatten_cons]
    exact h.app (rep_flat h m)
theorem lop_repT : LOp K (rRepT K) bMulT := fun F H dx dy vx vy Qd Qv s rx ry z q => by
  unfold bMulT at z
  split at z
  · rename_i xs k
    obtain ⟨a, vs, rfl, ha, ra⟩ := rx
    have ry : vy = .int k := ry
    subst ry
    refine ⟨a, k, vs, rfl, rfl, same_t s ha, fun e => z.1 (List.eq_nil_of_length_eq_zero ?_), z.2.1, z.2.2.1, by rw [ra.len]; exact z.2.2.2.1, fun p hp => ?_⟩
    · rw [← ra.len, e]
      rfl
    · obtain ⟨x, r⟩ := lay_tup s (rep_flat ra k.toNat) hp
      exact q _ _ _ _ z.2.2.2.2 x r
  · exact z.elim
end
/-! ### small data -/
mutual
def fin (b : Nat) : D → Prop
  | .non => True
  | .bl _ => True
  | .int i => i.natAbs < 2 ^ b
  | .str s => PyData.strOk s = true ∧ s.length ≤ 4
  | .tup xs => finL b xs
  | .lst xs => finL b xs
  | .ins _ _ _ => False
def finL (b : Nat) : List D → Prop
  | [] => True
  | x :: xs => fin b x ∧ finL b xs
end
mutual
def dep : D → Nat
  | .tup xs => depL xs + 1
  | .lst xs => depL xs + 1
  | .non => 1
  | .bl _ => 1
  | .int _ => 1
  | .str _ => 1
  | .ins _ _ _ => 1
def depL : List D → Nat
  | [] => 0
  | x :: xs => max (dep x) (depL xs)
end
mutual
def cnt : D → Nat
  | .tup xs => cntL xs + 1
  | .lst xs => cntL xs + 1
  | .non => 1
  | .bl _ => 1
  | .int _ => 1
  | .str _ => 1
  | .ins _ _ _ => 1
def cntL : List D → Nat
  | [] => 0
  | x :: xs => cnt x + cntL xs
end
structure Gd (b n c : Nat) (x : D) : Prop where
  f : fin b x
  d : dep x ≤ n
  c : cnt x ≤ c
theorem cnt_pos (d : D) : 1 ≤ cnt d := by
  cases d <;> simp [cnt]
theorem cnt_len : ∀ xs : List D, xs.length ≤ cntL xs
  | [] => Nat.zero_le _
  | x :: xs => by
    have := cnt_pos x
    have := cnt_len xs
    rw [List.length_cons, cntL]
    omega
mutual
theorem short_gd {b : Nat} : ∀ (d : D) (n : Nat), fin b d → dep d ≤ n → cnt d ≤ 1000 → short n d = true
  | .tup xs, 0, _, h, _ => by simp [dep] at h
  | .lst xs, 0, _, h, _ => by simp [dep] at h
  | .non, 0, _, h, _ => by simp [dep] at h
  | .bl _, 0, _, h, _ => by simp [dep] at h
  | .int _, 0, _, h, _ => by simp [dep] at h
  | .str _, 0, _, h, _ => by simp [dep] at h
  | .ins _ _ _, _, h, _, _ => by simp [fin] at h
  | .non, n + 1, _, _, _ => rfl
  | .bl _, n + 1, _, _, _ => rfl
  | .int _, n + 1, _, _, _ => rfl
  | .str s, n + 1, h, _, _ => h.1
  | .tup xs, n + 1, h, e, c => by
    simp only [fin] at h
    simp only [dep] at e
    simp only [cnt] at c
    have := cnt_len xs
    simp only [short, Bool.and_eq_true, decide_eq_true_eq]
    exact ⟨by omega, shortL_gd xs n h (by omega) (by omega)⟩
  | .lst xs, n + 1, h, e, c => by
    simp only [fin] at h
    simp only [dep] at e
    simp only [cnt] at c
    have := cnt_len xs
    simp only [short, Bool.and_eq_true, decide_eq_true_eq]
    exact ⟨by omega, shortL_gd xs n h (by omega) (by omega)⟩
theorem shortL_gd {b : Nat} : ∀ (xs : List D) (n : Nat), finL b xs → depL xs ≤ n → cntL xs ≤ 1000 → shortL n xs = true
  | [], _, _, _, _ => by simp [shortL]
  | x :: xs, n, h, e, c => by
    simp only [finL] at h
    simp only [depL] at e
    simp only [cntL] at c
    simp only [shortL, Bool.and_eq_true]
    exact ⟨short_gd x n h.1 (by omega) (by omega), shortL_gd xs n h.2 (by omega) (by omega)⟩
end
mutual
theorem sml_gd {b : Nat} (hb : b ≤ 4000) : ∀ d : D, fin b d → sml d
  | .non, _ => by simp [sml]
  | .bl _, _ => by simp [sml]
  | .str _, _ => by simp [sml]
  | .ins _ _ _, h => by simp [fin] at h
  | .int i, h => by
    simp only [fin] at h
    simp only [sml]
    exact Nat.lt_of_lt_of_le h (Nat.pow_le_pow_right (by omega) hb)
  | .tup xs, h => by
    simp only [fin] at h
    simp only [sml]
    exact smlL_gd hb xs h
  | .lst xs, h => by
    simp only [fin] at h
    simp only [sml]
    exact smlL_gd hb xs h
theorem smlL_gd {b : Nat} (hb : b ≤ 4000) : ∀ xs : List D, finL b xs → smlL xs
  | [], _ => by simp [smlL]
  | x :: xs, h => by
    simp only [finL] at h
    simp only [smlL]
    exact ⟨sml_gd hb x h.1, smlL_gd hb xs h.2⟩
end
mutual
theorem tiny_gd {b : Nat} (hb : b ≤ 400) : ∀ d : D, fin b d → tiny4 d
  | .non, _ => by simp [tiny4]
  | .bl _, _ => by simp [tiny4]
  | .str _, _ => by simp [tiny4]
  | .ins _ _ _, h => by simp [fin] at h
  | .int i, h => by
    simp only [fin] at h
    simp only [tiny4]
    exact Nat.lt_of_lt_of_le h (Nat.pow_le_pow_right (by omega) hb)
  | .tup xs, h => by
    simp only [fin] at h
    simp only [tiny4]
    exact tinyL_gd hb xs h
  | .lst xs, h => by
    simp only [fin] at h
    simp only [tiny4]
    exact tinyL_gd hb xs h
theorem tinyL_gd {b : Nat} (hb : b ≤ 400) : ∀ xs : List D, finL b xs → tiny4L xs
  | [], _ => by simp [tiny4L]
  | x :: xs, h => by
    simp only [finL] at h
    simp only [tiny4L]
    exact ⟨tiny_gd hb x h.1, tinyL_gd hb xs h.2⟩
end
mutual
theorem cost_gd {b : Nat} : ∀ d : D, fin b d → cost d + 2 ≤ cnt d * (b + 60)
  | .non, _ => by simp only [cost, cnt]; omega
  | .bl _, _ => by simp only [cost, cnt]; omega
  | .str s, h => by
    simp only [fin] at h
    simp only [cost, cnt]
    omega
  | .ins _ _ _, h => by simp [fin] at h
  | .int i, h => by
    simp only [fin] at h
    have := log_lt h (Nat.lt_succ_self b)
    simp only [cost, cnt]
    omega
  | .tup xs, h => by
    simp only [fin] at h
    have := costL_gd xs h
    simp only [cost, cnt]
    rw [Nat.add_mul]
    omega
  | .lst xs, h => by
    simp only [fin] at h
    have := costL_gd xs h
    simp only [cost, cnt]
    rw [Nat.add_mul]
    omega
theorem costL_gd {b : Nat} : ∀ xs : List D, finL b xs → costL xs ≤ cntL xs * (b + 60)
  | [], _ => by simp [costL]
  | x :: xs, h => by
    simp only [finL] at h
    have h1 := cost_gd x h.1
    have h2 := costL_gd xs h.2
    simp only [costL, cntL]
    rw [Nat.add_mul]
    omega
end
mutual
theorem fin_mono {b b' : Nat} (hb : b ≤ b') : ∀ d : D, fin b d → fin b' d
  | .non, _ => by simp [fin]
  | .bl _, _ => by simp [fin]
  | .str _, h => by
    simp only [fin] at h ⊢
    exact h
  | .ins _ _ _, h => by simp [fin] at h
  | .int i, h => by
    simp only [fin] at h ⊢
    exact Nat.lt_of_lt_of_le h (Nat.pow_le_pow_right (by omega) hb)
  | .tup xs, h => by
    simp only [fin] at h ⊢
    exact finL_mono hb xs h
  | .lst xs, h => by
    simp only [fin] at h ⊢
    exact finL_mono hb xs h
theorem finL_mono {b b' : Nat} (hb : b ≤ b') : ∀ xs : List D, finL b xs → finL b' xs
  | [], _ => by simp [finL]
  | x :: xs, h => by
    simp only [finL] at h ⊢
    exact ⟨fin_mono hb x h.1, finL_mono hb xs h.2⟩
end
theorem Gd.mono {b n c b' n' c' : Nat} {d : D} (h : Gd b n c d) (hb : b ≤ b') (hn : n ≤ n') (hc : c ≤ c') : Gd b' n' c' d := ⟨fin_mono hb d h.f, Nat.le_trans h.d hn, Nat.le_trans h.c hc⟩
theorem Gd.ok {b n c : Nat} {d : D} (h : Gd b n c d) (hb : b ≤ 4000) (hn : n ≤ 39) (hc : c ≤ 1000) : okD d := ⟨short_gd d 40 h.f (Nat.le_trans h.d (by omega)) (Nat.le_trans h.c hc), sml_gd hb d h.f⟩
/-- lists of small data -/
structure GdL (b n c : Nat) (xs : List D) : Prop where
  f : finL b xs
  d : depL xs ≤ n
  c : cntL xs ≤ c
theorem finL_app {b : Nat} : ∀ {xs ys : List D}, finL b xs → finL b ys → finL b (xs ++ ys)
  | [], _, _, k => k
  | x :: xs, ys, h, k => by
    simp only [finL] at h
    show finL b (x :: (xs ++ ys))
    simp only [finL]
    exact ⟨h.1, finL_app h.2 k⟩
theorem depL_app : ∀ xs ys : List D, depL (xs ++ ys) = max (depL xs) (depL ys)
  | [], ys => by simp [depL]
  | x :: xs, ys => by
    show depL (x :: (xs ++ ys)) = _
    simp only [depL]
    rw [depL_app xs ys, Nat.max_assoc]
theorem cntL_app : ∀ xs ys : List D, cntL (xs ++ ys) = cntL xs + cntL ys
  | [], ys => by simp [cntL]
  | x :: xs, ys => by
    show cntL (x :: (xs ++ ys)) = _
    simp only [cntL]
    rw [cntL_app xs ys]
    omega
theorem finL_el {b : Nat} {xs : List D} : finL b xs ↔ ∀ x ∈ xs, fin b x := by
  induction xs with
  | nil => simp [finL]
  | cons x r ih => simp [finL, ih]
theorem dep_el {xs : List D} {x : D} (h : x ∈ xs) : dep x ≤ depL xs := by
  induction xs with
  | nil => cases h
  | cons y r ih =>
    simp only [depL]
    rcases List.mem_cons.mp h with e | m
    · rw [e]
      omega
    · have := ih m
      omega
theorem cnt_el {xs : List D} {x : D} (h : x ∈ xs) : cnt x ≤ cntL xs := by
  induction xs with
  | nil => cases h
  | cons y r ih =>
    simp only [cntL]
    rcases List.mem_cons.mp h with e | m
    · rw [e]
      omega
    · have := ih m
      omega
theorem GdL.app {b n c c' : Nat} {xs ys : List D} (h : GdL b n c xs) (k : GdL b n c' ys) : GdL b n (c + c') (xs ++ ys) := ⟨finL_app h.f k.f, by
  have := h.d
  have := k.d
  rw [depL_app]
  omega, by
  have := h.c
  have := k.c
  rw [cntL_app]
  omega⟩
theorem GdL.mono {b n c b' n' c' : Nat} {d : List D} (h : GdL b n c d) (hb : b ≤ b') (hn : n ≤ n') (hc : c ≤ c') : GdL b' n' c' d := ⟨finL_mono hb d h.f, Nat.le_trans h.d hn, Nat.le_trans h.c hc⟩
theorem GdL.of_app {b n c : Nat} {xs ys : List D} (h : GdL b n c (xs ++ ys)) : GdL b n c xs ∧ GdL b n c ys ∧ cntL xs + cntL ys ≤ c := by
  have e1 := h.d
  have e2 := h.c
  rw [depL_app] at e1
  rw [cntL_app] at e2
  have e3 := finL_el.mp h.f
  exact ⟨⟨finL_el.mpr fun x m => e3 x (List.mem_append_left _ m), by omega, by omega⟩, ⟨finL_el.mpr fun x m => e3 x (List.mem_append_right _ m), by omega, by omega⟩, e2⟩
theorem GdL.one {b n c : Nat} {d : D} (h : Gd b n c d) : GdL b n c [d] := ⟨by simp only [finL]; exact ⟨h.f, trivial⟩, by
  have := h.d
  simp only [depL]
  omega, by
  have := h.c
  simp only [cntL]
  omega⟩
theorem GdL.tup {b n c : Nat} {xs : List D} (h : GdL b n c xs) : Gd b (n + 1) (c + 1) (.tup xs) := ⟨by simp only [fin]; exact h.f, by simp only [dep]; exact Nat.succ_le_succ h.d, by simp only [cnt]; exact Nat.succ_le_succ h.c⟩
theorem GdL.lst {b n c : Nat} {xs : List D} (h : GdL b n c xs) : Gd b (n + 1) (c + 1) (.lst xs) := ⟨by simp only [fin]; exact h.f, by simp only [dep]; exact Nat.succ_le_succ h.d, by simp only [cnt]; exact Nat.succ_le_succ h.c⟩
theorem Gd.in {b n c : Nat} {xs : List D} (h : Gd b (n + 1) (c + 1) (.tup xs)) : GdL b n c xs := ⟨by have := h.f; simp only [fin] at this; exact this, by have := h.d; simp only [dep] at this; omega, by have := h.c; simp only [cnt] at this; omega⟩
theorem GdL.el {b n c : Nat} {xs : List D} (h : GdL b n c xs) {x : D} (m : x ∈ xs) : Gd b n c x := ⟨finL_el.mp h.f x m, Nat.le_trans (dep_el m) h.d, Nat.le_trans (cnt_el m) h.c⟩
theorem GdL.rev {b n c : Nat} : ∀ {xs : List D}, GdL b n c xs → GdL b n c xs.reverse
  | xs, h => by
    have dr : ∀ ys : List D, depL ys.reverse = depL ys ∧ cntL ys.reverse = cntL ys := fun ys => by
      induction ys with
      | nil => exact ⟨rfl, rfl⟩
      | cons y r ih =>
        rw [List.reverse_cons, depL_app, cntL_app, ih.1, ih.2]
        simp only [depL, cntL]
        omega
    have := dr xs
    exact ⟨finL_el.mpr fun x m => finL_el.mp h.f x (List.mem_reverse.mp m), by rw [this.1]; exact h.d, by rw [this.2]; exact h.c⟩
theorem gd_fr {n : Nat} {q : Rat} (h : Sz n q) : Gd n 2 3 (fr q) := by
  refine ⟨?_, by simp [fr, dep, depL], by simp [fr, cnt, cntL]⟩
  show fin n (.tup [.int q.num, .int q.den])
  simp only [fin, finL]
  exact ⟨h.1, h.den, trivial⟩
end DL
set_option linter.all false
set_option autoImplicit false
set_option maxHeartbeats 4000000
set_option maxRecDepth 100000
set_option exponentiation.threshold 20000
/-! Data whose lists are short, whatever they are; programs found by their look. -/
namespace DL
open PySem PySem.Spec PyProof.Rows L2
mutual
def wid : D → Nat
  | .tup xs => max xs.length (widL xs)
  | .lst xs => max xs.length (widL xs)
  | .non => 0
  | .bl _ => 0
  | .int _ => 0
  | .str _ => 0
  | .ins _ _ _ => 0
def widL : List D → Nat
  | [] => 0
  | x :: xs => max (wid x) (widL xs)
end
mutual
theorem short_wd {b : Nat} : ∀ (d : D) (n : Nat), fin b d → dep d ≤ n → wid d ≤ 1000 → short n d = true
  | .tup xs, 0, _, h, _ => by simp [dep] at h
  | .lst xs, 0, _, h, _ => by simp [dep] at h
  | .non, 0, _, h, _ => by simp [dep] at h
  | .bl _, 0, _, h, _ => by simp [dep] at h
  | .int _, 0, _, h, _ => by simp [dep] at h
  | .str _, 0, _, h, _ => by simp [dep] at h
  | .ins _ _ _, _, h, _, _ => by simp [fin] at h
  | .non, n + 1, _, _, _ => rfl
  | .bl _, n + 1, _, _, _ => rfl
  | .int _, n + 1, _, _, _ => rfl
  | .str s, n + 1, h, _, _ => h.1
  | .tup xs, n + 1, h, e, c => by
    simp only [fin] at h
    simp only [dep] at e
    simp only [wid] at c
    simp only [short, Bool.and_eq_true, decide_eq_true_eq]
    exact ⟨by omega, shortL_wd xs n h (by omega) (by omega)⟩
  | .lst xs, n + 1, h, e, c => by
    simp only [fin] at h
    simp only [dep] at e
    simp only [wid] at c
    simp only [short, Bool.and_eq_true, decide_eq_true_eq]
    exact ⟨by omega, shortL_wd xs n h (by omega) (by omega)⟩
theorem shortL_wd {b : Nat} : ∀ (xs : List D) (n : Nat), finL b xs → depL xs ≤ n → widL xs ≤ 1000 → shortL n xs = true
  | [], _, _, _, _ => by simp [shortL]
  | x :: xs, n, h, e, c => by
    simp only [finL] at h
    simp only [depL] at e
    simp only [widL] at c
    simp only [shortL, Bool.and_eq_true]
    exact ⟨short_wd x n h.1 (by omega) (by omega), shortL_wd xs n h.2 (by omega) (by omega)⟩
end
/-- small data, lists at most l long -/
structure Gw (b n c l : Nat) (x : D) : Prop where
  g : Gd b n c x
  w : wid x ≤ l
structure GwL (b n c l : Nat) (xs : List D) : Prop where
  g : GdL b n c xs
  w : widL xs ≤ l
theorem widL_app : ∀ xs ys : List D, widL (xs ++ ys) = max (widL xs) (widL ys)
  | [], ys => by simp [widL]
  | x :: xs, ys => by
    show widL (x :: (xs ++ ys)) = _
    simp only [widL]
    rw [widL_app xs ys, Nat.max_assoc]
theorem wid_el {xs : List D} {x : D} (h : x ∈ xs) : wid x ≤ widL xs := by
  induction xs with
  | nil => cases h
  | cons y r ih =>
    simp only [widL]
    rcases List.mem_cons.mp h with e | m
    · rw [e]
      omega
    · have := ih m
      omega
variable {b n c l b' n' c' l' : Nat} {x : D} {xs ys : List D}
theorem Gw.mono (h : Gw b n c l x) (hb : b ≤ b') (hn : n ≤ n') (hc : c ≤ c') (hl : l ≤ l') : Gw b' n' c' l' x := ⟨h.g.mono hb hn hc, Nat.le_trans h.w hl⟩
theorem GwL.mono (h : GwL b n c l xs) (hb : b ≤ b') (hn : n ≤ n') (hc : c ≤ c') (hl : l ≤ l') : GwL b' n' c' l' xs := ⟨h.g.mono hb hn hc, Nat.le_trans h.w hl⟩
theorem Gw.short (h : Gw b n c l x) {m : Nat} (hn : n ≤ m) (hl : l ≤ 1000) : DL.short m x = true := short_wd x m h.g.f (Nat.le_trans h.g.d hn) (Nat.le_trans h.w hl)
theorem Gw.ok (h : Gw b n c l x) (hb : b ≤ 4000) (hn : n ≤ 39) (hl : l ≤ 1000) : okD x := ⟨h.short (by omega) hl, sml_gd hb x h.g.f⟩
theorem GwL.app (h : GwL b n c l xs) (k : GwL b n c' l ys) : GwL b n (c + c') l (xs ++ ys) := ⟨h.g.app k.g, by
  have := h.w
  have := k.w
  rw [widL_app]
  omega⟩
theorem GwL.of_app (h : GwL b n c l (xs ++ ys)) : GwL b n c l xs ∧ GwL b n c l ys ∧ cntL xs + cntL ys ≤ c := by
  have e1 := h.w
  rw [widL_app] at e1
  obtain ⟨p, q, r⟩ := h.g.of_app
  exact ⟨⟨p, by omega⟩, ⟨q, by omega⟩, r⟩
theorem GwL.one (h : Gw b n c l x) : GwL b n c l [x] := ⟨GdL.one h.g, by
  have := h.w
  simp only [widL]
  omega⟩
theorem GwL.tup (h : GwL b n c l xs) (k : xs.length ≤ l) : Gw b (n + 1) (c + 1) l (.tup xs) := ⟨h.g.tup, by
  have := h.w
  simp only [wid]
  omega⟩
theorem GwL.lst (h : GwL b n c l xs) (k : xs.length ≤ l) : Gw b (n + 1) (c + 1) l (.lst xs) := ⟨h.g.lst, by
  have := h.w
  simp only [wid]
  omega⟩
theorem Gw.in (h : Gw b (n + 1) (c + 1) l (.tup xs)) : GwL b n c l xs ∧ xs.length ≤ l := by
  have := h.w
  simp only [wid] at this
  exact ⟨⟨h.g.in, by omega⟩, by omega⟩
theorem GwL.el (h : GwL b n c l xs) (m : x ∈ xs) : Gw b n c l x := ⟨h.g.el m, Nat.le_trans (wid_el m) h.w⟩
theorem GwL.nil : GwL b n c l [] := ⟨⟨by simp [finL], by simp [depL], by simp [cntL]⟩, by simp [widL]⟩
theorem GwL.cons (h : Gw b n c l x) (k : GwL b n c' l ys) : GwL b n (c + c') l (x :: ys) := (GwL.one h).app k
theorem GwL.rev (h : GwL b n c l xs) : GwL b n c l xs.reverse := by
  have dr : ∀ ys : List D, widL ys.reverse = widL ys := fun ys => by
    induction ys with
    | nil => rfl
    | cons y r ih =>
      rw [List.reverse_cons, widL_app, ih]
      simp only [widL]
      omega
  exact ⟨h.g.rev, by rw [dr]; exact h.w⟩
theorem gw_map {α : Type} {f : α → D} {as : List α} (h : ∀ a ∈ as, Gw b n c l (f a)) : GwL b n (as.length * c) l (as.map f) := by
  induction as with
  | nil => exact GwL.nil
  | cons a r ih =>
    have := GwL.cons (h a List.mem_cons_self) (ih fun y m => h y (List.mem_cons_of_mem _ m))
    rw [List.length_cons, Nat.succ_mul, Nat.add_comm]
    exact this
theorem gw_fr {q : Rat} (h : Sz n q) : Gw n 2 3 2 (fr q) := ⟨gd_fr h, by simp [fr, wid, widL]⟩
theorem gw_pt {ps : List Rat} (h : ∀ q ∈ ps, Sz b q) (hl : ps.length ≤ 3) : Gw b 3 10 3 (ptD ps) := by
  have := (gw_map (f := fr) (c := 3) (l := 3) (as := ps) fun q m => (gw_fr (h q m)).mono (Nat.le_refl _) (Nat.le_refl _) (Nat.le_refl _) (by decide)).tup (by rw [List.length_map]; exact hl)
  exact this.mono (Nat.le_refl _) (Nat.le_refl _) (by omega) (Nat.le_refl _)
theorem gw_pt4 {ps : List Rat} (h : ∀ q ∈ ps, Sz b q) (hl : ps.length ≤ 4) : Gw b 3 13 4 (ptD ps) := by
  have := (gw_map (f := fr) (c := 3) (l := 4) (as := ps) fun q m => (gw_fr (h q m)).mono (Nat.le_refl _) (Nat.le_refl _) (Nat.le_refl _) (by decide)).tup (by rw [List.length_map]; exact hl)
  exact this.mono (Nat.le_refl _) (Nat.le_refl _) (by omega) (Nat.le_refl _)
theorem gw_atom {d : D} (h : d = .non ∨ (∃ v, d = .bl v) ∨ ∃ i : Int, d = .int i ∧ i.natAbs < 2 ^ b) : Gw b 1 1 0 d := by
  rcases h with rfl | ⟨v, rfl⟩ | ⟨i, rfl, hi⟩
  · exact ⟨⟨by simp [fin], by simp [dep], by simp [cnt]⟩, by simp [wid]⟩
  · exact ⟨⟨by simp [fin], by simp [dep], by simp [cnt]⟩, by simp [wid]⟩
  · exact ⟨⟨by simp only [fin]; exact hi, by simp [dep], by simp [cnt]⟩, by simp [wid]⟩
theorem gw_four {a e f g : D} (ha : Gw b 3 13 4 a) (he : Gw b 3 13 4 e) (hf : Gw b 3 13 4 f) (hg : Gw b 3 13 4 g) : Gw b 4 53 4 (.tup [a, e, f, g]) :=
  (GwL.tup (GwL.cons ha (GwL.cons he (GwL.cons hf (GwL.cons hg (GwL.nil (c := 0)))))) (by simp)).mono (Nat.le_refl _) (Nat.le_refl _) (by omega) (Nat.le_refl _)
theorem gw_step {s : StepR} (hl : s.goal.length ≤ 3) (h1 : GrL (2 ^ 340) s.goal) (h2 : Sz 300 s.feed) (h3 : Sz 340 s.slow) : Gw 341 4 18 4 (stepD s) := by
  have a := (gw_pt (b := 341) (fun q m => (h1 q m).sz (by decide)) hl).mono (Nat.le_refl _) (Nat.le_refl _) (Nat.le_refl _) (show 3 ≤ 4 by decide)
  have e := (gw_fr h2).mono (show 300 ≤ 341 by decide) (show 2 ≤ 3 by decide) (Nat.le_refl _) (show 2 ≤ 4 by decide)
  have f := (gw_fr h3).mono (show 340 ≤ 341 by decide) (show 2 ≤ 3 by decide) (Nat.le_refl _) (show 2 ≤ 4 by decide)
  have g := (gw_atom (b := 341) (d := .bl s.stop) (.inr (.inl ⟨_, rfl⟩))).mono (Nat.le_refl _) (show 1 ≤ 3 by decide) (Nat.le_refl _) (show 0 ≤ 4 by decide)
  exact (GwL.tup (GwL.cons a (GwL.cons e (GwL.cons f (GwL.cons g (GwL.nil (c := 0)))))) (by simp)).mono (Nat.le_refl _) (Nat.le_refl _) (by omega) (Nat.le_refl _)
theorem gw_steps {pt : List Rat} {ss : List StepR} (hl : pt.length ≤ 3) (h : chainOk pt ss) (hs : ss.length ≤ 31) : GwL 341 4 (31 * 18) 31 (ss.map stepD) := by
  have := gw_map (f := stepD) (b := 341) (n := 4) (c := 18) (l := 31) (as := ss) fun s m => by
    obtain ⟨h1, h2, h3, h4⟩ := ok_steps hl h s m
    exact (gw_step h1 h2 h3 h4).mono (Nat.le_refl _) (Nat.le_refl _) (Nat.le_refl _) (by decide)
  exact this.mono (Nat.le_refl _) (Nat.le_refl _) (Nat.mul_le_mul_right _ hs) (Nat.le_refl _)
theorem gw_prog {p : ProgR} (h : OkP p) : Gw 341 6 570 31 (progD p) := by
  have a := (gw_pt (b := 341) (fun q m => (h.grid q m).sz (by decide)) h.axes.2).mono (Nat.le_refl _) (show 3 ≤ 5 by decide) (Nat.le_refl _) (show 3 ≤ 31 by decide)
  have st := (gw_steps h.axes.2 h.chain (by have := h.many; omega)).tup (by rw [List.length_map]; have := h.many; omega)
  exact (GwL.tup (GwL.cons a (GwL.cons st (GwL.nil (c := 0)))) (by simp)).mono (Nat.le_refl _) (Nat.le_refl _) (by omega) (Nat.le_refl _)
theorem gw_gr {ps : List Rat} (h : GrL (2 ^ 340) ps) (hl : ps.length ≤ 3) : Gw 341 3 10 3 (ptD ps) := gw_pt (fun q m => (h q m).sz (by decide)) hl
/-! ### programs by their look -/
theorem step_of {pt : List Rat} {s : D} (h : stepFault pt s = .non) : ∃ t : StepR, s = stepD t ∧ t.goal.length = pt.length := by
  unfold stepFault at h
  split at h
  · rename_i goal feed slow stop
    split at h
    · cases h
    · rename_i z
      rcases bcases (isPoint pt.length goal) with e | e
      · obtain ⟨g, rfl⟩ := isPoint_el e
        split at h
        · cases h
        · rename_i z2
          split at h
          · cases h
          · rename_i z3
            split at h
            · rename_i z4
              have f1 : isFr feed = true := by
                rcases bcases (isAbove feed) with e2 | e2
                · unfold isAbove at e2
                  simp only [Bool.and_eq_true] at e2
                  exact e2.1
                · exact absurd e2 z2
              have f2 : isFr slow = true := by
                rcases bcases (isAmount slow) with e2 | e2
                · unfold isAmount at e2
                  simp only [Bool.and_eq_true] at e2
                  exact e2.1
                · exact absurd (Or.inl e2) z3
              obtain ⟨p, rfl⟩ := isFr_el f1
              obtain ⟨q, rfl⟩ := isFr_el f2
              cases stop with
              | bl v =>
                refine ⟨⟨g, p, q, v⟩, rfl, ?_⟩
                unfold isPoint ptD at e
                simp only [Bool.and_eq_true, decide_eq_true_eq] at e
                have := e.1
                rw [frs_len] at this
                show g.length = _
                omega
              | _ => simp [isBool] at z4
            · cases h
      · exact absurd (Or.inl e) z
  · cases h
theorem faultGo_of : ∀ {ss : List D} {pt : List Rat} {k : Nat}, faultGo pt k ss = .non → ∃ ts : List StepR, ss = ts.map stepD ∧ ∀ t ∈ ts, t.goal.length = pt.length
  | [], _, _, _ => ⟨[], rfl, fun _ m => nomatch m⟩
  | s :: r, pt, k, h => by
    rw [faultGo] at h
    rcases stepFault_cases pt s with e | ⟨xs, e, _⟩
    · obtain ⟨t, rfl, ht⟩ := step_of e
      rw [e, goalOf_step] at h
      obtain ⟨ts, rfl, hts⟩ := faultGo_of h
      refine ⟨t :: ts, rfl, fun u m => ?_⟩
      rcases List.mem_cons.mp m with e | m
      · rw [e]
        exact ht
      · rw [hts u m, ht]
    · rw [e] at h
      cases h
/-- what is no fault is a program -/
structure LooksP (p : ProgR) : Prop where
  axes : 1 ≤ p.start.length ∧ p.start.length ≤ 3
  many : 1 ≤ p.steps.length ∧ p.steps.length ≤ 30
  goals : ∀ t ∈ p.steps, t.goal.length = p.start.length
theorem prog_of {d : D} (h : progFault d = .non) : ∃ p : ProgR, d = progD p ∧ LooksP p := by
  unfold progFault at h
  split at h
  · rename_i ps steps
    split at h
    · rename_i z
      obtain ⟨pt, rfl⟩ := frs_of fun x m => isFr_el (List.all_eq_true.mp z.2.2 x m)
      rw [unfr_frs] at h
      unfold stepsFault at h
      split at h
      · rename_i ss
        split at h
        · rename_i z2
          obtain ⟨ts, rfl, hts⟩ := faultGo_of h
          rw [List.length_map] at z2
          rw [frs_len] at z
          exact ⟨⟨pt, ts⟩, rfl, ⟨z.1, z.2.1⟩, z2, hts⟩
        · cases h
      · cases h
    · cases h
  · cases h
  · cases h
/-- places -/
def Place (n : Nat) (d : D) : Prop := ∃ is : List Int, d = .tup (is.map D.int) ∧ is.length ≤ n
theorem Place.short {m k : Nat} {d : D} (h : Place m d) (hm : m ≤ 1000) : DL.short (k + 2) d = true := by
  obtain ⟨is, rfl, hl⟩ := h
  simp only [DL.short, Bool.and_eq_true, decide_eq_true_eq, List.length_map]
  refine ⟨by omega, shortL_of fun x m => ?_⟩
  obtain ⟨i, _, rfl⟩ := List.mem_map.mp m
  rfl
theorem stepFault_place (pt : List Rat) (s : D) : stepFault pt s = .non ∨ Place 1 (stepFault pt s) := by
  unfold stepFault
  split
  · split
    · exact .inr ⟨[0], rfl, by decide⟩
    · split
      · exact .inr ⟨[1], rfl, by decide⟩
      · split
        · exact .inr ⟨[2], rfl, by decide⟩
        · split
          · exact .inl rfl
          · exact .inr ⟨[3], rfl, by decide⟩
  · exact .inr ⟨[], rfl, by decide⟩
theorem faultGo_place : ∀ (ss : List D) (pt : List Rat) (k : Nat), faultGo pt k ss = .non ∨ Place 3 (faultGo pt k ss)
  | [], _, _ => .inl rfl
  | s :: r, pt, k => by
    rw [faultGo]
    rcases stepFault_place pt s with e | ⟨is, e, hl⟩
    · rw [e]
      exact faultGo_place r _ _
    · rw [e]
      exact .inr ⟨1 :: (k : Int) :: is, rfl, by simp only [List.length_cons]; omega⟩
theorem progFault_place (d : D) : progFault d = .non ∨ Place 3 (progFault d) := by
  unfold progFault
  split
  · split
    · unfold stepsFault
      split
      · split
        · exact faultGo_place _ _ _
        · exact .inr ⟨[1], rfl, by decide⟩
      · exact .inr ⟨[1], rfl, by decide⟩
    · exact .inr ⟨[0], rfl, by decide⟩
  · exact .inr ⟨[0], rfl, by decide⟩
  · exact .inr ⟨[], rfl, by decide⟩
theorem trail_short {p : ProgR} (h : LooksP p) (k : Nat) : short (k + 4) (.tup ((trailM p).map ptD)) = true := by
  have hm := h.many
  have ha := h.axes
  simp only [short, Bool.and_eq_true, decide_eq_true_eq, List.length_map]
  refine ⟨by rw [trail_len]; omega, shortL_of fun x m => ?_⟩
  obtain ⟨g, mg, rfl⟩ := List.mem_map.mp m
  refine short_pt k ?_
  rcases List.mem_cons.mp mg with e | m
  · rw [e]
    omega
  · obtain ⟨t, mt, rfl⟩ := List.mem_map.mp m
    rw [h.goals t mt]
    omega

theorem plainL_ofx {n : Nat} : ∀ {xs : List D}, (∀ x ∈ xs, plain n x = true) → plainL n xs = true
  | [], _ => rfl
  | x :: r, h => by
    simp only [plainL, Bool.and_eq_true]
    exact ⟨h x List.mem_cons_self, plainL_ofx fun y m => h y (List.mem_cons_of_mem _ m)⟩
end DL
set_option linter.all false
set_option autoImplicit false
set_option maxHeartbeats 4000000
set_option maxRecDepth 100000
set_option exponentiation.threshold 20000
namespace DL
open PySem PySem.Spec PyProof.Rows L2

abbrev spec__law_low : Spec := sp_low
theorem len__law_low : ∀ ss Q Xe, spec__law_low ss Q Xe → ss.length = 2 := len_S2
abbrev spec__law_tooth : Spec := spec_draw
abbrev spec__law_add : Spec := sp_op 8900 fun p q => fr (p + q)
theorem len__law_add : ∀ ss Q Xe, spec__law_add ss Q Xe → ss.length = 2 := len_op
def spec__law_spot : Spec := G2 fun x Q => ∃ n : Int, x = .int n ∧ 1 ≤ n ∧ n ≤ 3 ∧ ∀ pt : List Rat, (pt.length : Int) = n → GrL (2 ^ 207) pt → Q (.d (ptD pt))
theorem len__law_spot : ∀ ss Q Xe, spec__law_spot ss Q Xe → ss.length = 2 := len_G2
abbrev spec__law_mul : Spec := sp_op 8900 fun p q => fr (p * q)
theorem len__law_mul : ∀ ss Q Xe, spec__law_mul ss Q Xe → ss.length = 2 := len_op
def spec__law_next : Spec := G3 fun x y Q => ∃ (sp gp : List Rat) (b : Nat), x = ptD sp ∧ y = ptD gp ∧ 1 ≤ sp.length ∧ sp.length ≤ 3 ∧ (gp = [] ∨ gp.length = sp.length) ∧ GrL (2 ^ b) sp ∧ GrL (2 ^ b) gp ∧ 207 ≤ b ∧ b ≤ 400 ∧
  ∀ goal : List Rat, goal.length = sp.length → goal ≠ sp → GrL (2 ^ (b + 3)) goal → Q (.d (ptD goal))
theorem len__law_next : ∀ ss Q Xe, spec__law_next ss Q Xe → ss.length = 3 := len_G3
abbrev spec__law_take : Spec := sp_op 8900 fun p q => fr (p - q)
theorem len__law_take : ∀ ss Q Xe, spec__law_take ss Q Xe → ss.length = 2 := len_op
def spec__law_steps : Spec := G3 fun x y Q => ∃ (sp : List Rat) (m : Int), x = ptD sp ∧ y = .int m ∧ 1 ≤ m ∧ m ≤ 31 ∧ 1 ≤ sp.length ∧ sp.length ≤ 3 ∧ GrL (2 ^ 207) sp ∧ ∀ ss : List StepR, (ss.length : Int) = m → chainOk sp ss → Q (.d (.tup (ss.map stepD)))
theorem len__law_steps : ∀ ss Q Xe, spec__law_steps ss Q Xe → ss.length = 3 := len_G3
def spec__law_program : Spec := G2 fun x Q => ∃ m : Int, x = .int m ∧ 1 ≤ m ∧ m ≤ 30 ∧ ∀ p : ProgR, OkP p → (p.steps.length : Int) ≤ m → Q (.d (progD p))
theorem len__law_program : ∀ ss Q Xe, spec__law_program ss Q Xe → ss.length = 2 := len_G2
def spec__law_pick : Spec := G2 fun x Q => ∃ xs : List D, x = .lst xs ∧ xs ≠ [] ∧ xs.length ≤ 1000 ∧ ∀ y ∈ xs, Q (.d y)
theorem len__law_pick : ∀ ss Q Xe, spec__law_pick ss Q Xe → ss.length = 2 := len_G2
def spec__law_trail : Spec := S1 fun d Q => ∃ p : ProgR, d = progD p ∧ p.steps.length ≤ 1000 ∧ Q (.d (.lst ((trailM p).map ptD)))
theorem len__law_trail : ∀ ss Q Xe, spec__law_trail ss Q Xe → ss.length = 1 := len_S1
def spec__law_near : Spec := G2 fun x Q => ∃ p : ProgR, x = progD p ∧ OkP p ∧ ∀ y, Gw 341 6 630 31 y → Q (.d y)
theorem len__law_near : ∀ ss Q Xe, spec__law_near ss Q Xe → ss.length = 2 := len_G2
def spec__law_bent (n : Nat) : Spec := G2 fun x Q => ∃ b c l m : Nat, Gw b m c l x ∧ m ≤ n ∧ 134 ≤ b ∧ b ≤ 390 ∧ l ≤ 400 ∧ n ≤ 30 ∧ ∀ y, Gw (b + 1) (m + 2) (2 * c + 10) (2 * l + 2) y → Q (.d y)
theorem len__law_bent (n : Nat) : ∀ ss Q Xe, spec__law_bent n ss Q Xe → ss.length = 2 := len_G2
def spec__law_is_fraction : Spec := S1 fun d Q => okD d ∧ Q (.d (.bl (isFr d)))
theorem len__law_is_fraction : ∀ ss Q Xe, spec__law_is_fraction ss Q Xe → ss.length = 1 := len_S1
def spec__law_is_above : Spec := S1 fun d Q => okD d ∧ Q (.d (.bl (isAbove d)))
theorem len__law_is_above : ∀ ss Q Xe, spec__law_is_above ss Q Xe → ss.length = 1 := len_S1
abbrev spec__law_under : Spec := sp_op 8900 fun p q => .bl (decide (p < q))
theorem len__law_under : ∀ ss Q Xe, spec__law_under ss Q Xe → ss.length = 2 := len_op
def spec__law_is_spot : Spec := S2 fun x y Q => ∃ n : Int, x = .int n ∧ okD y ∧ Q (.d (.bl (isPoint n y)))
theorem len__law_is_spot : ∀ ss Q Xe, spec__law_is_spot ss Q Xe → ss.length = 2 := len_S2
def spec__law_step_place : Spec := S2 fun x y Q => ∃ pt : List Rat, x = ptD pt ∧ okD x ∧ okD y ∧ Q (.d (stepFault pt y))
theorem len__law_step_place : ∀ ss Q Xe, spec__law_step_place ss Q Xe → ss.length = 2 := len_S2
def spec__law_program_place : Spec := S1 fun d Q => okD d ∧ Q (.d (progFault d))
theorem len__law_program_place : ∀ ss Q Xe, spec__law_program_place ss Q Xe → ss.length = 1 := len_S1
def spec__law_same (n : Nat) : Spec := S2 fun x y Q => x = y ∧ short n x = true ∧ Q (.d (.bl true))
theorem len__law_same (n : Nat) : ∀ ss Q Xe, spec__law_same n ss Q Xe → ss.length = 2 := len_S2
def spec_is_tuple_of : Spec := S2 fun x y Q => ∃ n : Int, x = .int n ∧ okD y ∧ Q (.d (.bl (match y with
  | .tup xs => decide ((xs.length : Int) = n)
  | _ => false)))
theorem len_is_tuple_of : ∀ ss Q Xe, spec_is_tuple_of ss Q Xe → ss.length = 2 := len_S2
abbrev spec_is_integer : Spec := sp_isint
theorem len_is_integer : ∀ ss Q Xe, spec_is_integer ss Q Xe → ss.length = 1 := len_S1
abbrev spec_common : Spec := sp_gcd
theorem len_common : ∀ ss Q Xe, spec_common ss Q Xe → ss.length = 2 := len_S2
abbrev spec_is_fraction : Spec := sp_isfr
theorem len_is_fraction : ∀ ss Q Xe, spec_is_fraction ss Q Xe → ss.length = 1 := len_S1
abbrev spec_below : Spec := sp_op 8900 fun p q => .bl (decide (p < q))
theorem len_below : ∀ ss Q Xe, spec_below ss Q Xe → ss.length = 2 := len_op
def spec_is_above : Spec := S1 fun d Q => okD d ∧ Q (.d (.bl (isAbove d)))
theorem len_is_above : ∀ ss Q Xe, spec_is_above ss Q Xe → ss.length = 1 := len_S1
def spec_is_point : Spec := S2 fun x y Q => ∃ n : Int, x = .int n ∧ okD y ∧ Q (.d (.bl (isPoint n y)))
theorem len_is_point : ∀ ss Q Xe, spec_is_point ss Q Xe → ss.length = 2 := len_S2
def spec_is_amount : Spec := S1 fun d Q => okD d ∧ Q (.d (.bl (isAmount d)))
theorem len_is_amount : ∀ ss Q Xe, spec_is_amount ss Q Xe → ss.length = 1 := len_S1
def spec_step_fault : Spec := S2 fun x y Q => ∃ pt : List Rat, x = ptD pt ∧ okD x ∧ okD y ∧ Q (.d (stepFault pt y))
theorem len_step_fault : ∀ ss Q Xe, spec_step_fault ss Q Xe → ss.length = 2 := len_S2
def spec_program_fault : Spec := S1 fun d Q => okD d ∧ Q (.d (progFault d))
theorem len_program_fault : ∀ ss Q Xe, spec_program_fault ss Q Xe → ss.length = 1 := len_S1
def isNon : D → Bool
  | .non => true
  | _ => false
def spec_is_program : Spec := S1 fun d Q => okD d ∧ Q (.d (.bl (isNon (progFault d))))
theorem len_is_program : ∀ ss Q Xe, spec_is_program ss Q Xe → ss.length = 1 := len_S1
def spec_check_program : Spec := fun ss Q Xe => ∃ d : D, ss = [.d d] ∧ okD d ∧ ((progFault d = .non ∧ Q (.d .non)) ∨ (progFault d ≠ .non ∧ Xe ⟨"InvalidProgram", some ("place", progFault d)⟩))
theorem len_check_program : ∀ ss Q Xe, spec_check_program ss Q Xe → ss.length = 1 := by
  rintro ss Q Xe ⟨d, rfl, _⟩
  rfl
def spec_path_of : Spec := S1 fun d Q => ∃ p : ProgR, d = progD p ∧ p.steps.length ≤ 1000 ∧ Q (.d (.tup ((trailM p).map ptD)))
theorem len_path_of : ∀ ss Q Xe, spec_path_of ss Q Xe → ss.length = 1 := len_S1
def spec_path : Spec := fun ss Q Xe => ∃ d : D, ss = [.d d] ∧ okD d ∧ ((progFault d ≠ .non ∧ Xe ⟨"InvalidProgram", some ("place", progFault d)⟩) ∨ ∃ p : ProgR, d = progD p ∧ LooksP p ∧ progFault d = .non ∧ Q (.d (.tup ((trailM p).map ptD))))
theorem len_path : ∀ ss Q Xe, spec_path ss Q Xe → ss.length = 1 := by
  rintro ss Q Xe ⟨d, rfl, _⟩
  rfl
def spec_axis_count : Spec := fun ss Q Xe => ∃ d : D, ss = [.d d] ∧ okD d ∧ ((progFault d ≠ .non ∧ Xe ⟨"InvalidProgram", some ("place", progFault d)⟩) ∨ ∃ p : ProgR, d = progD p ∧ LooksP p ∧ progFault d = .non ∧ Q (.d (.int p.start.length)))
theorem len_axis_count : ∀ ss Q Xe, spec_axis_count ss Q Xe → ss.length = 1 := by
  rintro ss Q Xe ⟨d, rfl, _⟩
  rfl
def spec__law_tried : Spec := fun ss Q Xe => ∃ (d : D) (k : Int), ss = [.d d, .d (.int k)] ∧ okD d ∧ ((progFault d ≠ .non ∧ Q (.d (.lst [progFault d]))) ∨ ∃ p : ProgR, d = progD p ∧ LooksP p ∧ progFault d = .non ∧ (k = 0 → Q (.d (.tup ((trailM p).map ptD)))) ∧ (k ≠ 0 → Q (.d (.int p.start.length))))
theorem len__law_tried : ∀ ss Q Xe, spec__law_tried ss Q Xe → ss.length = 2 := by
  rintro ss Q Xe ⟨d, k, rfl, _⟩
  rfl
end DL
set_option linter.all false
set_option autoImplicit false
set_option maxHeartbeats 4000000
set_option maxRecDepth 100000
namespace DL
open PySem PySem.Spec PyProof.Rows L2
def w__law_low_2 : SW := (sSeq (sAsg (wIf (tB (wBin bGt (wVar 1) (wC (.int 0)))) (wVar 2) (wUn bNeg (wVar 2))) (gNm 2))
  (sRet (wTup (wCons (wBin bFdivN (wVar 0) (wVar 2)) (wCons (wBin bFdivN (wVar 1) (wVar 2)) wNil)))))
def w__law_low_1 : SW := (sSeq (sWhile (tB (wBin bGt (wVar 3) (wC (.int 0))))
  (sPar [2, 3] (wCons (wVar 3) (wCons (wBin bMod (wCB bInt (wCons (wVar 2) wNil)) (wVar 3)) wNil))))
  w__law_low_2)
def w__law_low : SW := (sSeq (sPar [2, 3] (wCons (wCB bAbs (wCons (wVar 0) wNil)) (wCons (wCB bAbs (wCons (wVar 1) wNil)) wNil)))
  w__law_low_1)

def w__law_add : SW := (sRet (wCall spec__law_low (wCons (wBin bAdd (wBin bMul (wBin bIx (wVar 0) (wC (.int 0))) (wBin bIx (wVar 1) (wC (.int 1)))) (wBin bMul (wBin bIx (wVar 1) (wC (.int 0))) (wBin bIx (wVar 0) (wC (.int 1))))) (wCons (wBin bMul (wBin bIx (wVar 0) (wC (.int 1))) (wBin bIx (wVar 1) (wC (.int 1)))) wNil))))

def w__law_spot_1 : SW := (sSeq (sFor (iRange1 (wVar 1)) (gNm 3)
  (sSeq (sAsg (wCall spec__law_low (wCons (wBin bSub (wCall spec__law_tooth (wConsS 0 (wCons (wC (.int 21)) wNil))) (wC (.int 10))) (wCons (wBin bIx (wLst (wCons (wC (.int 1)) (wCons (wC (.int 1)) (wCons (wC (.int 2)) (wCons (wC (.int 3)) wNil))))) (wCall spec__law_tooth (wConsS 0 (wCons (wC (.int 4)) wNil)))) wNil))) (gNm 4))
  (sAppend 2 (wIf (tB (wBin bEq (wCall spec__law_tooth (wConsS 0 (wCons (wC (.int 12)) wNil))) (wC (.int 0)))) (wCall spec__law_add (wCons (wVar 4) (wCons (wTup (wCons (wC (.int 1)) (wCons (wBin bPow (wC (.int 10)) (wC (.int 60))) wNil))) wNil))) (wVar 4)))))
  (sFreeze 2 (sRet (wCB bTuple (wCons (wVar 2) wNil)))))
def w__law_spot : SW := (sSeq (sSetL 2 (lLst wNil))
  w__law_spot_1)

def w__law_mul : SW := (sRet (wCall spec__law_low (wCons (wBin bMul (wBin bIx (wVar 0) (wC (.int 0))) (wBin bIx (wVar 1) (wC (.int 0)))) (wCons (wBin bMul (wBin bIx (wVar 0) (wC (.int 1))) (wBin bIx (wVar 1) (wC (.int 1)))) wNil))))

def w__law_next_L5 : SW := (sSeq (sSetL 3 (lComp (iZip2W (wVar 1) (wVar 2)) (gTupW (gConsW (gNm 9) (gConsW (gNm 10) gNilW))) tYesW (wCall spec__law_add (wCons (wVar 9) (wCons (wCall spec__law_mul (wCons (wVar 10) (wCons (wVar 6) wNil))) wNil))) [9, 10]))
  (sSetItem 3 (wC (.int 0)) (wIf (tB (wBin bEq (wVar 5) (wC (.int 4)))) (wCall spec__law_add (wCons (wIxOwn 3 (wC (.int 0))) (wCons (wTup (wCons (wC (.int 1)) (wCons (wBin bPow (wC (.int 10)) (wC (.int 60))) wNil))) wNil))) (wIxOwn 3 (wC (.int 0))))))
def w__law_next_4 : SW := (sSeq (sIf (tBorrow 3 (tB (wBin bEq (wCB bTuple (wCons (wVar 3) wNil)) (wVar 1))))
  (sSetItem 3 (wC (.int 0)) (wCall spec__law_add (wCons (wIxOwn 3 (wC (.int 0))) (wCons (wTup (wCons (wC (.int 1)) (wCons (wC (.int 1)) wNil))) wNil))))
  sNext)
  (sFreeze 3 (sRet (wCB bTuple (wCons (wVar 3) wNil)))))
def w__law_next_3 : SW := (sSeq (sIf (tOrW (tB (wBin bEq (wVar 5) (wC (.int 5)))) (tB (wBin bEq (wVar 5) (wC (.int 6)))))
  (sSeq (sAsg (wCall spec__law_tooth (wConsS 0 (wCons (wVar 4) wNil))) (gNm 7))
  (sSetL 3 (lCat (wBin bAdd (wOfL (lCB bList (wCons (wSl (wVar 1) oNone (oSome (wVar 7))) wNil))) (wLst (wCons (wIf (tB (wBin bEq (wVar 5) (wC (.int 5)))) (wIxOwn 3 (wVar 7)) (wCall spec__law_add (wCons (wBin bIx (wVar 1) (wVar 7)) (wCons (wTup (wCons (wC (.int 1)) (wCons (wBin bPow (wC (.int 10)) (wC (.int 60))) wNil))) wNil)))) wNil))) (wOfL (lCB bList (wCons (wSl (wVar 1) (oSome (wBin bAdd (wVar 7) (wC (.int 1)))) oNone) wNil))))))
  sNext)
  w__law_next_4)
def w__law_next_2 : SW := (sSeq (sIf (tAndW (tB (wBin bLt (wVar 5) (wC (.int 5)))) (tAndW (tB (wBin bNe (wVar 2) (wTup wNil))) (tB (wBin bEq (wOfL (lComp (iSeq (wVar 1)) (gNm 8) (tB (wBin bGt (wCB bAbs (wCons (wBin bIx (wVar 8) (wC (.int 0))) wNil)) (wBin bMul (wC (.int 1000)) (wBin bIx (wVar 8) (wC (.int 1)))))) (wC (.int 1)) [8])) (wLst wNil)))))
  (sSeq (sAsg (wBin bIx (wLst (wCons (wTup (wCons (wC (.int 1)) (wCons (wC (.int 1)) wNil))) (wCons (wTup (wCons (wC (.int 2)) (wCons (wC (.int 1)) wNil))) (wCons (wTup (wCons (wUn bNeg (wC (.int 1))) (wCons (wC (.int 1)) wNil))) (wCons (wTup (wCons (wUn bNeg (wC (.int 2))) (wCons (wC (.int 1)) wNil))) (wCons (wTup (wCons (wC (.int 1)) (wCons (wC (.int 1)) wNil))) wNil)))))) (wVar 5)) (gNm 6))
  w__law_next_L5)
  sNext)
  w__law_next_3)
def w__law_next_1 : SW := (sSeq (sSetL 3 (lCB bList (wCons (wCall spec__law_spot (wConsS 0 (wCons (wVar 4) wNil))) wNil)))
  w__law_next_2)
def w__law_next : SW := (sSeq (sPar [4, 5] (wCons (wCB bLen (wCons (wVar 1) wNil)) (wCons (wCall spec__law_tooth (wConsS 0 (wCons (wC (.int 10)) wNil))) wNil)))
  w__law_next_1)

def w__law_take : SW := (sRet (wCall spec__law_low (wCons (wBin bSub (wBin bMul (wBin bIx (wVar 0) (wC (.int 0))) (wBin bIx (wVar 1) (wC (.int 1)))) (wBin bMul (wBin bIx (wVar 1) (wC (.int 0))) (wBin bIx (wVar 0) (wC (.int 1))))) (wCons (wBin bMul (wBin bIx (wVar 0) (wC (.int 1))) (wBin bIx (wVar 1) (wC (.int 1)))) wNil))))

def w__law_steps_L6 : SW := (sSeq (sAsg (wBin bIx (wLst (wCons (wTup (wCons (wC (.int 0)) (wCons (wC (.int 1)) wNil))) (wCons (wTup (wCons (wC (.int 0)) (wCons (wC (.int 1)) wNil))) (wCons (wVar 8) (wCons (wCall spec__law_mul (wCons (wVar 8) (wCons (wTup (wCons (wC (.int 1)) (wCons (wC (.int 3)) wNil))) wNil))) wNil))))) (wCall spec__law_tooth (wConsS 0 (wCons (wC (.int 4)) wNil)))) (gNm 9))
  (sAppend 4 (wTup (wCons (wVar 7) (wCons (wVar 8) (wCons (wVar 9) (wCons (wBin bEq (wCall spec__law_tooth (wConsS 0 (wCons (wC (.int 5)) wNil))) (wC (.int 0))) wNil)))))))
def w__law_steps_L5 : SW := (sSeq (sAsg (wCall spec__law_low (wCons (wBin bAdd (wC (.int 1)) (wCall spec__law_tooth (wConsS 0 (wCons (wC (.int 12)) wNil)))) (wCons (wBin bIx (wLst (wCons (wC (.int 1)) (wCons (wC (.int 1)) (wCons (wC (.int 2)) (wCons (wC (.int 5)) wNil))))) (wCall spec__law_tooth (wConsS 0 (wCons (wC (.int 4)) wNil)))) wNil))) (gNm 8))
  w__law_steps_L6)
def w__law_steps_L4 : SW := (sSeq (sPar [6, 5] (wCons (wCB bTuple (wCons (wOfL (lComp (iZip2W (wVar 7) (wVar 5)) (gTupW (gConsW (gNm 10) (gConsW (gNm 11) gNilW))) tYesW (wCall spec__law_take (wCons (wVar 10) (wCons (wVar 11) wNil))) [10, 11])) wNil)) (wCons (wVar 7) wNil)))
  w__law_steps_L5)
def w__law_steps_1 : SW := (sSeq (sFor (iRange1 (wVar 2)) (gNm 3)
  (sSeq (sAsg (wCall spec__law_next (wConsS 0 (wCons (wVar 5) (wCons (wVar 6) wNil)))) (gNm 7))
  w__law_steps_L4))
  (sFreeze 4 (sRet (wCB bTuple (wCons (wVar 4) wNil)))))
def w__law_steps : SW := (sSeq (sPar [4, 5, 6] (wConsL (lLst wNil) (wCons (wVar 1) (wCons (wTup wNil) wNil))))
  w__law_steps_1)

def w__law_program : SW := (sSeq (sAsg (wCall spec__law_spot (wConsS 0 (wCons (wBin bAdd (wC (.int 1)) (wCall spec__law_tooth (wConsS 0 (wCons (wC (.int 3)) wNil)))) wNil))) (gNm 2))
  (sRet (wTup (wCons (wVar 2) (wCons (wCall spec__law_steps (wConsS 0 (wCons (wVar 2) (wCons (wBin bAdd (wC (.int 1)) (wCall spec__law_tooth (wConsS 0 (wCons (wVar 1) wNil)))) wNil)))) wNil)))))

def w__law_pick : SW := (sRet (wBin bIx (wVar 1) (wCall spec__law_tooth (wConsS 0 (wCons (wCB bLen (wCons (wVar 1) wNil)) wNil)))))

def w__law_trail : SW := (sRet (wBin bAdd (wLst (wCons (wBin bIx (wVar 0) (wC (.int 0))) wNil)) (wOfL (lComp (iSeq (wBin bIx (wVar 0) (wC (.int 1)))) (gNm 1) tYesW (wBin bIx (wVar 1) (wC (.int 0))) [1]))))

def w__law_near_5 : SW := (sSeq (sAsg (wCall spec__law_pick (wConsS 0 (wCons (wVar 4) wNil))) (gNm 5))
  (sRet (wTup (wCons (wBin bIx (wVar 1) (wC (.int 0))) (wCons (wBin bAdd (wBin bAdd (wSl (wBin bIx (wVar 1) (wC (.int 1))) oNone (oSome (wVar 2))) (wTup (wCons (wVar 5) wNil))) (wSl (wBin bIx (wVar 1) (wC (.int 1))) (oSome (wBin bAdd (wVar 2) (wC (.int 1)))) oNone)) wNil)))))
def w__law_near_4 : SW := (sSeq (sAsg (wBin bAdd (wVar 4) (wLst (wCons (wTup (wCons (wBin bAdd (wVar 6) (wSl (wVar 6) oNone (oSome (wC (.int 1))))) (wCons (wVar 7) (wCons (wVar 8) (wCons (wVar 9) wNil))))) (wCons (wTup (wCons (wSl (wVar 6) (oSome (wC (.int 1))) oNone) (wCons (wVar 7) (wCons (wVar 8) (wCons (wVar 9) wNil))))) (wCons (wTup (wCons (wVar 6) (wCons (wVar 7) (wCons (wTup (wCons (wUn bNeg (wC (.int 1))) (wCons (wC (.int 1000)) wNil))) (wCons (wVar 9) wNil))))) (wCons (wTup (wCons (wVar 6) (wCons (wVar 7) (wCons (wVar 8) (wCons (wCB bInt (wCons (wVar 9) wNil)) wNil))))) wNil)))))) (gNm 4))
  w__law_near_5)
def w__law_near_3 : SW := (sSeq (sAsg (wLst (wCons (wTup (wCons (wVar 3) (wCons (wVar 7) (wCons (wVar 8) (wCons (wVar 9) wNil))))) (wCons (wTup (wCons (wVar 6) (wCons (wVar 7) (wCons (wVar 7) (wCons (wVar 9) wNil))))) (wCons (wTup (wCons (wVar 6) (wCons (wVar 7) (wCons (wCall spec__law_add (wCons (wVar 7) (wCons (wTup (wCons (wC (.int 1)) (wCons (wC (.int 1000)) wNil))) wNil))) (wCons (wVar 9) wNil))))) (wCons (wTup (wCons (wVar 6) (wCons (wTup (wCons (wC (.int 0)) (wCons (wC (.int 1)) wNil))) (wCons (wTup (wCons (wC (.int 0)) (wCons (wC (.int 1)) wNil))) (wCons (wVar 9) wNil))))) wNil))))) (gNm 4))
  w__law_near_4)
def w__law_near_2 : SW := (sSeq (sAsg (wBin bIx (wCall spec__law_trail (wCons (wVar 1) wNil)) (wVar 2)) (gNm 3))
  w__law_near_3)
def w__law_near_1 : SW := (sSeq (sAsg (wBin bIx (wBin bIx (wVar 1) (wC (.int 1))) (wVar 2)) (gTupW (gConsW (gNm 6) (gConsW (gNm 7) (gConsW (gNm 8) (gConsW (gNm 9) gNilW))))))
  w__law_near_2)
def w__law_near : SW := (sSeq (sAsg (wCall spec__law_tooth (wConsS 0 (wCons (wCB bLen (wCons (wBin bIx (wVar 1) (wC (.int 1))) wNil)) wNil))) (gNm 2))
  w__law_near_1)

def w__law_bent_L7 (n : Nat) : SW := (sSeq (sIf (tB (wBin bEq (wVar 4) (wC (.int 2))))
  (sRet (wBin bIx (wLst (wCons (wUn bRevT (wVar 1)) (wCons (wOfL (lCB bList (wCons (wVar 1) wNil))) (wCons (wBin bAdd (wVar 1) (wVar 1)) wNil)))) (wCall spec__law_tooth (wConsS 0 (wCons (wC (.int 3)) wNil)))))
  sNext)
  (sRet (wBin bAdd (wBin bAdd (wSl (wVar 1) oNone (oSome (wVar 3))) (wTup (wCons (wCall (spec__law_bent n) (wConsS 0 (wCons (wBin bIx (wVar 1) (wVar 3)) wNil))) wNil))) (wSl (wVar 1) (oSome (wBin bAdd (wVar 3) (wC (.int 1)))) oNone))))
def w__law_bent_L5 (n : Nat) : SW := (sSeq (sIf (tB (wBin bEq (wVar 4) (wC (.int 1))))
  (sRet (wBin bAdd (wBin bAdd (wSl (wVar 1) oNone (oSome (wVar 3))) (wSl (wVar 1) (oSome (wVar 3)) (oSome (wBin bAdd (wVar 3) (wC (.int 1)))))) (wSl (wVar 1) (oSome (wVar 3)) oNone)))
  sNext)
  (w__law_bent_L7 n))
def w__law_bent_L3 (n : Nat) : SW := (sSeq (sIf (tB (wBin bEq (wVar 4) (wC (.int 0))))
  (sRet (wBin bAdd (wSl (wVar 1) oNone (oSome (wVar 3))) (wSl (wVar 1) (oSome (wBin bAdd (wVar 3) (wC (.int 1)))) oNone)))
  sNext)
  (w__law_bent_L5 n))
def w__law_bent_3 (n : Nat) : SW := (sSeq (sAsg (wLst (wCons (wC .non) (wCons (wC (.bl true)) (wCons (wC (.bl false)) (wCons (wC (.int 0)) (wCons (wC (.int 1)) (wCons (wUn bNeg (wC (.int 1))) (wCons (wTup wNil) (wCons (wLst wNil) (wCons (wC (.str "")) (wCons (wC (.str "x")) (wCons (wTup (wCons (wC (.int 1)) (wCons (wC (.int 1)) wNil))) (wCons (wTup (wCons (wC (.int 0)) (wCons (wC (.int 1)) wNil))) (wCons (wTup (wCons (wC (.int 2)) (wCons (wC (.int 4)) wNil))) (wCons (wTup (wCons (wUn bNeg (wC (.int 1))) (wCons (wC (.int 2)) wNil))) (wCons (wTup (wCons (wC (.int 1)) (wCons (wC (.int 0)) wNil))) (wCons (wTup (wCons (wC (.int 1)) (wCons (wUn bNeg (wC (.int 1))) wNil))) (wCons (wTup (wCons (wC (.int 3)) (wCons (wC (.int 2)) wNil))) (wCons (wLst (wCons (wVar 1) wNil)) (wCons (wTup (wCons (wVar 1) wNil)) (wCons (wTup (wCons (wTup (wCons (wC (.int 1)) (wCons (wC (.int 1)) wNil))) wNil)) (wCons (wTup (wCons (wTup (wCons (wC (.int 0)) (wCons (wC (.int 1)) wNil))) (wCons (wTup (wCons (wC (.int 0)) (wCons (wC (.int 1)) wNil))) wNil))) wNil)))))))))))))))))))))) (gNm 2))
  (sRet (wCall spec__law_pick (wConsS 0 (wCons (wVar 2) wNil)))))
def w__law_bent_2 (n : Nat) : SW := (sSeq (sIf (tAndW (tB (wUn (bIsi "int") (wVar 1))) (tB (wBin bGt (wCall spec__law_tooth (wConsS 0 (wCons (wC (.int 4)) wNil))) (wC (.int 0)))))
  (sRet (wCall spec__law_pick (wConsS 0 (wCons (wLst (wCons (wBin bAdd (wVar 1) (wC (.int 1))) (wCons (wBin bSub (wVar 1) (wC (.int 1))) (wCons (wBin bSub (wC (.int 0)) (wVar 1)) (wCons (wBin bMul (wVar 1) (wC (.int 2))) (wCons (wC (.int 0)) (wCons (wC (.int 1)) (wCons (wBin bPow (wC (.int 10)) (wC (.int 40))) wNil)))))))) wNil))))
  sNext)
  (w__law_bent_3 n))
def w__law_bent_1 (n : Nat) : SW := (sSeq (sIf (tB (wUn (bIsi "bool") (wVar 1)))
  (sRet (wCall spec__law_pick (wConsS 0 (wCons (wLst (wCons (wNot (wVar 1)) (wCons (wCB bInt (wCons (wVar 1) wNil)) (wCons (wC .non) (wCons (wC (.str "True")) (wCons (wTup wNil) wNil)))))) wNil))))
  sNext)
  (w__law_bent_2 n))
def w__law_bent (n : Nat) : SW := (sSeq (sIf (tAndW (tB (wUn (bIsi "tuple") (wVar 1))) (tAndW (tB (wBin bNe (wVar 1) (wTup wNil))) (tB (wBin bGt (wCall spec__law_tooth (wConsS 0 (wCons (wC (.int 8)) wNil))) (wC (.int 0))))))
  (sSeq (sPar [3, 4] (wCons (wCall spec__law_tooth (wConsS 0 (wCons (wCB bLen (wCons (wVar 1) wNil)) wNil))) (wCons (wCall spec__law_tooth (wConsS 0 (wCons (wC (.int 16)) wNil))) wNil)))
  (w__law_bent_L3 n))
  sNext)
  (w__law_bent_1 n))

def w__law_is_fraction_1 : SW := (sSeq (sIf (tOrW (tB (wUn (bIsi "bool") (wBin bIx (wVar 0) (wC (.int 0))))) (tOrW (tB (wUn (bIsi "bool") (wBin bIx (wVar 0) (wC (.int 1))))) (tB (wBin bLt (wBin bIx (wVar 0) (wC (.int 1))) (wC (.int 1))))))
  (sRet (wC (.bl false)))
  sNext)
  (sRet (wBin bEq (wCall spec__law_low (wCons (wBin bIx (wVar 0) (wC (.int 0))) (wCons (wBin bIx (wVar 0) (wC (.int 1))) wNil))) (wVar 0))))
def w__law_is_fraction : SW := (sSeq (sIf (tOrW (tNotW (tB (wUn (bIsi "tuple") (wVar 0)))) (tOrW (tB (wBin bNe (wCB bLen (wCons (wVar 0) wNil)) (wC (.int 2)))) (tOrW (tNotW (tB (wUn (bIsi "int") (wBin bIx (wVar 0) (wC (.int 0)))))) (tNotW (tB (wUn (bIsi "int") (wBin bIx (wVar 0) (wC (.int 1)))))))))
  (sRet (wC (.bl false)))
  sNext)
  w__law_is_fraction_1)

def w__law_is_above : SW := (sRet (wAnd (wCall spec__law_is_fraction (wCons (wVar 0) wNil)) (wBin bGt (wBin bIx (wVar 0) (wC (.int 0))) (wC (.int 0)))))

def w__law_under : SW := (sRet (wBin bLt (wBin bMul (wBin bIx (wVar 0) (wC (.int 0))) (wBin bIx (wVar 1) (wC (.int 1)))) (wBin bMul (wBin bIx (wVar 1) (wC (.int 0))) (wBin bIx (wVar 0) (wC (.int 1))))))

def w__law_is_spot : SW := (sSeq (sIf (tOrW (tNotW (tB (wUn (bIsi "tuple") (wVar 1)))) (tB (wBin bNe (wCB bLen (wCons (wVar 1) wNil)) (wVar 0))))
  (sRet (wC (.bl false)))
  sNext)
  (sRet (wBin bEq (wOfL (lComp (iSeq (wVar 1)) (gNm 2) (tNotW (tB (wCall spec__law_is_fraction (wCons (wVar 2) wNil)))) (wVar 2) [2])) (wLst wNil))))

def w__law_step_place_3 : SW := (sSeq (sIf (tOrW (tNotW (tB (wCall spec__law_is_fraction (wCons (wBin bIx (wVar 1) (wC (.int 2))) wNil)))) (tOrW (tB (wBin bLt (wBin bIx (wBin bIx (wVar 1) (wC (.int 2))) (wC (.int 0))) (wC (.int 0)))) (tB (wCall spec__law_under (wCons (wBin bIx (wVar 1) (wC (.int 1))) (wCons (wBin bIx (wVar 1) (wC (.int 2))) wNil))))))
  (sRet (wTup (wCons (wC (.int 2)) wNil)))
  sNext)
  (sRet (wIf (tB (wUn (bIsi "bool") (wBin bIx (wVar 1) (wC (.int 3))))) (wC .non) (wTup (wCons (wC (.int 3)) wNil)))))
def w__law_step_place_2 : SW := (sSeq (sIf (tNotW (tB (wCall spec__law_is_above (wCons (wBin bIx (wVar 1) (wC (.int 1))) wNil))))
  (sRet (wTup (wCons (wC (.int 1)) wNil)))
  sNext)
  w__law_step_place_3)
def w__law_step_place_1 : SW := (sSeq (sIf (tOrW (tNotW (tB (wCall spec__law_is_spot (wCons (wCB bLen (wCons (wVar 0) wNil)) (wCons (wBin bIx (wVar 1) (wC (.int 0))) wNil))))) (tB (wBin bEq (wBin bIx (wVar 1) (wC (.int 0))) (wVar 0))))
  (sRet (wTup (wCons (wC (.int 0)) wNil)))
  sNext)
  w__law_step_place_2)
def w__law_step_place : SW := (sSeq (sIf (tOrW (tNotW (tB (wUn (bIsi "tuple") (wVar 1)))) (tB (wBin bNe (wCB bLen (wCons (wVar 1) wNil)) (wC (.int 4)))))
  (sRet (wTup wNil))
  sNext)
  w__law_step_place_1)

def w__law_program_place_L10 : SW := (sSeq (sIf (tB (wUn bNotN (wVar 3)))
  (sRet (wBin bAdd (wTup (wCons (wC (.int 1)) (wCons (wVar 2) wNil))) (wVar 3)))
  sNext)
  (sAsg (wBin bIx (wBin bIx (wBin bIx (wVar 0) (wC (.int 1))) (wVar 2)) (wC (.int 0))) (gNm 1)))
def w__law_program_place_4 : SW := (sSeq (sFor (iRange1 (wCB bLen (wCons (wBin bIx (wVar 0) (wC (.int 1))) wNil))) (gNm 2)
  (sSeq (sAsg (wCall spec__law_step_place (wCons (wVar 1) (wCons (wBin bIx (wBin bIx (wVar 0) (wC (.int 1))) (wVar 2)) wNil))) (gNm 3))
  w__law_program_place_L10))
  (sRet (wC .non)))
def w__law_program_place_3 : SW := (sSeq (sAsg (wBin bIx (wVar 0) (wC (.int 0))) (gNm 1))
  w__law_program_place_4)
def w__law_program_place_2 : SW := (sSeq (sIf (tOrW (tNotW (tB (wUn (bIsi "tuple") (wBin bIx (wVar 0) (wC (.int 1)))))) (tNotW (tB (wChain bLe bLe (wC (.int 1)) (wCB bLen (wCons (wBin bIx (wVar 0) (wC (.int 1))) wNil)) (wC (.int 30))))))
  (sRet (wTup (wCons (wC (.int 1)) wNil)))
  sNext)
  w__law_program_place_3)
def w__law_program_place_1 : SW := (sSeq (sIf (tOrW (tNotW (tB (wUn (bIsi "tuple") (wBin bIx (wVar 0) (wC (.int 0)))))) (tOrW (tNotW (tB (wChain bLe bLe (wC (.int 1)) (wCB bLen (wCons (wBin bIx (wVar 0) (wC (.int 0))) wNil)) (wC (.int 3))))) (tNotW (tB (wCall spec__law_is_spot (wCons (wCB bLen (wCons (wBin bIx (wVar 0) (wC (.int 0))) wNil)) (wCons (wBin bIx (wVar 0) (wC (.int 0))) wNil)))))))
  (sRet (wTup (wCons (wC (.int 0)) wNil)))
  sNext)
  w__law_program_place_2)
def w__law_program_place : SW := (sSeq (sIf (tOrW (tNotW (tB (wUn (bIsi "tuple") (wVar 0)))) (tB (wBin bNe (wCB bLen (wCons (wVar 0) wNil)) (wC (.int 2)))))
  (sRet (wTup wNil))
  sNext)
  w__law_program_place_1)

def w__law_same (n : Nat) : SW := (sSeq (sIf (tB (wUn (bIsi2 "tuple" "list") (wVar 1)))
  (sSeq (sIf (tOrW (tB (wBin bNe (wUn (bIsi "tuple") (wVar 0)) (wUn (bIsi "tuple") (wVar 1)))) (tB (wBin bNe (wUn (bIsi "list") (wVar 0)) (wUn (bIsi "list") (wVar 1)))))
  (sRet (wC (.bl false)))
  sNext)
  (sRet (wAnd (wBin bEq (wCB bLen (wCons (wVar 0) wNil)) (wCB bLen (wCons (wVar 1) wNil))) (wCB bAll (wCons (wOfL (lComp (iRange1 (wCB bLen (wCons (wVar 1) wNil))) (gNm 2) tYesW (wCall (spec__law_same n) (wCons (wBin bIx (wVar 0) (wVar 2)) (wCons (wBin bIx (wVar 1) (wVar 2)) wNil))) [2])) wNil)))))
  sNext)
  (sSeq (sIf (tOrW (tB (wBin bNe (wUn (bIsi "bool") (wVar 0)) (wUn (bIsi "bool") (wVar 1)))) (tB (wBin bNe (wUn (bIsi "int") (wVar 0)) (wUn (bIsi "int") (wVar 1)))))
  (sRet (wC (.bl false)))
  sNext)
  (sRet (wAnd (wBin bEq (wUn (bIsi "str") (wVar 0)) (wUn (bIsi "str") (wVar 1))) (wBin bEq (wVar 0) (wVar 1))))))

def w_is_tuple_of : SW := (sRet (wAnd (wUn (bIsi "tuple") (wVar 1)) (wBin bEq (wCB bLen (wCons (wVar 1) wNil)) (wVar 0))))

def w_is_integer : SW := (sRet (wAnd (wUn (bIsi "int") (wVar 0)) (wNot (wUn (bIsi "bool") (wVar 0)))))

def w_common : SW := (sSeq (sWhile (tB (wBin bGt (wVar 1) (wC (.int 0))))
  (sPar [0, 1] (wCons (wVar 1) (wCons (wBin bMod (wVar 0) (wVar 1)) wNil))))
  (sRet (wVar 0)))

def w_is_fraction : SW := (sSeq (sIf (tOrW (tNotW (tB (wUn (bIsi "tuple") (wVar 0)))) (tOrW (tB (wBin bNe (wCB bLen (wCons (wVar 0) wNil)) (wC (.int 2)))) (tOrW (tNotW (tB (wCall spec_is_integer (wCons (wBin bIx (wVar 0) (wC (.int 0))) wNil)))) (tNotW (tB (wCall spec_is_integer (wCons (wBin bIx (wVar 0) (wC (.int 1))) wNil)))))))
  (sRet (wC (.bl false)))
  sNext)
  (sRet (wAnd (wBin bGt (wBin bIx (wVar 0) (wC (.int 1))) (wC (.int 0))) (wBin bEq (wCall spec_common (wCons (wCB bAbs (wCons (wBin bIx (wVar 0) (wC (.int 0))) wNil)) (wCons (wBin bIx (wVar 0) (wC (.int 1))) wNil))) (wC (.int 1))))))

def w_below : SW := (sRet (wBin bLt (wBin bMul (wBin bIx (wVar 0) (wC (.int 0))) (wBin bIx (wVar 1) (wC (.int 1)))) (wBin bMul (wBin bIx (wVar 1) (wC (.int 0))) (wBin bIx (wVar 0) (wC (.int 1))))))

def w_is_above : SW := (sRet (wAnd (wCall spec_is_fraction (wCons (wVar 0) wNil)) (wCall spec_below (wCons (wC c_NOUGHT) (wCons (wVar 0) wNil)))))

def w_is_point : SW := (sRet (wAnd (wCall spec_is_tuple_of (wCons (wVar 0) (wCons (wVar 1) wNil))) (wCB bAll (wCons (wOfL (lComp (iSeq (wVar 1)) (gNm 2) tYesW (wCall spec_is_fraction (wCons (wVar 2) wNil)) [2])) wNil))))

def w_is_amount : SW := (sRet (wAnd (wCall spec_is_fraction (wCons (wVar 0) wNil)) (wNot (wCall spec_below (wCons (wVar 0) (wCons (wC c_NOUGHT) wNil))))))

def w_step_fault_4 : SW := (sSeq (sIf (tOrW (tNotW (tB (wCall spec_is_amount (wCons (wVar 4) wNil)))) (tB (wCall spec_below (wCons (wVar 3) (wCons (wVar 4) wNil)))))
  (sRet (wTup (wCons (wC (.int 2)) wNil)))
  sNext)
  (sRet (wIf (tB (wUn (bIsi "bool") (wVar 5))) (wC .non) (wTup (wCons (wC (.int 3)) wNil)))))
def w_step_fault_3 : SW := (sSeq (sIf (tNotW (tB (wCall spec_is_above (wCons (wVar 3) wNil))))
  (sRet (wTup (wCons (wC (.int 1)) wNil)))
  sNext)
  w_step_fault_4)
def w_step_fault_2 : SW := (sSeq (sIf (tOrW (tNotW (tB (wCall spec_is_point (wCons (wCB bLen (wCons (wVar 0) wNil)) (wCons (wVar 2) wNil))))) (tB (wBin bEq (wVar 2) (wVar 0))))
  (sRet (wTup (wCons (wC (.int 0)) wNil)))
  sNext)
  w_step_fault_3)
def w_step_fault_1 : SW := (sSeq (sAsg (wVar 1) (gTupW (gConsW (gNm 2) (gConsW (gNm 3) (gConsW (gNm 4) (gConsW (gNm 5) gNilW))))))
  w_step_fault_2)
def w_step_fault : SW := (sSeq (sIf (tNotW (tB (wCall spec_is_tuple_of (wCons (wC (.int 4)) (wCons (wVar 1) wNil)))))
  (sRet (wTup wNil))
  sNext)
  w_step_fault_1)

def w_program_fault_L11 : SW := (sSeq (sIf (tB (wUn bNotN (wVar 6)))
  (sRet (wBin bAdd (wTup (wCons (wC (.int 1)) (wCons (wVar 4) wNil))) (wVar 6)))
  sNext)
  (sAsg (wBin bIx (wVar 5) (wC (.int 0))) (gNm 1)))
def w_program_fault_5 : SW := (sSeq (sFor (iEnum2W (wVar 3)) (gTupW (gConsW (gNm 4) (gConsW (gNm 5) gNilW)))
  (sSeq (sAsg (wCall spec_step_fault (wCons (wVar 1) (wCons (wVar 5) wNil))) (gNm 6))
  w_program_fault_L11))
  (sRet (wC .non)))
def w_program_fault_4 : SW := (sSeq (sAsg (wVar 2) (gNm 1))
  w_program_fault_5)
def w_program_fault_3 : SW := (sSeq (sIf (tOrW (tNotW (tB (wUn (bIsi "tuple") (wVar 3)))) (tNotW (tB (wChain bLe bLe (wC (.int 1)) (wCB bLen (wCons (wVar 3) wNil)) (wC c_MOST_STEPS)))))
  (sRet (wTup (wCons (wC (.int 1)) wNil)))
  sNext)
  w_program_fault_4)
def w_program_fault_2 : SW := (sSeq (sIf (tOrW (tNotW (tB (wUn (bIsi "tuple") (wVar 2)))) (tOrW (tNotW (tB (wChain bLe bLe (wC (.int 1)) (wCB bLen (wCons (wVar 2) wNil)) (wC c_MOST_AXES)))) (tNotW (tB (wCall spec_is_point (wCons (wCB bLen (wCons (wVar 2) wNil)) (wCons (wVar 2) wNil)))))))
  (sRet (wTup (wCons (wC (.int 0)) wNil)))
  sNext)
  w_program_fault_3)
def w_program_fault_1 : SW := (sSeq (sAsg (wVar 0) (gTupW (gConsW (gNm 2) (gConsW (gNm 3) gNilW))))
  w_program_fault_2)
def w_program_fault : SW := (sSeq (sIf (tNotW (tB (wCall spec_is_tuple_of (wCons (wC (.int 2)) (wCons (wVar 0) wNil)))))
  (sRet (wTup wNil))
  sNext)
  w_program_fault_1)

def w_is_program : SW := (sRet (wUn bIsN (wCall spec_program_fault (wCons (wVar 0) wNil))))

def w_check_program : SW := (sSeq (sAsg (wCall spec_program_fault (wCons (wVar 0) wNil)) (gNm 1))
  (sIf (tB (wUn bNotN (wVar 1)))
  (sRaise1 "InvalidProgram" "place" (wVar 1))
  sNext))

def w_path_of : SW := (sRet (wBin bAdd (wTup (wCons (wBin bIx (wVar 0) (wC (.int 0))) wNil)) (wCB bTuple (wCons (wOfL (lComp (iSeq (wBin bIx (wVar 0) (wC (.int 1)))) (gNm 1) tYesW (wBin bIx (wVar 1) (wC (.int 0))) [1])) wNil))))

def w_path : SW := (sSeq (sDrop (wCall spec_check_program (wCons (wVar 0) wNil)))
  (sRet (wCall spec_path_of (wCons (wVar 0) wNil))))

def w_axis_count : SW := (sSeq (sDrop (wCall spec_check_program (wCons (wVar 0) wNil)))
  (sRet (wCB bLen (wCons (wBin bIx (wVar 0) (wC (.int 0))) wNil))))

def w__law_tried_1 : SW := (sSeq (sTry errL
  (sAsg (wIf (tB (wBin bEq (wVar 1) (wC (.int 0)))) (wCallK spec_path [0] (wCons (wVar 0) wNil)) (wCallK spec_axis_count [0] (wCons (wVar 0) wNil))) (gNm 2))
  [("InvalidProgram", suAsg 3 2 (xLst (xCons (xFld "InvalidProgram" "place") xNil)))])
  (sRet (wVar 2)))
def w__law_tried : SW := (sSeq (sAsg (wC .non) (gNm 2))
  w__law_tried_1)

def w_law_L15 : SW := (sSeq (sAsg (wIf (tB (wUn bIsN (wVar 9))) (wLst (wCons (wCB bTuple (wCons (wCall spec__law_trail (wCons (wVar 8) wNil)) wNil)) (wCons (wCB bLen (wCons (wBin bIx (wVar 8) (wC (.int 0))) wNil)) wNil))) (wLst (wCons (wLst (wCons (wVar 9) wNil)) (wCons (wLst (wCons (wVar 9) wNil)) wNil)))) (gNm 10))
  (sIf (tNotW (tB (wCall (spec__law_same 6) (wCons (wLst (wCons (wCall spec__law_tried (wCons (wVar 8) (wCons (wC (.int 0)) wNil))) (wCons (wCall spec__law_tried (wCons (wVar 8) (wCons (wC (.int 1)) wNil))) wNil))) (wCons (wVar 10) wNil)))))
  (sRet (wC (.bl false)))
  sNext))
def w_law_L13 : SW := (sSeq (sIf (tNotW (tB (wCall (spec__law_same 6) (wCons (wLst (wCons (wCall spec_is_program (wCons (wVar 8) wNil)) (wCons (wCallK spec_is_program [0] (wCons (wVar 8) wNil)) wNil))) (wCons (wLst (wCons (wUn bIsN (wVar 9)) (wCons (wUn bIsN (wVar 9)) wNil))) wNil)))))
  (sRet (wC (.bl false)))
  sNext)
  w_law_L15)
def w_law_L11 : SW := (sSeq (sIf (tNotW (tB (wCall (spec__law_same 6) (wCons (wLst (wCons (wCall spec_program_fault (wCons (wVar 8) wNil)) (wCons (wCallK spec_program_fault [0] (wCons (wVar 8) wNil)) wNil))) (wCons (wLst (wCons (wVar 9) (wCons (wVar 9) wNil))) wNil)))))
  (sRet (wC (.bl false)))
  sNext)
  w_law_L13)
def w_law_L9 : SW := (sSeq (sFor (iSeq (wVar 6)) (gNm 8)
  (sSeq (sAsg (wCall spec__law_program_place (wCons (wVar 8) wNil)) (gNm 9))
  w_law_L11))
  (sIf (tOrW (tB (wBin bNeS (wCB bRepr (wCons (wVar 6) wNil)) (wVar 7))) (tOrW (tB (wUn bNotN (wCall spec__law_program_place (wCons (wVar 3) wNil)))) (tB (wUn bNotN (wCall spec__law_program_place (wCons (wBin bIx (wVar 5) (wC (.int 0))) wNil))))))
  (sRet (wC (.bl false)))
  sNext))
def w_law_L8 : SW := (sSeq (sAsg (wCB bRepr (wCons (wVar 6) wNil)) (gNm 7))
  w_law_L9)
def w_law_L7 : SW := (sSeq (sAsg (wBin bAdd (wBin bAdd (wVar 6) (wVar 5)) (wLst (wCons (wCall (spec__law_bent 8) (wConsS 1 (wCons (wBin bIx (wVar 6) (wC (.int 3))) wNil))) (wCons (wCall spec__law_near (wConsS 1 (wCons (wBin bIx (wVar 6) (wC (.int 0))) wNil))) (wCons (wTup (wCons (wTup wNil) (wCons (wBin bIx (wVar 3) (wC (.int 1))) wNil))) (wCons (wTup (wCons (wBin bIx (wVar 3) (wC (.int 0))) (wCons (wOfL (lCB bList (wCons (wBin bIx (wVar 3) (wC (.int 1))) wNil))) wNil))) (wCons (wBin bIx (wVar 3) (wC (.int 1))) wNil))))))) (gNm 6))
  w_law_L8)
def w_law_L6 : SW := (sSeq (sAsg (wLst (wCons (wVar 3) (wCons (wCall spec__law_near (wConsS 1 (wCons (wVar 3) wNil))) (wCons (wCall spec__law_near (wConsS 1 (wCons (wVar 3) wNil))) (wCons (wCall (spec__law_bent 8) (wConsS 1 (wCons (wVar 3) wNil))) (wCons (wCall (spec__law_bent 8) (wConsS 1 (wCons (wVar 3) wNil))) (wCons (wCall (spec__law_bent 8) (wConsS 1 (wCons (wVar 3) wNil))) (wCons (wOfL (lCB bList (wCons (wVar 3) wNil))) (wCons (wSl (wVar 3) oNone (oSome (wC (.int 1)))) (wCons (wC .non) wNil)))))))))) (gNm 6))
  w_law_L7)
def w_law_L5 : SW := (sSeq (sAsg (wLst (wCons (wTup (wCons (wVar 4) (wCons (wCall spec__law_steps (wConsS 1 (wCons (wVar 4) (wCons (wC (.int 30)) wNil)))) wNil))) (wCons (wTup (wCons (wVar 4) (wCons (wCall spec__law_steps (wConsS 1 (wCons (wVar 4) (wCons (wC (.int 31)) wNil)))) wNil))) (wCons (wTup (wCons (wVar 4) (wCons (wTup wNil) wNil))) (wCons (wTup (wCons (wBin bAdd (wVar 4) (wVar 4)) (wCons (wBin bIx (wVar 3) (wC (.int 1))) wNil))) wNil))))) (gNm 5))
  w_law_L6)
def w_law_L4 : SW := (sSeq (sAsg (wCall spec__law_spot (wConsS 1 (wCons (wBin bAdd (wC (.int 1)) (wCall spec__law_tooth (wConsS 1 (wCons (wC (.int 3)) wNil)))) wNil))) (gNm 4))
  w_law_L5)
def w_law : SW := (sSeq (sFor (iRange1 (wBin bAdd (wC (.int 3)) (wCB bMin2 (wCons (wC (.int 4)) (wCons (wCB bLen (wCons (wVar 0) wNil)) wNil))))) (gNm 2)
  (sSeq (sAsg (wCall spec__law_program (wConsS 1 (wCons (wBin bIx (wLst (wCons (wC (.int 4)) (wCons (wC (.int 12)) (wCons (wC (.int 30)) wNil)))) (wCall spec__law_tooth (wConsS 1 (wCons (wC (.int 3)) wNil)))) wNil))) (gNm 3))
  w_law_L4))
  (sRet (wC (.bl true))))
end DL
set_option linter.all false
set_option autoImplicit false
set_option maxHeartbeats 4000000
set_option maxRecDepth 100000
set_option exponentiation.threshold 20000
namespace DL
open PySem PySem.Spec PyProof.Rows L2
theorem vc__law_low : VC w__law_low 4 spec__law_low := by
  rintro ss Q Xe ⟨x, y, rfl, a, b, rfl, rfl, hb, hlog, q⟩
  refine low_loop (if a < 0 then -a else a) (if b < 0 then -b else b) (by split <;> omega) (by split <;> omega) fun r hr => ?_
  have e1 : (if a < 0 then -a else a) = (a.natAbs : Int) := by split <;> omega
  have e2 : (if b < 0 then -b else b) = (b.natAbs : Int) := by split <;> omega
  rw [e1, e2] at hr
  have eg : Int.gcd (a.natAbs : Int) (b.natAbs : Int) = Int.gcd a b := rfl
  rw [eg] at hr
  refine ite2 (fun z => ?_) fun z => ?_
  · have hp : 0 < b := of_decide_eq_true z
    exact low_fin hb hlog q _ (by rw [if_pos hp]; omega)
  · have hp : ¬ 0 < b := fun k => z (decide_eq_true k)
    exact low_fin hb hlog q _ (by rw [if_neg hp]; omega)
theorem vc__law_add : VC w__law_add 2 spec__law_add := by
  intro ss Q Xe h
  obtain ⟨x, y, rfl, p, q, n, m, rfl, rfl, hp, hq, hn, h⟩ := op_el h
  refine ⟨imul_sz hp.1 hq.den (by omega), imul_sz hq.1 hp.den (by omega), imul_sz hp.den hq.den (by omega), _, _, rfl, _, _, rfl, rfl, Int.mul_ne_zero (den_nz p) (den_nz q), log_lt (abs_mul_lt hp.den hq.den) (by omega), ?_⟩
  rw [add_rat]
  exact h
def eps : Rat := rat 1 (10 ^ 60)
theorem eps_gr : Gr 6 eps := ⟨6, by
  unfold eps D0
  have := rat_scale (p := rat 1 (10 ^ 60)) (f := 6) (by decide)
  have h1 : (rat 1 (10 ^ 60)).num = 1 := by decide +kernel
  have h2 : ((rat 1 (10 ^ 60)).den : Int) = 10 ^ 60 := by decide +kernel
  rw [h1, h2] at this
  rw [← this]
  rfl, by decide⟩
theorem eps_sz : Sz 210 eps := ⟨by decide +kernel, by decide +kernel⟩
theorem eps_fr : D.tup [.int 1, .int (10 ^ (60 : Int).toNat)] = fr eps := by
  have h1 : (rat 1 (10 ^ 60)).num = 1 := by decide +kernel
  have h2 : (rat 1 (10 ^ 60)).den = 10 ^ 60 := by decide +kernel
  unfold fr eps
  rw [h1, h2]
  rfl
theorem spot_turn {g a k pp : SV} {xs : List Rat} {DD : DEnds} {X : XD} (hl : xs.length ≤ 50) (hx : GrL (2 ^ 207) xs) (hN : ∀ (q : Rat) (v : SV), Gr (2 ^ 207) q → DD.nx [.src, a, .own (frs (xs ++ [q])), k, v]) :
    (sSeq (sAsg (wCall spec__law_low (wCons (wBin bSub (wCall spec__law_tooth (wConsS 0 (wCons (wC (.int 21)) wNil))) (wC (.int 10))) (wCons (wBin bIx (wLst (wCons (wC (.int 1)) (wCons (wC (.int 1)) (wCons (wC (.int 2)) (wCons (wC (.int 3)) wNil))))) (wCall spec__law_tooth (wConsS 0 (wCons (wC (.int 4)) wNil)))) wNil))) (gNm 4))
  (sAppend 2 (wIf (DL.tB (wBin bEq (wCall spec__law_tooth (wConsS 0 (wCons (wC (.int 12)) wNil))) (wC (.int 0)))) (wCall spec__law_add (wCons (wVar 4) (wCons (wTup (wCons (wC (.int 1)) (wCons (wBin bPow (wC (.int 10)) (wC (.int 60))) wNil))) wNil))) (wVar 4)))) X DD [.src, a, .own (frs xs), k, pp] := by
  refine ⟨21, rfl, by decide, by decide, fun r r0 r1 => ⟨(show 4 ≤ 100000 by decide), 4, rfl, by decide, by decide, fun d d0 d1 => ?_⟩⟩
  have key : ∀ b : Int, b = 1 ∨ b = 2 ∨ b = 3 → spec__law_low [.d (.int (r - 10)), .d (.int b)] (fun u => (sAppend 2 (wIf (DL.tB (wBin bEq (wCall spec__law_tooth (wConsS 0 (wCons (wC (.int 12)) wNil))) (wC (.int 0)))) (wCall spec__law_add (wCons (wVar 4) (wCons (wTup (wCons (wC (.int 1)) (wCons (wBin bPow (wC (.int 10)) (wC (.int 60))) wNil))) wNil))) (wVar 4))) X DD [.src, a, .own (frs xs), k, .d u.toD]) (X [.src, a, .own (frs xs), k, pp]) := fun b hb => by
    have hb0 : b ≠ 0 := by omega
    have hbd : b ∣ D0 := by
      rcases hb with rfl | rfl | rfl
      · exact ⟨D0, by decide⟩
      · exact ⟨3 * 10 ^ 60, by decide⟩
      · exact ⟨2 * 10 ^ 60, by decide⟩
    refine ⟨_, _, rfl, _, _, rfl, rfl, hb0, log_lt (n := 2) (by omega) (by decide), ?_⟩
    have hg : Gr (10 * D0.natAbs) (rat (r - 10) b) := Gr.rat hb0 hbd (Nat.mul_le_mul_right _ (by omega))
    have hs : Sz 24 (rat (r - 10) b) := sz_rat hb0 (by omega) (by omega)
    have hlen : (frs xs).length < 100000 := by rw [frs_len]; omega
    refine ⟨12, rfl, by decide, by decide, fun t t0 t1 => ⟨rfl, rfl, ?_⟩⟩
    refine ite2 (fun _ => ?_) fun _ => ?_
    · refine ⟨by decide, (show 2 ≤ 100000 by decide), ?_⟩
      show spec__law_add [.d (fr (rat (r - 10) b)), .d (.tup [.int 1, .int (10 ^ (60 : Int).toNat)])] _ _
      rw [eps_fr]
      refine op_ok hs eps_sz (by decide) ⟨hlen, ?_⟩
      have := hN (rat (r - 10) b + eps) (.d (fr (rat (r - 10) b))) ((hg.add eps_gr).mono (by decide))
      unfold frs at this
      rw [List.map_append] at this
      exact this
    · refine ⟨hlen, ?_⟩
      have := hN (rat (r - 10) b) (.d (fr (rat (r - 10) b))) (hg.mono (by decide))
      unfold frs at this
      rw [List.map_append] at this
      exact this
  have hd : d = 0 ∨ d = 1 ∨ d = 2 ∨ d = 3 := by omega
  rcases hd with rfl | rfl | rfl | rfl
  · exact key 1 (by decide)
  · exact key 1 (by decide)
  · exact key 2 (by decide)
  · exact key 3 (by decide)
theorem vc__law_spot : VC w__law_spot 5 spec__law_spot := by
  rintro ss Q Xe ⟨x, rfl, n, rfl, n1, n3, q⟩
  refine ⟨(show 0 ≤ 100000 by decide), ⟨by omega, by omega⟩, ?_⟩
  refine forGo_inv (fun r ρ => ∃ (xs : List Rat) (k pp : SV), ρ = [.src, .d (.int n), .own (frs xs), k, pp] ∧ GrL (2 ^ 207) xs ∧ xs.length + r.length = n.toNat) ?_ ?_ _ _ ⟨[], .un, .un, rfl, fun x m => (nomatch m), by rw [rangeD_len]; simp⟩
  · rintro x r ρ ⟨xs, k, pp, rfl, hx, hl⟩ M hM
    rw [List.length_cons] at hl
    refine spot_turn (g := .src) (by omega) hx fun p v hp => ?_
    refine hM _ ⟨xs ++ [p], _, v, rfl, fun y m => ?_, by rw [List.length_append, List.length_singleton]; omega⟩
    rcases List.mem_append.mp m with h | h
    · exact hx y h
    · rw [List.mem_singleton.mp h]
      exact hp
  · rintro ρ ⟨xs, k, pp, rfl, hx, hl⟩
    exact q xs (by simp at hl; omega) hx
theorem vc__law_mul : VC w__law_mul 2 spec__law_mul := by
  intro ss Q Xe h
  obtain ⟨x, y, rfl, p, q, n, m, rfl, rfl, hp, hq, hn, h⟩ := op_el h
  refine ⟨imul_sz hp.1 hq.1 (by omega), imul_sz hp.den hq.den (by omega), _, _, rfl, _, _, rfl, rfl, Int.mul_ne_zero (den_nz p) (den_nz q), log_lt (abs_mul_lt hp.den hq.den) (by omega), ?_⟩
  rw [mul_rat]
  exact h
section
variable {sp gp : List Rat} {b : Nat} (h1 : 1 ≤ sp.length) (h3 : sp.length ≤ 3) (hg : gp = [] ∨ gp.length = sp.length) (hs : GrL (2 ^ b) sp) (hgp : GrL (2 ^ b) gp) (b0 : 207 ≤ b) (b1 : b ≤ 400) {Q : RV → Prop} {Xe : Exc → Prop}
  (q : ∀ goal : List Rat, goal.length = sp.length → goal ≠ sp → GrL (2 ^ (b + 3)) goal → Q (.d (ptD goal)))
include h1 h3 b0 b1 q
theorem next4 {a4 a5 a6 a7 a8 a9 a10 : SV} {gs : List Rat} (hl : gs.length = sp.length) (hgs : GrL (3 * 2 ^ b + 12) gs) : w__law_next_4 (fun _ => Xe) { nx := fun _ => Q (.d .non), rt := Q } [.src, .d (ptD sp), .d (ptD gp), .own (frs gs), a4, a5, a6, a7, a8, a9, a10] := by
  have p0 : 2 ^ 207 ≤ 2 ^ b := Nat.pow_le_pow_right (by decide) b0
  have p3 : 2 ^ (b + 3) = 8 * 2 ^ b := by rw [Nat.pow_add, Nat.mul_comm]
  refine ⟨plain_pt 37 gs, plain_pt 37 sp, ?_⟩
  show if peq (ptD gs) (ptD sp) = true then _ else _
  rw [peq_ptD]
  refine ite2 (fun z => ?_) fun z => ?_
  · have z : gs = sp := of_decide_eq_true z
    have hk : 0 < gs.length := by omega
    have sz0 : Sz (b + 3) gs[0] := ((hgs.at hk).mono (b := 2 ^ (b + 2)) (by rw [Nat.pow_add]; omega)).sz (by omega)
    refine mAt (at_frs hk) ⟨(show 2 ≤ 100000 by decide), ?_⟩
    refine op_ok (q := 1) (m := 1) sz0 ⟨by decide, by decide⟩ (by omega) ?_
    refine mIx (j := 0) (ixN_of (by rw [frs_len]; exact hk)) ?_
    show Q (.d (.tup ((frs gs).set 0 (fr (gs[0] + 1)))))
    rw [frs_set]
    refine q _ (by rw [List.length_set]; exact hl) (fun e => ?_) ?_
    · have e2 : (gs.set 0 (gs[0] + 1))[0]? = gs[0]? := by
        rw [e]
        exact congrArg (fun l : List Rat => l[0]?) z.symm
      rw [List.getElem?_set_self hk, List.getElem?_eq_getElem hk] at e2
      have e3 := Option.some.inj e2
      grind
    · have g1 : Gr (2 ^ (b + 3)) (gs[0] + 1) := ((hgs.at hk).add one_gr).mono (by
        have : D0.natAbs < 2 ^ 204 := by decide
        rw [p3]
        omega)
      exact (hgs.mono (by rw [p3]; omega)).set g1
  · have z : gs ≠ sp := fun k => z (decide_eq_true k)
    exact q gs hl z (hgs.mono (by rw [p3]; omega))
include hs in
theorem next3 {a6 a7 a8 a9 a10 : SV} {gs : List Rat} {k : Int} (k0 : 0 ≤ k) (k1 : k < 10) (hl : gs.length = sp.length) (hgs : GrL (3 * 2 ^ b + 12) gs) : w__law_next_3 (fun _ => Xe) { nx := fun _ => Q (.d .non), rt := Q } [.src, .d (ptD sp), .d (ptD gp), .own (frs gs), .d (.int sp.length), .d (.int k), a6, a7, a8, a9, a10] := by
  have p0 : 2 ^ 207 ≤ 2 ^ b := Nat.pow_le_pow_right (by decide) b0
  have bend : (sSeq (sAsg (wCall spec__law_tooth (wConsS 0 (wCons (wVar 4) wNil))) (gNm 7))
  (sSetL 3 (lCat (wBin bAdd (wOfL (lCB bList (wCons (wSl (wVar 1) oNone (oSome (wVar 7))) wNil))) (wLst (wCons (wIf (DL.tB (wBin bEq (wVar 5) (wC (.int 5)))) (wIxOwn 3 (wVar 7)) (wCall spec__law_add (wCons (wBin bIx (wVar 1) (wVar 7)) (wCons (wTup (wCons (wC (.int 1)) (wCons (wBin bPow (wC (.int 10)) (wC (.int 60))) wNil))) wNil)))) wNil))) (wOfL (lCB bList (wCons (wSl (wVar 1) (oSome (wBin bAdd (wVar 7) (wC (.int 1)))) oNone) wNil)))))) (fun _ => Xe) { nx := w__law_next_4 (fun _ => Xe) { nx := fun _ => Q (.d .non), rt := Q }, rt := Q } [.src, .d (ptD sp), .d (ptD gp), .own (frs gs), .d (.int sp.length), .d (.int k), a6, a7, a8, a9, a10] := by
    refine ⟨sp.length, rfl, by omega, log_lt (n := 2) (by omega) (by decide), fun r r0 r1 => ?_⟩
    obtain ⟨j, rfl⟩ := Int.eq_ofNat_of_zero_le r0
    have hj : j < sp.length := by omega
    have cut1 : cutD (frs sp) none (some (j : Int)) = frs (sp.take j) := by
      unfold cutD
      rw [HT.sIx_none, HT.sIx_nat, frs_len]
      have : min j sp.length = j := by omega
      rw [this]
      unfold frs
      simp
    have cut2 : cutD (frs sp) (some ((j : Int) + 1)) none = frs (sp.drop (j + 1)) := by
      unfold cutD
      rw [HT.sIx_none, show (j : Int) + 1 = ((j + 1 : Nat) : Int) by omega, HT.sIx_nat, frs_len]
      have : min (j + 1) sp.length = j + 1 := by omega
      rw [this]
      unfold frs
      rw [← List.map_drop]
      exact List.take_of_length_le (by simp)
    have fin : ∀ p : Rat, Gr (3 * 2 ^ b + 12) p → (1 ≤ 100000) ∧ ((cutD (frs sp) none (some (j : Int))).length + 1 ≤ 100000 ∧ ((cutD (frs sp) none (some (j : Int)) ++ [fr p]).length + (cutD (frs sp) (some ((j : Int) + 1)) none).length ≤ 100000 ∧ w__law_next_4 (fun _ => Xe) { nx := fun _ => Q (.d .non), rt := Q } [.src, .d (ptD sp), .d (ptD gp), .own (cutD (frs sp) none (some (j : Int)) ++ [fr p] ++ cutD (frs sp) (some ((j : Int) + 1)) none), .d (.int sp.length), .d (.int k), a6, .d (.int j), a8, a9, a10])) := fun p hp => by
      rw [cut1, cut2]
      have e : frs (sp.take j) ++ [fr p] ++ frs (sp.drop (j + 1)) = frs (sp.take j ++ [p] ++ sp.drop (j + 1)) := by
        unfold frs
        simp
      refine ⟨by decide, by rw [frs_len, List.length_take]; omega, by rw [List.length_append, frs_len, frs_len, List.length_take, List.length_drop]; show _ + 1 + _ ≤ _; omega, ?_⟩
      rw [e]
      refine next4 h1 h3 b0 b1 q ?_ ?_
      · simp
        omega
      · intro x m
        rcases List.mem_append.mp m with m | m
        · rcases List.mem_append.mp m with m | m
          · exact (hs x (List.mem_of_mem_take m)).mono (by omega)
          · rw [List.mem_singleton.mp m]
            exact hp
        · exact (hs x (List.mem_of_mem_drop m)).mono (by omega)
    refine ⟨rfl, rfl, ?_⟩
    refine ite2 (fun _ => ?_) fun _ => ?_
    · exact mAt (at_frs (xs := gs) (k := j) (by omega)) (fin _ (hgs.at (by omega)))
    · refine mAt (at_frs hj) ⟨by decide, (show 2 ≤ 100000 by decide), ?_⟩
      show spec__law_add [.d (fr sp[j]), .d (.tup [.int 1, .int (10 ^ (60 : Int).toNat)])] _ _
      rw [eps_fr]
      refine op_ok ((hs.at hj).sz (by omega)) eps_sz (by omega) ?_
      exact fin _ (((hs.at hj).add eps_gr).mono (by omega))
  refine ⟨rfl, rfl, ?_⟩
  refine ite2 (fun _ => bend) fun _ => ?_
  refine ⟨rfl, rfl, ?_⟩
  exact ite2 (fun _ => bend) fun _ => next4 h1 h3 b0 b1 q hl hgs
include hs hg hgp in
theorem nextL5 {a7 a8 a9 a10 u : SV} {k f : Int} (hf : f = 1 ∨ f = 2 ∨ f = -1 ∨ f = -2) (k0 : 0 ≤ k) (k1 : k < 10) (hne : gp ≠ []) : w__law_next_L5 (fun _ => Xe) { nx := w__law_next_3 (fun _ => Xe) { nx := fun _ => Q (.d .non), rt := Q }, rt := Q } [.src, .d (ptD sp), .d (ptD gp), u, .d (.int sp.length), .d (.int k), .d (.tup [.int f, .int 1]), a7, a8, a9, a10] := by
  have p0 : 2 ^ 207 ≤ 2 ^ b := Nat.pow_le_pow_right (by decide) b0
  have hlen : gp.length = sp.length := hg.resolve_left hne
  have ff : D.tup [.int f, .int 1] = fr (f : Rat) := rfl
  have sf : Sz 2 (f : Rat) := ⟨by show f.natAbs < _; rcases hf with rfl | rfl | rfl | rfl <;> decide, by show 1 < _; decide⟩
  have key : compGo (gTupW (gConsW (gNm 9) (gConsW (gNm 10) gNilW))) tYesW (wCall spec__law_add (wCons (wVar 9) (wCons (wCall spec__law_mul (wCons (wVar 10) (wCons (wVar 6) wNil))) wNil))) [.src, .d (ptD sp), .d (ptD gp), u, .d (.int sp.length), .d (.int k), .d (.tup [.int f, .int 1]), a7, a8, .un, .un]
      (fun ys => (sSetItem 3 (wC (.int 0)) (wIf (DL.tB (wBin bEq (wVar 5) (wC (.int 4)))) (wCall spec__law_add (wCons (wIxOwn 3 (wC (.int 0))) (wCons (wTup (wCons (wC (.int 1)) (wCons (wBin bPow (wC (.int 10)) (wC (.int 60))) wNil))) wNil))) (wIxOwn 3 (wC (.int 0))))) (fun _ => Xe) { nx := w__law_next_3 (fun _ => Xe) { nx := fun _ => Q (.d .non), rt := Q }, rt := Q } [.src, .d (ptD sp), .d (ptD gp), .own ys, .d (.int sp.length), .d (.int k), .d (.tup [.int f, .int 1]), a7, a8, a9, a10]) (pairD (frs sp) (frs gp)) [] := by
    refine compGo_map (fun x y => ∃ p g : Rat, x = .tup [fr p, fr g] ∧ y = fr (p + g * f) ∧ Gr (2 ^ b) p ∧ Gr (2 ^ b) g) _ _ (fun x hx Q' q1 => ?_) (by rw [pairD_len, frs_len, frs_len]; simp; omega) fun ys hys => ?_
    · obtain ⟨i, hi⟩ := List.getElem?_of_mem hx
      obtain ⟨x1, x2, rfl, g1, g2⟩ := pairD_get hi
      obtain ⟨p, hp, rfl⟩ := List.mem_map.mp (List.mem_of_getElem? g1)
      obtain ⟨g, hgm, rfl⟩ := List.mem_map.mp (List.mem_of_getElem? g2)
      refine ⟨rfl, ?_⟩
      show spec__law_mul [.d (fr g), .d (.tup [.int f, .int 1])] _ _
      rw [ff]
      refine op_ok ((hgp g hgm).sz (by omega)) sf (by omega) ?_
      refine op_ok ((hs p hp).sz (by omega)) (((hgp g hgm).sz (by omega)).mul sf) (by omega) ?_
      exact q1 _ ⟨p, g, rfl, rfl, hs p hp, hgp g hgm⟩
    · rw [List.nil_append]
      have hy : ∀ y ∈ ys, ∃ q : Rat, y = fr q ∧ Gr (3 * 2 ^ b) q := fun y m => by
        obtain ⟨x, _, p, g, _, rfl, hp, hg2⟩ := all2_mem hys y m
        refine ⟨_, rfl, ((hp.add (hg2.scale f)).mono ?_)⟩
        have : f.natAbs ≤ 2 := by omega
        have := Nat.mul_le_mul_right (2 ^ b) this
        omega
      obtain ⟨gs, rfl⟩ := frs_of fun y m => (hy y m).elim fun q h => ⟨q, h.1⟩
      have hgs : GrL (3 * 2 ^ b) gs := fun x m => by
        obtain ⟨y, e, h⟩ := hy (fr x) (List.mem_map.mpr ⟨x, m, rfl⟩)
        rw [fr_inj e]
        exact h
      have hl : gs.length = sp.length := by
        have := all2_len hys
        rw [pairD_len, frs_len, frs_len, frs_len] at this
        omega
      have hk : 0 < gs.length := by omega
      have fin : ∀ p : Rat, Gr (3 * 2 ^ b + 12) p → (match L2.ixN (frs gs).length 0 with
        | some n => w__law_next_3 (fun _ => Xe) { nx := fun _ => Q (.d .non), rt := Q } [.src, .d (ptD sp), .d (ptD gp), .own ((frs gs).set n (fr p)), .d (.int sp.length), .d (.int k), .d (.tup [.int f, .int 1]), a7, a8, a9, a10]
        | none => False) := fun p hp => by
        refine mIx (j := 0) (ixN_of (by rw [frs_len]; exact hk)) ?_
        rw [frs_set]
        exact next3 h1 h3 hs b0 b1 q k0 k1 (by rw [List.length_set]; exact hl) ((hgs.mono (by omega)).set hp)
      refine ⟨rfl, rfl, ?_⟩
      refine ite2 (fun _ => ?_) fun _ => ?_
      · refine mAt (at_frs hk) ⟨by decide, (show 2 ≤ 100000 by decide), ?_⟩
        show spec__law_add [.d (fr gs[0]), .d (.tup [.int 1, .int (10 ^ (60 : Int).toNat)])] _ _
        rw [eps_fr]
        refine op_ok (((hgs.at hk).mono (b := 2 ^ (b + 2)) (by rw [Nat.pow_add]; omega)).sz (by omega)) eps_sz (by omega) ?_
        exact fin _ (((hgs.at hk).add eps_gr).mono (by omega))
      · exact mAt (at_frs hk) (fin _ ((hgs.at hk).mono (by omega)))
  exact key
include hs hg hgp in
theorem next2 {a6 a7 a8 a9 a10 : SV} {k : Int} {gs : List Rat} (k0 : 0 ≤ k) (k1 : k < 10) (hl : gs.length = sp.length) (hgs : GrL (2 ^ 207) gs) : w__law_next_2 (fun _ => Xe) { nx := fun _ => Q (.d .non), rt := Q } [.src, .d (ptD sp), .d (ptD gp), .own (frs gs), .d (.int sp.length), .d (.int k), a6, a7, a8, a9, a10] := by
  have p0 : 2 ^ 207 ≤ 2 ^ b := Nat.pow_le_pow_right (by decide) b0
  have skip : w__law_next_3 (fun _ => Xe) { nx := fun _ => Q (.d .non), rt := Q } [.src, .d (ptD sp), .d (ptD gp), .own (frs gs), .d (.int sp.length), .d (.int k), a6, a7, a8, a9, a10] := next3 h1 h3 hs b0 b1 q k0 k1 hl (hgs.mono (by omega))
  refine ite2 (fun hk => ?_) fun _ => skip
  have hk5 : k < 5 := of_decide_eq_true hk
  refine ⟨(show 0 ≤ 100000 by decide), plain_pt 37 gp, by rfl, ?_⟩
  show if (!peq (ptD gp) (ptD [])) = true then _ else _
  rw [peq_ptD]
  refine ite2 (fun z => ?_) fun _ => skip
  have hne : gp ≠ [] := fun e => by
    rw [e] at z
    simp at z
  have key : compGo (gNm 8) (DL.tB (wBin bGt (wCB bAbs (wCons (wBin bIx (wVar 8) (wC (.int 0))) wNil)) (wBin bMul (wC (.int 1000)) (wBin bIx (wVar 8) (wC (.int 1)))))) (wC (.int 1)) [.src, .d (ptD sp), .d (ptD gp), .own (frs gs), .d (.int sp.length), .d (.int k), a6, a7, .un, a9, a10]
      (fun ys => 0 ≤ 100000 ∧ (plain 40 (.lst ys) = true ∧ (plain 40 (.lst []) = true ∧ if peq (.lst ys) (.lst []) = true then
        (sSeq (sAsg (wBin bIx (wLst (wCons (wTup (wCons (wC (.int 1)) (wCons (wC (.int 1)) wNil))) (wCons (wTup (wCons (wC (.int 2)) (wCons (wC (.int 1)) wNil))) (wCons (wTup (wCons (wUn bNeg (wC (.int 1))) (wCons (wC (.int 1)) wNil))) (wCons (wTup (wCons (wUn bNeg (wC (.int 2))) (wCons (wC (.int 1)) wNil))) (wCons (wTup (wCons (wC (.int 1)) (wCons (wC (.int 1)) wNil))) wNil)))))) (wVar 5)) (gNm 6)) w__law_next_L5) (fun _ => Xe) { nx := w__law_next_3 (fun _ => Xe) { nx := fun _ => Q (.d .non), rt := Q }, rt := Q } [.src, .d (ptD sp), .d (ptD gp), .own (frs gs), .d (.int sp.length), .d (.int k), a6, a7, a8, a9, a10]
        else w__law_next_3 (fun _ => Xe) { nx := fun _ => Q (.d .non), rt := Q } [.src, .d (ptD sp), .d (ptD gp), .own (frs gs), .d (.int sp.length), .d (.int k), a6, a7, a8, a9, a10]))) (frs sp) [] := by
    refine compGo_filt (fun _ o => ∀ y, o = some y → y = D.int 1) _ _ (fun x hx Q' N q1 q2 => ?_) (by rw [frs_len]; simp; omega) fun ys hys => ?_
    · obtain ⟨p, _, rfl⟩ := List.mem_map.mp hx
      refine ⟨.inl (by decide), ?_⟩
      refine ite2 (fun _ => ?_) fun _ => q2 fun y e => nomatch e
      exact q1 _ fun y e => (Option.some.inj e).symm
    · rw [List.nil_append]
      have hy : ∀ y ∈ ys, y = D.int 1 := Filt.all hys fun x y _ r => r y rfl
      have hp : plain 40 (.lst ys) = true := by
        simp only [plain]
        have : ∀ zs : List D, (∀ y ∈ zs, y = D.int 1) → plainL 39 zs = true := fun zs h => by
          induction zs with
          | nil => simp [plainL]
          | cons z zs ih =>
            have e := h z List.mem_cons_self
            subst e
            simp only [plainL, plain, Bool.and_eq_true]
            exact ⟨trivial, ih fun y m => h y (List.mem_cons_of_mem _ m)⟩
        exact this ys hy
      refine ⟨by decide, hp, by rfl, ?_⟩
      refine ite2 (fun _ => ?_) fun _ => skip
      refine ⟨(show 2 ≤ 100000 by decide), (show 2 ≤ 100000 by decide), (show 2 ≤ 100000 by decide), (show 2 ≤ 100000 by decide), (show 2 ≤ 100000 by decide), (show 5 ≤ 100000 by decide), ?_⟩
      have hc : k = 0 ∨ k = 1 ∨ k = 2 ∨ k = 3 ∨ k = 4 := by omega
      rcases hc with rfl | rfl | rfl | rfl | rfl
      · exact nextL5 h1 h3 hg hs hgp b0 b1 q (f := 1) (by decide) k0 k1 hne
      · exact nextL5 h1 h3 hg hs hgp b0 b1 q (f := 2) (by decide) k0 k1 hne
      · exact nextL5 h1 h3 hg hs hgp b0 b1 q (f := -1) (by decide) k0 k1 hne
      · exact nextL5 h1 h3 hg hs hgp b0 b1 q (f := -2) (by decide) k0 k1 hne
      · exact nextL5 h1 h3 hg hs hgp b0 b1 q (f := 1) (by decide) k0 k1 hne
  exact key
end
theorem vc__law_next : VC w__law_next 11 spec__law_next := by
  rintro ss Q Xe ⟨x, y, rfl, sp, gp, b, rfl, rfl, h1, h3, hg, hs, hgp, b0, b1, q⟩
  refine ⟨10, rfl, by decide, by decide, fun k k0 k1 => ?_⟩
  have e : (frs sp).length = sp.length := frs_len sp
  refine ⟨_, rfl, sp.length, by rw [e], by omega, by omega, fun pt hl hpt => ?_⟩
  show w__law_next_2 (fun _ => Xe) { nx := fun _ => Q (.d .non), rt := Q } [.src, .d (ptD sp), .d (ptD gp), .own (frs pt), .d (.int (frs sp).length), .d (.int k), .un, .un, .un, .un, .un]
  rw [e]
  exact next2 h1 h3 hg hs hgp b0 b1 q k0 k1 (by omega) hpt
theorem vc__law_take : VC w__law_take 2 spec__law_take := by
  intro ss Q Xe h
  obtain ⟨x, y, rfl, p, q, n, m, rfl, rfl, hp, hq, hn, h⟩ := op_el h
  refine ⟨imul_sz hp.1 hq.den (by omega), imul_sz hq.1 hp.den (by omega), imul_sz hp.den hq.den (by omega), _, _, rfl, _, _, rfl, rfl, Int.mul_ne_zero (den_nz p) (den_nz q), log_lt (abs_mul_lt hp.den hq.den) (by omega), ?_⟩
  rw [sub_rat]
  exact h
section
variable {X : XD} {DD : DEnds} {st : D} {m k : Int} {ss : List StepR} {cp gp gl : List Rat} {a9 a10 a11 : SV}
/-- the point that is reached -/
def lastPt (sp : List Rat) (ss : List StepR) : List Rat := (ss.getLast?.map StepR.goal).getD sp
theorem stepsL6 {f : Rat} (hl : ss.length ≤ 40) (hf : 0 < f) (hsz : Sz 300 f)
    (hN : ∀ (w : Rat) (b : Bool) (v : SV), 0 ≤ w → w ≤ f → Sz 340 w → DD.nx [.src, .d st, .d (.int m), .d (.int k), .own ((ss ++ [StepR.mk gl f w b]).map stepD), .d (ptD cp), .d (ptD gp), .d (ptD gl), .d (fr f), v, a10, a11]) :
    w__law_steps_L6 X DD [.src, .d st, .d (.int m), .d (.int k), .own (ss.map stepD), .d (ptD cp), .d (ptD gp), .d (ptD gl), .d (fr f), a9, a10, a11] := by
  have third : D.tup [.int 1, .int 3] = fr (rat 1 3) := by
    have h1 : (rat 1 3).num = 1 := by decide +kernel
    have h2 : (rat 1 3).den = 3 := by decide +kernel
    unfold fr
    rw [h1, h2]
    rfl
  have s3 : Sz 2 (rat 1 3) := ⟨by decide +kernel, by decide +kernel⟩
  have hlen : (ss.map stepD).length < 100000 := by rw [List.length_map]; omega
  have fin : ∀ w : Rat, 0 ≤ w → w ≤ f → Sz 340 w → (sAppend 4 (wTup (wCons (wVar 7) (wCons (wVar 8) (wCons (wVar 9) (wCons (wBin bEq (wCall spec__law_tooth (wConsS 0 (wCons (wC (.int 5)) wNil))) (wC (.int 0))) wNil)))))) X DD [.src, .d st, .d (.int m), .d (.int k), .own (ss.map stepD), .d (ptD cp), .d (ptD gp), .d (ptD gl), .d (fr f), .d (fr w), a10, a11] := fun w w0 w1 ws => by
    refine ⟨5, rfl, by decide, by decide, fun r r0 r1 => ⟨rfl, rfl, (show 4 ≤ 100000 by decide), hlen, ?_⟩⟩
    have := hN w (peq (.int r) (.int 0)) (.d (fr w)) w0 w1 ws
    rw [List.map_append] at this
    exact this
  refine ⟨(show 2 ≤ 100000 by decide), (show 2 ≤ 100000 by decide), (show 2 ≤ 100000 by decide), ?_⟩
  show spec__law_mul [.d (fr f), .d (.tup [.int 1, .int 3])] _ _
  rw [third]
  refine op_ok hsz s3 (by omega) ⟨(show 4 ≤ 100000 by decide), 4, rfl, by decide, by decide, fun r r0 r1 => ?_⟩
  have hr : r = 0 ∨ r = 1 ∨ r = 2 ∨ r = 3 := by omega
  have f0 : 0 ≤ f := by grind
  have p3 : (0 : Rat) < rat 1 3 := rat_pos (by decide) (by decide)
  have l3 : rat 1 3 ≤ 1 := by
    rw [Rat.le_iff]
    decide +kernel
  rcases hr with rfl | rfl | rfl | rfl
  · exact fin 0 (by grind) f0 (sz_0.mono (by decide))
  · exact fin 0 (by grind) f0 (sz_0.mono (by decide))
  · exact fin f f0 (by grind) (hsz.mono (by decide))
  · refine fin (f * rat 1 3) (Rat.mul_nonneg f0 (by grind)) ?_ ((hsz.mul s3).mono (by decide))
    have := Rat.mul_le_mul_of_nonneg_left l3 f0
    rw [Rat.mul_one] at this
    exact this
theorem stepsL5 {a8 : SV} (hl : ss.length ≤ 40)
    (hN : ∀ (f w : Rat) (b : Bool) (u v : SV), 0 < f → Sz 300 f → 0 ≤ w → w ≤ f → Sz 340 w → DD.nx [.src, .d st, .d (.int m), .d (.int k), .own ((ss ++ [StepR.mk gl f w b]).map stepD), .d (ptD cp), .d (ptD gp), .d (ptD gl), u, v, a10, a11]) :
    w__law_steps_L5 X DD [.src, .d st, .d (.int m), .d (.int k), .own (ss.map stepD), .d (ptD cp), .d (ptD gp), .d (ptD gl), a8, a9, a10, a11] := by
  refine ⟨12, rfl, by decide, by decide, fun r r0 r1 => ⟨(show 4 ≤ 100000 by decide), 4, rfl, by decide, by decide, fun d d0 d1 => ?_⟩⟩
  have key : ∀ b : Int, b = 1 ∨ b = 2 ∨ b = 5 → spec__law_low [.d (.int (1 + r)), .d (.int b)] (fun u => w__law_steps_L6 X DD [.src, .d st, .d (.int m), .d (.int k), .own (ss.map stepD), .d (ptD cp), .d (ptD gp), .d (ptD gl), .d u.toD, a9, a10, a11]) (X [.src, .d st, .d (.int m), .d (.int k), .own (ss.map stepD), .d (ptD cp), .d (ptD gp), .d (ptD gl), a8, a9, a10, a11]) := fun b hb => by
    refine ⟨_, _, rfl, _, _, rfl, rfl, by omega, log_lt (n := 3) (by omega) (by decide), ?_⟩
    have hsz : Sz 300 (rat (1 + r) b) := sz_rat (by omega) (by omega) (by omega)
    have hf : 0 < rat (1 + r) b := rat_pos (by omega) (by omega)
    exact stepsL6 hl hf hsz fun w c v w0 w1 ws => hN _ w c _ v hf hsz w0 w1 ws
  have hd : d = 0 ∨ d = 1 ∨ d = 2 ∨ d = 3 := by omega
  rcases hd with rfl | rfl | rfl | rfl
  · exact key 1 (by decide)
  · exact key 1 (by decide)
  · exact key 2 (by decide)
  · exact key 5 (by decide)
theorem stepsL4 {a6 a8 : SV} {b : Nat} (hl : ss.length ≤ 40) (hlen : gl.length = cp.length) (h3 : cp.length ≤ 3) (b0 : 204 ≤ b) (b1 : b ≤ 500) (g1 : GrL (2 ^ b) gl) (g2 : GrL (2 ^ b) cp)
    (hN : ∀ (g : List Rat) (f w : Rat) (c : Bool) (u v : SV), g.length = gl.length → GrL (2 ^ (b + 1)) g → 0 < f → Sz 300 f → 0 ≤ w → w ≤ f → Sz 340 w → DD.nx [.src, .d st, .d (.int m), .d (.int k), .own ((ss ++ [StepR.mk gl f w c]).map stepD), .d (ptD gl), .d (ptD g), .d (ptD gl), u, v, a10, a11]) :
    w__law_steps_L4 X DD [.src, .d st, .d (.int m), .d (.int k), .own (ss.map stepD), .d (ptD cp), a6, .d (ptD gl), a8, a9, a10, a11] := by
  have key : compGo (gTupW (gConsW (gNm 10) (gConsW (gNm 11) gNilW))) tYesW (wCall spec__law_take (wCons (wVar 10) (wCons (wVar 11) wNil))) [.src, .d st, .d (.int m), .d (.int k), .own (ss.map stepD), .d (ptD cp), a6, .d (ptD gl), a8, a9, .un, .un]
      (fun ys => w__law_steps_L5 X DD [.src, .d st, .d (.int m), .d (.int k), .own (ss.map stepD), .d (ptD gl), .d (.tup ys), .d (ptD gl), a8, a9, a10, a11]) (pairD (frs gl) (frs cp)) [] := by
    refine compGo_map (fun x y => ∃ q : Rat, y = fr q ∧ Gr (2 ^ (b + 1)) q) _ _ (fun x hx Q' q1 => ?_) (by rw [pairD_len, frs_len, frs_len]; simp; omega) fun ys hys => ?_
    · obtain ⟨i, hi⟩ := List.getElem?_of_mem hx
      obtain ⟨x1, x2, rfl, e1, e2⟩ := pairD_get hi
      obtain ⟨p, hp, rfl⟩ := List.mem_map.mp (List.mem_of_getElem? e1)
      obtain ⟨g, hgm, rfl⟩ := List.mem_map.mp (List.mem_of_getElem? e2)
      refine ⟨rfl, ?_⟩
      refine op_ok ((g1 p hp).sz (by omega)) ((g2 g hgm).sz (by omega)) (by omega) ?_
      exact q1 _ ⟨p - g, rfl, ((g1 p hp).sub (g2 g hgm)).mono (b := 2 ^ (b + 1)) (by rw [Nat.pow_succ]; omega)⟩
    · rw [List.nil_append]
      have hy : ∀ y ∈ ys, ∃ q : Rat, y = fr q ∧ Gr (2 ^ (b + 1)) q := fun y m => (all2_mem hys y m).elim fun x h => h.2
      obtain ⟨gs, rfl⟩ := frs_of fun y m => (hy y m).elim fun q h => ⟨q, h.1⟩
      have hgs : GrL (2 ^ (b + 1)) gs := fun x m => by
        obtain ⟨y, e, h⟩ := hy (fr x) (List.mem_map.mpr ⟨x, m, rfl⟩)
        rw [fr_inj e]
        exact h
      have hgl : gs.length = gl.length := by
        have := all2_len hys
        rw [pairD_len, frs_len, frs_len, frs_len] at this
        omega
      exact stepsL5 (gp := gs) hl fun f w c u v f0 fs w0 w1 ws => hN gs f w c u v hgl hgs f0 fs w0 w1 ws
  exact key
end
theorem vc__law_steps : VC w__law_steps 12 spec__law_steps := by
  rintro ss Q Xe ⟨x, y, rfl, sp, m, rfl, rfl, m1, m30, l1, l3, hs, q⟩
  refine ⟨(show 0 ≤ 100000 by decide), (show 0 ≤ 100000 by decide), ⟨by omega, by omega⟩, ?_⟩
  refine forGo_inv (fun r ρ => (∀ x ∈ r, ∃ k : Int, x = .int k) ∧ ∃ (ss : List StepR) (cp gp : List Rat) (a3 a7 a8 a9 : SV), ρ = [.src, .d (ptD sp), .d (.int m), a3, .own (ss.map stepD), .d (ptD cp), .d (ptD gp), a7, a8, a9, .un, .un] ∧ ss.length + r.length = m.toNat ∧ chainOk sp ss ∧ lastPt sp ss = cp ∧ cp.length = sp.length ∧ (gp = [] ∨ gp.length = sp.length) ∧ GrL (2 ^ (208 + 4 * ss.length)) cp ∧ GrL (2 ^ (208 + 4 * ss.length)) gp) ?_ ?_ _ _ ⟨?_, [], sp, [], .un, .un, .un, .un, rfl, by rw [rangeD_len]; simp, trivial, rfl, rfl, .inl rfl, hs.mono (by decide), fun x m => (nomatch m)⟩
  · rintro x r ρ ⟨hr, ss, cp, gp, a3, a7, a8, a9, rfl, hl, hch, hlast, hcl, hgl, hcp, hgp⟩ N hN
    rw [List.length_cons] at hl
    obtain ⟨k, rfl⟩ := hr x List.mem_cons_self
    have hss : ss.length < 31 := by omega
    refine ⟨_, _, rfl, cp, gp, 208 + 4 * ss.length, rfl, rfl, by omega, by omega, by rcases hgl with h | h; exact .inl h; exact .inr (by omega), hcp, hgp, by omega, by omega, fun goal g1 g2 g3 => ?_⟩
    refine stepsL4 (b := 208 + 4 * ss.length + 3) (by omega) g1 (by omega) (by omega) (by omega) g3 (hcp.mono (Nat.pow_le_pow_right (by decide) (by omega))) fun g f w c u v e1 e2 f0 fs w0 w1 ws => ?_
    refine hN _ ⟨fun y hy => hr y (List.mem_cons_of_mem _ hy), ss ++ [StepR.mk goal f w c], goal, g, _, _, u, v, rfl, by rw [List.length_append, List.length_singleton]; omega, ?_, ?_, by omega, .inr (by omega), ?_, ?_⟩
    · refine chain_snoc hch ?_
      have hlast : (ss.getLast?.map StepR.goal).getD sp = cp := hlast
      rw [hlast]
      exact ⟨g1, g2, g3.mono (Nat.pow_le_pow_right (by decide) (by omega)), f0, fs, w0, w1, ws⟩
    · simp [lastPt]
    · refine g3.mono (Nat.pow_le_pow_right (by decide) ?_)
      rw [List.length_append, List.length_singleton]
      omega
    · refine e2.mono (Nat.pow_le_pow_right (by decide) ?_)
      rw [List.length_append, List.length_singleton]
      omega
  · rintro ρ ⟨hr, ss, cp, gp, a3, a7, a8, a9, rfl, hl, hch, hlast, hcl, hgl, hcp, hgp⟩
    rw [List.length_nil] at hl
    exact q ss (by omega) hch
  · intro x hx
    obtain ⟨k, _, rfl⟩ := mem_range hx
    exact ⟨_, rfl⟩
theorem vc__law_program : VC w__law_program 3 spec__law_program := by
  rintro ss Q Xe ⟨x, rfl, m, rfl, m1, m30, q⟩
  refine ⟨3, rfl, by decide, by decide, fun a a0 a1 => ?_⟩
  refine ⟨_, rfl, 1 + a, rfl, by omega, by omega, fun pt hl hpt => ?_⟩
  refine ⟨m, rfl, by omega, log_lt (n := 5) (by omega) (by decide), fun r r0 r1 => ?_⟩
  refine ⟨_, _, rfl, pt, 1 + r, rfl, rfl, by omega, by omega, by omega, by omega, hpt, fun ss hs hch => ⟨(show 2 ≤ 100000 by decide), ?_⟩⟩
  exact q ⟨pt, ss⟩ ⟨⟨by show 1 ≤ pt.length; omega, by show pt.length ≤ 3; omega⟩, hpt.mono (by decide), ⟨by show 1 ≤ ss.length; omega, by show ss.length ≤ 30; omega⟩, hch⟩ (by show (ss.length : Int) ≤ m; omega)
theorem draw_c {n : Nat} (h0 : 1 ≤ n) (h1 : n ≤ 1000) : 0 < (n : Int) ∧ (n : Int).natAbs.log2 < 9000 := ⟨by omega, log_lt (n := 10) (by have : (2 : Nat) ^ 10 = 1024 := rfl; omega) (by decide)⟩
theorem vc__law_pick : VC w__law_pick 2 spec__law_pick := by
  rintro ss Q Xe ⟨_, rfl, xs, rfl, hne, hl, q⟩
  have := List.length_pos_iff.mpr hne
  refine ⟨(xs.length : Int), rfl, (draw_c (by omega) hl).1, (draw_c (by omega) hl).2, fun r r0 r1 => ?_⟩
  obtain ⟨k, rfl⟩ : ∃ k : Nat, r = k := ⟨r.toNat, by omega⟩
  have hk : k < xs.length := by omega
  exact mAt (atI_nat (List.getElem?_eq_getElem hk)) (q _ (List.getElem_mem hk))
theorem vc__law_trail : VC w__law_trail 2 spec__law_trail := by
  rintro ss Q Xe ⟨d, rfl, p, rfl, hl, q⟩
  refine ⟨(show 1 ≤ 100000 by decide), ?_⟩
  have key : compGo (gNm 1) tYesW (wBin bIx (wVar 1) (wC (.int 0))) [.d (progD p), .un] (fun ys => 1 + ys.length ≤ 100000 ∧ Q (.d (.lst ([ptD p.start] ++ ys)))) (p.steps.map stepD) [] := by
    refine compGo_map (fun x y => ∀ s : StepR, x = stepD s → y = ptD s.goal) _ _ (fun x hx Q' q1 => ?_) (by simp; omega) fun ys hys => ?_
    · obtain ⟨s, _, rfl⟩ := List.mem_map.mp hx
      refine q1 _ fun s' e => ?_
      unfold stepD at e
      injection e with e
      injection e with e
    · have hy : ys = (p.steps.map StepR.goal).map ptD := by
        have key : ∀ (ss : List StepR) (ys : List D), All2 (fun x y => ∀ s : StepR, x = stepD s → y = ptD s.goal) (ss.map stepD) ys → ys = (ss.map StepR.goal).map ptD := fun ss => by
          induction ss with
          | nil =>
            intro ys h
            cases h
            rfl
          | cons s r ih =>
            intro ys h
            cases h with
            | cons r1 r2 => rw [r1 s rfl, ih _ r2]; rfl
        exact key _ _ hys
      subst hy
      exact ⟨by simp; omega, q⟩
  exact key
section
theorem cutAn {xs : List D} {k : Nat} (h : k ≤ xs.length) : cutD xs none (some (k : Int)) = xs.take k := by
  rw [cutD, HT.sIx_nat, HT.sIx_none, List.drop_zero, Nat.min_eq_left h]
  rfl
theorem cutBn {xs : List D} {k : Nat} (h : k + 1 ≤ xs.length) : cutD xs (some ((k : Int) + 1)) none = xs.drop (k + 1) := by
  rw [show (k : Int) + 1 = ((k + 1 : Nat) : Int) by omega, cutD, HT.sIx_nat, HT.sIx_none, Nat.min_eq_left h, List.take_of_length_le (by rw [List.length_drop]; omega)]
theorem near_5 {p : ProgR} (hp : OkP p) {k : Nat} (hk : k < p.steps.length) {so : List D} (h0 : so ≠ []) (h1 : so.length ≤ 1000) (hs : ∀ y ∈ so, Gw 341 4 53 4 y) {Q : RV → Prop} {Xe : Exc → Prop} (q : ∀ y, Gw 341 6 630 31 y → Q (.d y)) {a5 a6 a7 a8 a9 a3 : SV} :
    w__law_near_5 (fun _ => Xe) { nx := fun _ => Q (.d .non), rt := Q } [.src, .d (progD p), .d (.int (k : Nat)), a3, .d (.lst so), a5, a6, a7, a8, a9] := by
  have hm := hp.many
  refine ⟨_, rfl, _, rfl, h0, h1, fun y hy => ?_⟩
  have hl : (p.steps.map stepD).length = p.steps.length := List.length_map _
  have cA := cutAn (xs := p.steps.map stepD) (k := k) (by omega)
  have cB := cutBn (xs := p.steps.map stepD) (k := k) (by omega)
  have st := gw_steps hp.axes.2 hp.chain (by omega)
  have gA : GwL 341 4 (cntL ((p.steps.map stepD).take k)) 31 ((p.steps.map stepD).take k) := by
    have := st
    rw [← List.take_append_drop k (p.steps.map stepD)] at this
    have := this.of_app.1
    exact ⟨⟨this.g.f, this.g.d, Nat.le_refl _⟩, this.w⟩
  have gB : GwL 341 4 (cntL ((p.steps.map stepD).drop (k + 1))) 31 ((p.steps.map stepD).drop (k + 1)) := by
    have := st
    rw [← List.take_append_drop (k + 1) (p.steps.map stepD)] at this
    have := this.of_app.2.1
    exact ⟨⟨this.g.f, this.g.d, Nat.le_refl _⟩, this.w⟩
  have e : cntL ((p.steps.map stepD).take k) + cntL ((p.steps.map stepD).drop (k + 1)) ≤ 558 := by
    have a := st.g.c
    rw [← List.take_append_drop k (p.steps.map stepD), cntL_app, List.drop_eq_getElem_cons (by omega)] at a
    simp only [cntL] at a
    omega
  refine ⟨(show 1 ≤ 100000 by decide), ?_, ?_, (show 2 ≤ 100000 by decide), q _ ?_⟩
  · show (cutD (p.steps.map stepD) none (some (k : Int))).length + 1 ≤ 100000
    rw [cA, List.length_take]
    omega
  · show (cutD (p.steps.map stepD) none (some (k : Int)) ++ [y]).length + (cutD (p.steps.map stepD) (some ((k : Int) + 1)) none).length ≤ 100000
    rw [cA, cB, List.length_append, List.length_take, List.length_drop, List.length_singleton]
    omega
  · show Gw _ _ _ _ (.tup [ptD p.start, .tup (cutD (p.steps.map stepD) none (some (k : Int)) ++ [y] ++ cutD (p.steps.map stepD) (some ((k : Int) + 1)) none)])
    rw [cA, cB]
    have a := (gw_pt (b := 341) (fun q m => (hp.grid q m).sz (by decide)) hp.axes.2).mono (Nat.le_refl _) (show 3 ≤ 5 by decide) (Nat.le_refl _) (show 3 ≤ 31 by decide)
    have s1 := (((gA.app (GwL.one ((hs y hy).mono (Nat.le_refl _) (Nat.le_refl _) (Nat.le_refl _) (show 4 ≤ 31 by decide)))).app gB).tup (by rw [List.length_append, List.length_append, List.length_take, List.length_drop, List.length_singleton]; omega))
    exact (GwL.tup (GwL.cons a (GwL.cons s1 (GwL.nil (c := 0)))) (by simp)).mono (Nat.le_refl _) (Nat.le_refl _) (by omega) (Nat.le_refl _)
end
theorem milli : D.tup [.int 1, .int 1000] = fr (rat 1 1000) := by
  have h1 : (rat 1 1000).num = 1 := by decide +kernel
  have h2 : (rat 1 1000).den = 1000 := by decide +kernel
  unfold fr
  rw [h1, h2]
  rfl
theorem vc__law_near : VC w__law_near 10 spec__law_near := by
  rintro ss Q Xe ⟨x, rfl, p, rfl, hp, q⟩
  have hm := hp.many
  have hax := hp.axes
  have hl : (p.steps.map stepD).length = p.steps.length := List.length_map _
  refine ⟨(((p.steps.map stepD).length : Nat) : Int), rfl, by omega, log_lt (n := 10) (by have : (2 : Nat) ^ 10 = 1024 := rfl; omega) (by decide), fun r r0 r1 => ?_⟩
  obtain ⟨k, rfl⟩ : ∃ k : Nat, r = k := ⟨r.toNat, by omega⟩
  have hk : k < p.steps.length := by omega
  obtain ⟨s1, s2, s3, s4⟩ := ok_steps hax.2 hp.chain p.steps[k] (List.getElem_mem hk)
  refine mAt (at_map hk) ?_
  refine ⟨rfl, _, rfl, p, rfl, by omega, ?_⟩
  have ht : k < (trailM p).length := by rw [trail_len]; omega
  obtain ⟨t1, t2⟩ := trail_gr hp _ (List.getElem_mem ht)
  refine mAt (at_map ht) ?_
  refine ⟨(show 4 ≤ 100000 by decide), (show 4 ≤ 100000 by decide), (show 2 ≤ 100000 by decide), ?_⟩
  show spec__law_add [.d (fr p.steps[k].feed), .d (.tup [.int 1, .int 1000])] _ _
  rw [milli]
  have sm : Sz 12 (rat 1 1000) := ⟨by decide +kernel, by decide +kernel⟩
  refine op_ok s3 sm (by decide) ?_
  repeat refine ⟨(Nat.le_of_ble_eq_true rfl : _ ≤ 100000), ?_⟩
  have gl : Gw 341 3 10 3 (ptD p.steps[k].goal) := gw_gr s2 s1
  have gt : Gw 341 3 10 3 (ptD (trailM p)[k]) := gw_gr t1 (by omega)
  have gf : Gw 341 2 3 2 (fr p.steps[k].feed) := (gw_fr s3).mono (by decide) (Nat.le_refl _) (Nat.le_refl _) (Nat.le_refl _)
  have gs : Gw 341 2 3 2 (fr p.steps[k].slow) := (gw_fr s4).mono (by decide) (Nat.le_refl _) (Nat.le_refl _) (Nat.le_refl _)
  have gm : Gw 341 2 3 2 (fr (p.steps[k].feed + rat 1 1000)) := (gw_fr (s3.add sm)).mono (by decide) (Nat.le_refl _) (Nat.le_refl _) (Nat.le_refl _)
  have gz : Gw 341 2 3 2 (.tup [.int 0, .int 1]) := ⟨⟨by simp [fin, finL], by simp [dep, depL], by simp [cnt, cntL]⟩, by simp [wid, widL]⟩
  have gn : Gw 341 2 3 2 (.tup [.int (-1), .int 1000]) := ⟨⟨by simp only [fin, finL]; exact ⟨by decide +kernel, by decide +kernel, trivial⟩, by simp [dep, depL], by simp [cnt, cntL]⟩, by simp [wid, widL]⟩
  have gh : Gw 341 1 1 0 (.bl p.steps[k].stop) := gw_atom (.inr (.inl ⟨_, rfl⟩))
  have U : ∀ {n c l : Nat} {d : D}, Gw 341 n c l d → n ≤ 3 → c ≤ 13 → l ≤ 4 → Gw 341 3 13 4 d := fun h a e f => h.mono (Nat.le_refl _) a e f
  have hg3 : p.steps[k].goal.length ≤ 3 := s1
  have fl : (frs p.steps[k].goal).length = p.steps[k].goal.length := frs_len _
  have gp : 1 ≤ p.steps[k].goal.length := by
    have := (trail_gr hp p.steps[k].goal (List.mem_cons_of_mem _ (List.mem_map.mpr ⟨_, List.getElem_mem hk, rfl⟩))).2
    omega
  have cg : cutD (frs p.steps[k].goal) none (some 1) = frs (p.steps[k].goal.take 1) := by
    have := cutAn (xs := frs p.steps[k].goal) (k := 1) (by omega)
    rw [show frs (p.steps[k].goal.take 1) = (frs p.steps[k].goal).take 1 from List.map_take]
    exact this
  have cd : cutD (frs p.steps[k].goal) (some 1) none = frs (p.steps[k].goal.drop 1) := by
    have := cutBn (xs := frs p.steps[k].goal) (k := 0) (by omega)
    rw [show frs (p.steps[k].goal.drop 1) = (frs p.steps[k].goal).drop 1 from List.map_drop]
    exact this
  refine ⟨?_, ?_⟩
  · show (frs p.steps[k].goal).length + (cutD (frs p.steps[k].goal) none (some 1)).length ≤ 100000
    rw [cg, frs_len, frs_len, List.length_take]
    omega
  repeat refine ⟨(Nat.le_of_ble_eq_true rfl : _ ≤ 100000), ?_⟩
  show w__law_near_5 (fun _ => Xe) { nx := fun _ => Q (.d .non), rt := Q } [.src, .d (progD p), .d (.int (k : Nat)), .d (ptD (trailM p)[k]), .d (.lst _), .un, .d (ptD p.steps[k].goal), .d (fr p.steps[k].feed), .d (fr p.steps[k].slow), .d (.bl p.steps[k].stop)]
  refine near_5 hp hk (List.cons_ne_nil _ _) (Nat.le_of_ble_eq_true rfl) (fun y my => ?_) q
  have g1 : Gw 341 3 13 4 (.tup (frs p.steps[k].goal ++ cutD (frs p.steps[k].goal) none (some 1))) := by
    rw [cg, ← frs_app]
    refine gw_pt4 (fun x mx => ?_) (by rw [List.length_append, List.length_take]; omega)
    rcases List.mem_append.mp mx with mx | mx
    · exact (s2 x mx).sz (by decide)
    · exact (s2 x (List.mem_of_mem_take mx)).sz (by decide)
  have g2 : Gw 341 3 13 4 (.tup (cutD (frs p.steps[k].goal) (some 1) none)) := by
    rw [cd]
    refine gw_pt4 (fun x mx => ?_) (by rw [List.length_drop]; omega)
    exact (s2 x (List.mem_of_mem_drop mx)).sz (by decide)
  have gi : Gw 341 1 1 0 (.int (if p.steps[k].stop = true then 1 else 0)) := gw_atom (.inr (.inr ⟨_, rfl, by split <;> decide +kernel⟩))
  have gl := U gl (by decide) (by decide) (by decide)
  have gt := U gt (by decide) (by decide) (by decide)
  have gf := U gf (by decide) (by decide) (by decide)
  have gs := U gs (by decide) (by decide) (by decide)
  have gm := U gm (by decide) (by decide) (by decide)
  have gz := U gz (by decide) (by decide) (by decide)
  have gn := U gn (by decide) (by decide) (by decide)
  have gh := U gh (by decide) (by decide) (by decide)
  have gi := U gi (by decide) (by decide) (by decide)
  have my : y ∈ [D.tup [ptD (trailM p)[k], fr p.steps[k].feed, fr p.steps[k].slow, .bl p.steps[k].stop], .tup [ptD p.steps[k].goal, fr p.steps[k].feed, fr p.steps[k].feed, .bl p.steps[k].stop], .tup [ptD p.steps[k].goal, fr p.steps[k].feed, fr (p.steps[k].feed + rat 1 1000), .bl p.steps[k].stop], .tup [ptD p.steps[k].goal, .tup [.int 0, .int 1], .tup [.int 0, .int 1], .bl p.steps[k].stop],
      .tup [.tup (frs p.steps[k].goal ++ cutD (frs p.steps[k].goal) none (some 1)), fr p.steps[k].feed, fr p.steps[k].slow, .bl p.steps[k].stop], .tup [.tup (cutD (frs p.steps[k].goal) (some 1) none), fr p.steps[k].feed, fr p.steps[k].slow, .bl p.steps[k].stop], .tup [ptD p.steps[k].goal, fr p.steps[k].feed, .tup [.int (-1), .int 1000], .bl p.steps[k].stop], .tup [ptD p.steps[k].goal, fr p.steps[k].feed, fr p.steps[k].slow, .int (if p.steps[k].stop = true then 1 else 0)]] := my
  simp only [List.mem_cons, List.not_mem_nil, or_false] at my
  rcases my with rfl | rfl | rfl | rfl | rfl | rfl | rfl | rfl
  · exact gw_four gt gf gs gh
  · exact gw_four gl gf gf gh
  · exact gw_four gl gf gm gh
  · exact gw_four gl gz gz gh
  · exact gw_four g1 gf gs gh
  · exact gw_four g2 gf gs gh
  · exact gw_four gl gf gn gh
  · exact gw_four gl gf gs gi
theorem sif_no {c : TW} {t u : SW} {X : XD} {DD : DEnds} {ρ : Env} (h : ∀ Q : Bool → Prop, Q false → c X ρ Q) (k : u X DD ρ) : sSeq (sIf c t sNext) u X DD ρ := h _ k
theorem dep_pos (d : D) : 1 ≤ dep d := by
  cases d <;> simp [dep]
theorem vc0__law_bent : VC sNever 5 (spec__law_bent 0) := by
  rintro ss Q Xe ⟨x, rfl, b, c, l, m, g, hm, _⟩
  have := g.g.d
  have := dep_pos x
  omega
section
variable {b n c N l : Nat} {x : D} {Q : RV → Prop} {Xe : Exc → Prop} {u2 u3 u4 : SV}
theorem gd_c {k : D} (f : fin 3 k) (d : dep k ≤ 3) (e : cnt k ≤ 7) (w : wid k ≤ 2) (hb : 134 ≤ b) (hN : 1 ≤ N) : Gw (b + 1) (N + 2) (2 * c + 10) (2 * l + 2) k := (⟨⟨f, d, e⟩, w⟩ : Gw 3 3 7 2 k).mono (by omega) (by omega) (by omega) (by omega)
theorem bent_3 (g : Gw b N c l x) (hb : 134 ≤ b) (hN : 1 ≤ N) (q : ∀ y, Gw (b + 1) (N + 2) (2 * c + 10) (2 * l + 2) y → Q (.d y)) : w__law_bent_3 n (fun _ => Xe) { nx := fun _ => Q (.d .non), rt := Q } [.src, .d x, u2, u3, u4] := by
  repeat refine ⟨(Nat.le_of_ble_eq_true rfl : _ ≤ 100000), ?_⟩
  refine ⟨_, rfl, _, rfl, List.cons_ne_nil _ _, Nat.le_of_ble_eq_true rfl, fun y m => q y ?_⟩
  simp only [List.mem_cons, List.not_mem_nil, or_false] at m
  rcases m with rfl | rfl | rfl | rfl | rfl | rfl | rfl | rfl | rfl | rfl | rfl | rfl | rfl | rfl | rfl | rfl | rfl | rfl | rfl | rfl | rfl
  · exact gd_c (by simp [fin]) (by simp [dep]) (by simp [cnt]) (by simp [wid, widL]) hb hN
  · exact gd_c (by simp [fin]) (by simp [dep]) (by simp [cnt]) (by simp [wid, widL]) hb hN
  · exact gd_c (by simp [fin]) (by simp [dep]) (by simp [cnt]) (by simp [wid, widL]) hb hN
  · exact gd_c (by simp [fin]) (by simp [dep]) (by simp [cnt]) (by simp [wid, widL]) hb hN
  · exact gd_c (by simp [fin]) (by simp [dep]) (by simp [cnt]) (by simp [wid, widL]) hb hN
  · exact gd_c (by simp [fin]) (by simp [dep]) (by simp [cnt]) (by simp [wid, widL]) hb hN
  · exact gd_c (by simp [fin, finL]) (by simp [dep, depL]) (by simp [cnt, cntL]) (by simp [wid, widL]) hb hN
  · exact gd_c (by simp [fin, finL]) (by simp [dep, depL]) (by simp [cnt, cntL]) (by simp [wid, widL]) hb hN
  · exact gd_c (by simp only [fin]; exact ⟨by decide +kernel, by decide⟩) (by simp [dep]) (by simp [cnt]) (by simp [wid, widL]) hb hN
  · exact gd_c (by simp only [fin]; exact ⟨by decide +kernel, by decide⟩) (by simp [dep]) (by simp [cnt]) (by simp [wid, widL]) hb hN
  · exact gd_c (by simp [fin, finL]) (by simp [dep, depL]) (by simp [cnt, cntL]) (by simp [wid, widL]) hb hN
  · exact gd_c (by simp [fin, finL]) (by simp [dep, depL]) (by simp [cnt, cntL]) (by simp [wid, widL]) hb hN
  · exact gd_c (by simp [fin, finL]) (by simp [dep, depL]) (by simp [cnt, cntL]) (by simp [wid, widL]) hb hN
  · exact gd_c (by simp [fin, finL]) (by simp [dep, depL]) (by simp [cnt, cntL]) (by simp [wid, widL]) hb hN
  · exact gd_c (by simp [fin, finL]) (by simp [dep, depL]) (by simp [cnt, cntL]) (by simp [wid, widL]) hb hN
  · exact gd_c (by simp [fin, finL]) (by simp [dep, depL]) (by simp [cnt, cntL]) (by simp [wid, widL]) hb hN
  · exact gd_c (by simp [fin, finL]) (by simp [dep, depL]) (by simp [cnt, cntL]) (by simp [wid, widL]) hb hN
  · exact ((GwL.one g).mono (Nat.le_refl _) (Nat.le_refl _) (Nat.le_refl _) (show l ≤ l + 1 by omega)).lst (by simp) |>.mono (by omega) (by omega) (by omega) (by omega)
  · exact ((GwL.one g).mono (Nat.le_refl _) (Nat.le_refl _) (Nat.le_refl _) (show l ≤ l + 1 by omega)).tup (by simp) |>.mono (by omega) (by omega) (by omega) (by omega)
  · exact gd_c (by simp [fin, finL]) (by simp [dep, depL]) (by simp [cnt, cntL]) (by simp [wid, widL]) hb hN
  · exact gd_c (by simp [fin, finL]) (by simp [dep, depL]) (by simp [cnt, cntL]) (by simp [wid, widL]) hb hN
theorem gd_i {i : Int} (h : i.natAbs < 2 ^ (b + 1)) (hN : 1 ≤ N) : Gw (b + 1) (N + 2) (2 * c + 10) (2 * l + 2) (.int i) := ⟨⟨by simp only [fin]; exact h, by simp only [dep]; omega, by simp only [cnt]; omega⟩, by simp only [wid]; omega⟩
theorem bent_1 (g : Gw b N c l x) (hb : 134 ≤ b) (hN : 1 ≤ N) (q : ∀ y, Gw (b + 1) (N + 2) (2 * c + 10) (2 * l + 2) y → Q (.d y)) : w__law_bent_1 n (fun _ => Xe) { nx := fun _ => Q (.d .non), rt := Q } [.src, .d x, u2, u3, u4] := by
  have b3 : w__law_bent_3 n (fun _ => Xe) { nx := fun _ => Q (.d .non), rt := Q } [.src, .d x, u2, u3, u4] := bent_3 g hb hN q
  cases x with
  | ins _ _ _ => exact absurd g.g.f (by simp [fin])
  | bl v =>
    refine ⟨(Nat.le_of_ble_eq_true rfl : _ ≤ 100000), (Nat.le_of_ble_eq_true rfl : _ ≤ 100000), _, rfl, _, rfl, List.cons_ne_nil _ _, Nat.le_of_ble_eq_true rfl, fun y m => q y ?_⟩
    simp only [List.mem_cons, List.not_mem_nil, or_false] at m
    rcases m with rfl | rfl | rfl | rfl | rfl
    · exact gd_c (by simp [fin]) (by simp [dep]) (by simp [cnt]) (by simp [wid, widL]) hb hN
    · cases v
      · exact gd_c (by simp [fin]) (by simp [dep]) (by simp [cnt]) (by simp [wid, widL]) hb hN
      · exact gd_c (by simp [fin]) (by simp [dep]) (by simp [cnt]) (by simp [wid, widL]) hb hN
    · exact gd_c (by simp [fin]) (by simp [dep]) (by simp [cnt]) (by simp [wid, widL]) hb hN
    · exact gd_c (by simp only [fin]; exact ⟨by decide +kernel, by decide⟩) (by simp [dep]) (by simp [cnt]) (by simp [wid, widL]) hb hN
    · exact gd_c (by simp [fin, finL]) (by simp [dep, depL]) (by simp [cnt, cntL]) (by simp [wid, widL]) hb hN
  | int i =>
    refine ⟨4, rfl, by decide, by decide, fun r r0 r1 => ?_⟩
    refine ite2 (fun _ => ?_) fun _ => (by dsimp only [sNext]; exact b3)
    refine ⟨.inr (.inl (by decide)), by decide, (Nat.le_of_ble_eq_true rfl : _ ≤ 100000), _, rfl, _, rfl, List.cons_ne_nil _ _, Nat.le_of_ble_eq_true rfl, fun y m => q y ?_⟩
    have h := g.g.f
    simp only [fin] at h
    have e2 : 2 ^ (b + 1) = 2 ^ b * 2 := Nat.pow_succ 2 b
    have e3 : 1 ≤ 2 ^ b := Nat.one_le_two_pow
    simp only [List.mem_cons, List.not_mem_nil, or_false] at m
    rcases m with rfl | rfl | rfl | rfl | rfl | rfl | rfl
    · exact gd_i (by omega) hN
    · exact gd_i (by omega) hN
    · exact gd_i (by omega) hN
    · exact gd_i (by omega) hN
    · exact gd_i (by omega) hN
    · exact gd_i (by omega) hN
    · exact gd_i (Nat.lt_of_lt_of_le (m := 2 ^ 134) (by decide +kernel) (Nat.pow_le_pow_right (by omega) (by omega))) hN
  | _ => exact sif_no (fun Q q => q) (sif_no (fun Q q => q) b3)
theorem draw_d {n : Nat} (h0 : 1 ≤ n) (h1 : n ≤ 1000) : 0 < (n : Int) ∧ (n : Int).natAbs.log2 < 9000 := ⟨by omega, log_lt (n := 10) (by have : (2 : Nat) ^ 10 = 1024 := rfl; omega) (by decide)⟩
theorem cutA {xs : List D} {k : Nat} (h : k ≤ xs.length) : cutD xs none (some (k : Int)) = xs.take k := by
  rw [cutD, HT.sIx_nat, HT.sIx_none, List.drop_zero, Nat.min_eq_left h]
  rfl
theorem cutB {xs : List D} {k : Nat} (h : k ≤ xs.length) : cutD xs (some (k : Int)) none = xs.drop k := by
  rw [cutD, HT.sIx_nat, HT.sIx_none, Nat.min_eq_left h, List.take_of_length_le (by rw [List.length_drop]; omega)]
theorem cutB1 {xs : List D} {k : Nat} (h : k + 1 ≤ xs.length) : cutD xs (some ((k : Int) + 1)) none = xs.drop (k + 1) := by
  rw [show (k : Int) + 1 = ((k + 1 : Nat) : Int) by omega, cutB h]
theorem cutM {xs : List D} {k : Nat} (h : k < xs.length) : cutD xs (some (k : Int)) (some ((k : Int) + 1)) = [xs[k]] := by
  rw [show (k : Int) + 1 = ((k + 1 : Nat) : Int) by omega, cutD, HT.sIx_nat, HT.sIx_nat, Nat.min_eq_left (by omega), Nat.min_eq_left (by omega), show k + 1 - k = 1 by omega, List.drop_eq_getElem_cons h]
  rfl
theorem parts {xs : List D} {k : Nat} (h : k < xs.length) : xs = xs.take k ++ (xs[k] :: xs.drop (k + 1)) := by
  rw [← List.drop_eq_getElem_cons h, List.take_append_drop]
end
theorem vc__law_bent (n : Nat) : VC (w__law_bent n) 5 (spec__law_bent (n + 1)) := by
  rintro ss Q Xe ⟨x, rfl, b, c, l, m, g, hm, hb, hb2, hl, hn, q⟩
  obtain ⟨m, rfl⟩ : ∃ m', m = m' + 1 := ⟨m - 1, by have := g.g.d; have := dep_pos x; omega⟩
  have b1 : ∀ u3 u4 : SV, w__law_bent_1 n (fun _ => Xe) { nx := fun _ => Q (.d .non), rt := Q } [.src, .d x, .un, u3, u4] := fun u3 u4 => bent_1 g hb (by omega) q
  cases x with
  | tup xs =>
    have hl2 : xs.length ≤ l := by
      have := g.w
      simp only [wid] at this
      omega
    have hl0 : xs.length ≤ 400 := by omega
    have pl : plain 40 (.tup xs) = true := (g.ok (by omega) (by omega) (by omega)).plain
    refine ⟨(Nat.le_of_ble_eq_true rfl : _ ≤ 100000), pl, rfl, ?_⟩
    refine ite2 (fun z => ?_) fun _ => (b1 _ _)
    refine ⟨8, rfl, by decide, by decide, fun r _ _ => ?_⟩
    refine ite2 (fun _ => ?_) fun _ => (by
      dsimp only [sNext]
      exact b1 _ _)
    have hne : xs ≠ [] := fun e => by
      rw [e] at z
      exact absurd z (by decide)
    have hl1 := List.length_pos_iff.mpr hne
    refine ⟨(xs.length : Int), rfl, (draw_d (by omega) (by omega)).1, (draw_d (by omega) (by omega)).2, fun r r0 r1 => ?_⟩
    obtain ⟨k, rfl⟩ : ∃ k : Nat, r = k := ⟨r.toNat, by omega⟩
    have hk : k < xs.length := by omega
    refine ⟨16, rfl, by decide, by decide, fun s _ _ => ?_⟩
    have hg := g.g.c
    have hgd := g.g.d
    have hgf := g.g.f
    have hgw := g.w
    simp only [cnt] at hg
    simp only [dep] at hgd
    simp only [fin] at hgf
    simp only [wid] at hgw
    have gx : GwL b m (cntL xs) l xs := ⟨⟨hgf, by omega, Nat.le_refl _⟩, by omega⟩
    have gp := gx
    rw [parts hk] at gp
    obtain ⟨gA, gR, e1⟩ := gp.of_app
    have gA : GwL b m (cntL (xs.take k)) l (xs.take k) := ⟨⟨gA.g.f, gA.g.d, Nat.le_refl _⟩, gA.w⟩
    have gR' : GwL b m (cntL xs) l ([xs[k]] ++ xs.drop (k + 1)) := by
      rw [← parts hk] at gR
      exact gR
    obtain ⟨gx0, gB, e2⟩ := gR'.of_app
    have g0 : Gw b m (cnt xs[k]) l xs[k] := ⟨⟨(gx0.el List.mem_cons_self).g.f, (gx0.el List.mem_cons_self).g.d, Nat.le_refl _⟩, (gx0.el List.mem_cons_self).w⟩
    have gB : GwL b m (cntL (xs.drop (k + 1))) l (xs.drop (k + 1)) := ⟨⟨gB.g.f, gB.g.d, Nat.le_refl _⟩, gB.w⟩
    have ec : cntL xs = cntL (xs.take k) + (cnt xs[k] + cntL (xs.drop (k + 1))) := by
      have := cntL_app (xs.take k) (xs[k] :: xs.drop (k + 1))
      rw [← parts hk] at this
      rw [this]
      rfl
    have lA : (xs.take k).length ≤ 400 := by rw [List.length_take]; omega
    have lB : (xs.drop (k + 1)).length ≤ 400 := by rw [List.length_drop]; omega
    have cA := cutA (xs := xs) (k := k) (by omega)
    have cB := cutB1 (xs := xs) (k := k) (by omega)
    have cD := cutB (xs := xs) (k := k) (by omega)
    have cM := cutM hk
    refine ⟨rfl, rfl, ?_⟩
    refine ite2 (fun _ => ?_) fun _ => ?_
    · refine ⟨?_, q _ ?_⟩
      · show (cutD xs none (some (k : Int))).length + (cutD xs (some ((k : Int) + 1)) none).length ≤ 100000
        rw [cA, cB]
        omega
      · show Gw _ _ _ _ (.tup (cutD xs none (some (k : Int)) ++ cutD xs (some ((k : Int) + 1)) none))
        rw [cA, cB]
        exact (((gA.app gB).mono (Nat.le_refl _) (Nat.le_refl _) (Nat.le_refl _) (show l ≤ 2 * l + 2 by omega)).tup (by rw [List.length_append, List.length_take, List.length_drop]; omega)).mono (by omega) (by omega) (by omega) (by omega)
    refine ⟨rfl, rfl, ?_⟩
    refine ite2 (fun _ => ?_) fun _ => ?_
    · have gD : GwL b m (cnt xs[k] + cntL (xs.drop (k + 1))) l (xs.drop k) := by
        rw [List.drop_eq_getElem_cons hk]
        exact (GwL.one g0).app gB
      have lD : (xs.drop k).length ≤ 400 := by rw [List.length_drop]; omega
      refine ⟨?_, ?_, q _ ?_⟩
      · show (cutD xs none (some (k : Int))).length + (cutD xs (some (k : Int)) (some ((k : Int) + 1))).length ≤ 100000
        rw [cA, cM, List.length_singleton]
        omega
      · show (cutD xs none (some (k : Int)) ++ cutD xs (some (k : Int)) (some ((k : Int) + 1))).length + (cutD xs (some (k : Int)) none).length ≤ 100000
        rw [cA, cM, cD, List.length_append, List.length_singleton]
        omega
      · show Gw _ _ _ _ (.tup (cutD xs none (some (k : Int)) ++ cutD xs (some (k : Int)) (some ((k : Int) + 1)) ++ cutD xs (some (k : Int)) none))
        rw [cA, cM, cD]
        exact ((((gA.app (GwL.one g0)).app gD).mono (Nat.le_refl _) (Nat.le_refl _) (Nat.le_refl _) (show l ≤ 2 * l + 2 by omega)).tup (by rw [List.length_append, List.length_append, List.length_take, List.length_drop, List.length_singleton]; omega)).mono (by omega) (by omega) (by omega) (by omega)
    refine ⟨rfl, rfl, ?_⟩
    refine ite2 (fun _ => ?_) fun _ => ?_
    · refine ⟨(show xs.length + xs.length ≤ 100000 by omega), (Nat.le_of_ble_eq_true rfl : _ ≤ 100000), 3, rfl, by decide, by decide, fun r r0 r1 => ?_⟩
      have hc : r = 0 ∨ r = 1 ∨ r = 2 := by omega
      rcases hc with rfl | rfl | rfl
      · exact q _ ((gx.rev.tup (by rw [List.length_reverse]; exact hl2)).mono (by omega) (by omega) (by omega) (by omega))
      · exact q _ ((gx.lst hl2).mono (by omega) (by omega) (by omega) (by omega))
      · exact q _ ((((gx.app gx).mono (Nat.le_refl _) (Nat.le_refl _) (Nat.le_refl _) (show l ≤ 2 * l + 2 by omega)).tup (by rw [List.length_append]; omega)).mono (by omega) (by omega) (by omega) (by omega))
    · refine mAt (atI_nat (List.getElem?_eq_getElem hk)) ?_
      refine ⟨_, rfl, b, cnt xs[k], l, m, g0, by omega, hb, hb2, hl, by omega, fun y gy => ?_⟩
      have gy1 : GwL (b + 1) (m + 2) (2 * cnt xs[k] + 10) (2 * l + 2) [y] := GwL.one gy
      refine ⟨(Nat.le_of_ble_eq_true rfl : _ ≤ 100000), ?_, ?_, q _ ?_⟩
      · show (cutD xs none (some (k : Int))).length + 1 ≤ 100000
        rw [cA]
        omega
      · show (cutD xs none (some (k : Int)) ++ [y]).length + (cutD xs (some ((k : Int) + 1)) none).length ≤ 100000
        rw [cA, cB, List.length_append, List.length_singleton]
        omega
      · show Gw _ _ _ _ (.tup (cutD xs none (some (k : Int)) ++ [y] ++ cutD xs (some ((k : Int) + 1)) none))
        rw [cA, cB]
        exact ((((gA.mono (b' := b + 1) (n' := m + 2) (by omega) (by omega) (Nat.le_refl _) (show l ≤ 2 * l + 2 by omega)).app gy1).app (gB.mono (by omega) (by omega) (Nat.le_refl _) (by omega))).tup (by rw [List.length_append, List.length_append, List.length_take, List.length_drop, List.length_singleton]; omega)).mono (by omega) (by omega) (by omega) (by omega)
  | ins _ _ _ => exact absurd g.g.f (by simp [fin])
  | _ => exact sif_no (fun Q q => q) (b1 _ _)
theorem vc__law_is_fraction : VC w__law_is_fraction 1 spec__law_is_fraction := by
  rintro ss Q Xe ⟨d, rfl, h, q⟩
  cases d with
  | ins _ _ _ => cases h.ty
  | tup xs =>
    refine ⟨rfl, rfl, ?_⟩
    show if (!peq (.int ((xs.length : Nat) : Int)) (.int 2)) = true then _ else _
    rw [peq_int]
    refine ite2 (fun z => ?_) fun z => ?_
    · rw [isFr_len (by simp at z; omega)] at q
      exact q
    · have hl : xs.length = 2 := by simp at z; omega
      obtain ⟨x, y, rfl⟩ : ∃ x y, xs = [x, y] := by
        match xs, hl with
        | [a, b], _ => exact ⟨a, b, rfl⟩
      have ox := h.tup x (by simp)
      have oy := h.tup y (by simp)
      cases x with
      | ins _ _ _ => cases ox.ty
      | int i =>
        cases y with
        | ins _ _ _ => cases oy.ty
        | int j =>
          by_cases hj : 0 < j
          · refine ite2 (fun z => absurd (of_decide_eq_true z) (by omega)) fun _ => ?_
            refine ⟨_, _, rfl, i, j, rfl, rfl, by omega, log_lt oy.2 (by decide), plain_fr 38 _, h.plain, ?_⟩
            dsimp only [RV.toD]
            rw [isFr_low hj]
            exact q
          · have e : isFr (.tup [.int i, .int j]) = false := decide_eq_false fun z => hj z.1
            rw [e] at q
            exact ite2 (fun _ => q) fun z => absurd (decide_eq_true (by omega)) z
        | bl _ =>
          exact q
        | _ => exact q
      | bl _ =>
        cases y with
        | ins _ _ _ => cases oy.ty
        | int j =>
          exact q
        | bl _ =>
          exact q
        | _ => exact q
      | _ => exact q
  | _ => exact q
theorem vc__law_is_above : VC w__law_is_above 1 spec__law_is_above := by
  rintro ss Q Xe ⟨d, rfl, h, q⟩
  refine ⟨_, rfl, h, ?_⟩
  dsimp only [RV.toD]
  unfold isAbove at q
  cases e : isFr d with
  | false =>
    rw [e] at q
    exact q
  | true =>
    rw [e] at q
    obtain ⟨r, rfl⟩ := isFr_el e
    rw [unfr_fr] at q
    have q : Q (.d (.bl (decide (0 < r)))) := q
    refine ite2 (fun _ => ?_) fun z => absurd rfl z
    have e2 : decide ((0 : Int) < r.num) = decide (0 < r) := by
      by_cases z : 0 < r
      · rw [decide_eq_true z, decide_eq_true (by
          have a := Rat.num_nonneg.mpr (Rat.le_of_lt z)
          have b := num_nz (q := r) (by grind)
          omega)]
      · rw [decide_eq_false z, decide_eq_false fun k => z (num_pos k)]
    show Q (.d (.bl (decide ((0 : Int) < r.num))))
    rw [e2]
    exact q
theorem vc__law_under : VC w__law_under 2 spec__law_under := by
  intro ss Q Xe h
  obtain ⟨x, y, rfl, p, q, n, m, rfl, rfl, hp, hq, hn, h⟩ := op_el h
  refine ⟨imul_sz hp.1 hq.den (by omega), imul_sz hq.1 hp.den (by omega), ?_⟩
  have h : Q (.d (.bl (decide (p < q)))) := h
  rw [← dec_lt] at h
  exact h
theorem vc__law_is_spot : VC w__law_is_spot 3 spec__law_is_spot := by
  rintro ss Q Xe ⟨x, y, rfl, n, rfl, h, q⟩
  cases y with
  | ins _ _ _ => cases h.ty
  | tup xs =>
    have q : Q (.d (.bl (decide ((xs.length : Int) = n) && xs.all isFr))) := q
    refine ⟨rfl, rfl, ?_⟩
    show if (!peq (.int ((xs.length : Nat) : Int)) (.int n)) = true then _ else _
    rw [peq_int]
    rcases bcases (decide ((xs.length : Int) = n)) with e | e
    · rw [e] at q ⊢
      refine ite2 (fun z => absurd z (by decide)) fun _ => ?_
      refine compGo_filt (fun x oy => (isFr x = false ∧ oy = some x) ∨ (isFr x = true ∧ oy = none)) _ _ (fun x hx Q' N' q1 q2 => ?_) (by have := h.len; simp; omega) fun ys hys => ?_
      · refine ⟨_, rfl, h.tup x hx, ?_⟩
        rcases bcases (isFr x) with e2 | e2
        · rw [e2]
          exact q2 (.inr ⟨e2, rfl⟩)
        · rw [e2]
          exact q1 _ (.inl ⟨e2, rfl⟩)
      · rw [List.nil_append]
        have e3 : ys = xs.filter fun x => !isFr x := by
          clear h e
          clear q
          clear q
          induction hys with
          | nil => rfl
          | take r _ ih =>
            rcases r with ⟨r1, r2⟩ | ⟨r1, r2⟩
            · cases r2
              rw [List.filter_cons, r1, ← ih]
              rfl
            · cases r2
          | drop r _ ih =>
            rcases r with ⟨r1, r2⟩ | ⟨r1, r2⟩
            · cases r2
            · rw [List.filter_cons, r1, ← ih]
              rfl
        have pl : plain 40 (.lst ys) = true := by
          simp only [plain]
          refine plainL_ofx fun x m => ?_
          rw [e3] at m
          have := h.1
          simp only [short, Bool.and_eq_true] at this
          exact short_plain 39 39 x (Nat.le_refl _) (shortL_at this.2 x (List.mem_filter.mp m).1)
        have e4 : peq (.lst ys) (.lst []) = xs.all isFr := by
          cases ys with
          | nil =>
            have e5 : xs.all isFr = true := List.all_eq_true.mpr fun x m => by
              rcases bcases (isFr x) with e6 | e6
              · exact e6
              · have : x ∈ xs.filter fun x => !isFr x := List.mem_filter.mpr ⟨m, by rw [e6]; rfl⟩
                rw [← e3] at this
                cases this
            rw [e5]
            rfl
          | cons y r =>
            have : y ∈ xs.filter fun x => !isFr x := by
              rw [← e3]
              exact List.mem_cons_self
            obtain ⟨m, z⟩ := List.mem_filter.mp this
            have e5 : xs.all isFr = false := by
              rw [List.all_eq_false]
              exact ⟨y, m, by cases e6 : isFr y <;> simp [e6] at z ⊢⟩
            rw [e5]
            rfl
        refine ⟨(show 0 ≤ 100000 by decide), pl, rfl, ?_⟩
        rw [e4]
        exact q
    · rw [e] at q ⊢
      refine ite2 (fun _ => q) fun z => absurd rfl z
  | _ => exact q
theorem vc__law_step_place : VC w__law_step_place 2 spec__law_step_place := by
  rintro ss Q Xe ⟨x, y, rfl, pt, rfl, hx, hy, q⟩
  have no : stepFault pt y = .tup [] → 0 ≤ 100000 ∧ Q (.d (.tup [])) := fun e => by
    rw [e] at q
    exact ⟨by decide, q⟩
  cases y with
  | ins _ _ _ => cases hy.ty
  | tup ys =>
    refine ⟨rfl, rfl, ?_⟩
    show if (!peq (.int ((ys.length : Nat) : Int)) (.int 4)) = true then _ else _
    rw [peq_int]
    rcases bcases (decide ((ys.length : Int) = 4)) with e | e
    · have hl : ys.length = 4 := by
        have := of_decide_eq_true e
        omega
      obtain ⟨goal, feed, slow, stop, rfl⟩ : ∃ a b c d, ys = [a, b, c, d] := by
        match ys, hl with
        | [a, b, c, d], _ => exact ⟨a, b, c, d, rfl⟩
      have hg := hy.tup goal (by simp)
      have hf := hy.tup feed (by simp)
      have hs := hy.tup slow (by simp)
      have ht := hy.tup stop (by simp)
      rw [e]
      refine ite2 (fun z => absurd z (by decide)) fun _ => ?_
      have hlen : (frs pt).length = pt.length := frs_len pt
      refine ⟨_, _, rfl, ((frs pt).length : Nat), rfl, hg, ?_⟩
      rw [hlen]
      have q2 : Q (.d (if isPoint pt.length goal = false ∨ peq goal (ptD pt) = true then .tup [.int 0]
        else if isAbove feed = false then .tup [.int 1]
        else if isAmount slow = false ∨ unfr feed < unfr slow then .tup [.int 2]
        else if isBool stop = true then .non else .tup [.int 3])) := q
      dsimp only [RV.toD]
      rcases bcases (isPoint pt.length goal) with e1 | e1
      · rw [e1] at q2 ⊢
        refine ⟨hg.plain, hx.plain, ?_⟩
        show if peq goal (ptD pt) = true then _ else _
        rcases bcases (peq goal (ptD pt)) with e2 | e2
        · rw [e2] at q2 ⊢
          exact ⟨(show 1 ≤ 100000 by decide), by simpa using q2⟩
        · rw [e2] at q2 ⊢
          have q3 : Q (.d (if isAbove feed = false then .tup [.int 1]
            else if isAmount slow = false ∨ unfr feed < unfr slow then .tup [.int 2]
            else if isBool stop = true then .non else .tup [.int 3])) := by simpa using q2
          refine ⟨_, rfl, hf, ?_⟩
          dsimp only [RV.toD]
          rcases bcases (isAbove feed) with e3 | e3
          · rw [e3] at q3 ⊢
            have q4 : Q (.d (if isAmount slow = false ∨ unfr feed < unfr slow then .tup [.int 2]
              else if isBool stop = true then .non else .tup [.int 3])) := by simpa using q3
            refine ⟨_, rfl, hs, ?_⟩
            dsimp only [RV.toD]
            rcases bcases (isFr slow) with e4 | e4
            · obtain ⟨b, rfl⟩ := isFr_el e4
              have ff : isFr feed = true := by
                unfold isAbove at e3
                simp only [Bool.and_eq_true] at e3
                exact e3.1
              obtain ⟨a, rfl⟩ := isFr_el ff
              have ea : isAmount (fr b) = !decide (b.num < 0) := by
                unfold isAmount
                rw [isFr_fr, unfr_fr, Bool.true_and]
                congr 1
                by_cases z : b < 0
                · rw [decide_eq_true z, decide_eq_true]
                  exact Int.not_le.mp fun k => absurd (Rat.num_nonneg.mp k) (by grind)
                · rw [decide_eq_false z, decide_eq_false]
                  exact fun k => absurd (Rat.num_nonneg.mpr (show 0 ≤ b by grind)) (by omega)
              rw [ea, unfr_fr, unfr_fr] at q4
              rw [e4]
              show if decide (b.num < 0) = true then _ else _
              rcases bcases (decide (b.num < 0)) with e5 | e5
              · rw [e5] at q4 ⊢
                exact ⟨(show 1 ≤ 100000 by decide), by simpa using q4⟩
              · rw [e5] at q4 ⊢
                refine op_ok hf.sz hs.sz (by decide) ?_
                refine ite2 (fun z => ?_) fun z => ?_
                · have z : a < b := of_decide_eq_true z
                  exact ⟨(show 1 ≤ 100000 by decide), by simpa [z] using q4⟩
                · have z : ¬ a < b := fun k => z (decide_eq_true k)
                  have q5 : Q (.d (if isBool stop = true then .non else .tup [.int 3])) := by simpa [z] using q4
                  cases stop with
                  | ins _ _ _ => cases ht.ty
                  | bl b => exact q5
                  | _ => exact ⟨(show 1 ≤ 100000 by decide), q5⟩
            · rw [e4]
              have : isAmount slow = false := by
                unfold isAmount
                rw [e4]
                rfl
              rw [this] at q4
              exact ⟨(show 1 ≤ 100000 by decide), by simpa using q4⟩
          · rw [e3] at q3 ⊢
            exact ⟨(show 1 ≤ 100000 by decide), by simpa using q3⟩
      · rw [e1] at q2 ⊢
        exact ⟨(show 1 ≤ 100000 by decide), by simpa using q2⟩
    · rw [e]
      refine ite2 (fun _ => ?_) fun z => absurd rfl z
      refine no ?_
      have hl : ys.length ≠ 4 := fun k => of_decide_eq_false e (by omega)
      unfold stepFault
      split
      · rename_i h
        injection h with h
        rw [h] at hl
        exact absurd rfl hl
      · rfl
  | _ => exact no rfl
theorem place_loop {Q : RV → Prop} {Xe : Exc → Prop} {st : D} {pt : List Rat} {ss : List D} {u2 u3 : SV} (hp : okD (ptD pt)) (hs : ∀ s ∈ ss, okD s) (hl : ss.length ≤ 1000) (q : Q (.d (faultGo pt 0 ss))) :
    w__law_program_place_4 (fun _ => Xe) { nx := fun _ => Q (.d .non), rt := Q } [.d (.tup [st, .tup ss]), .d (ptD pt), u2, u3] := by
  refine ⟨⟨by omega, by omega⟩, ?_⟩
  refine forGo_range (I := fun j ρ => ∃ (pt : List Rat) (u2 u3 : SV), okD (ptD pt) ∧ Q (.d (faultGo pt j (ss.drop j))) ∧ ρ = [.d (.tup [st, .tup ss]), .d (ptD pt), u2, u3]) ?_ ?_ ⟨pt, u2, u3, hp, q, rfl⟩
  · rintro j ρ hj ⟨pt, u2, u3, hp, q, rfl⟩ N hN
    have hj : j < ss.length := by
      simpa using hj
    have e0 : ((0 : Int) + (j : Int)) = (j : Int) := by omega
    rw [e0]
    have ok := hs ss[j] (List.getElem_mem hj)
    refine mAt (d := ss[j]) (atI_nat (List.getElem?_eq_getElem hj)) ?_
    refine ⟨_, _, rfl, pt, rfl, hp, ok, ?_⟩
    rw [List.drop_eq_getElem_cons hj, faultGo] at q
    rcases stepFault_cases pt ss[j] with e | ⟨xs, e, hx⟩
    · obtain ⟨g, t, et, hg⟩ := stepFault_non e
      rw [e] at q ⊢
      refine mAt (d := ss[j]) (atI_nat (List.getElem?_eq_getElem hj)) ?_
      rw [et]
      refine mAt (d := ptD g) (atI_nat (j := 0) rfl) ?_
      refine hN _ ⟨g, _, _, ?_, ?_, rfl⟩
      · rw [et] at ok
        exact ok.tup _ List.mem_cons_self
      · rw [← hg]
        exact q
    · rw [e] at q ⊢
      exact ⟨(show 2 ≤ 100000 by decide), (show 2 + xs.length ≤ 100000 by omega), q⟩
  · rintro ρ ⟨pt, u2, u3, hp, q, rfl⟩
    have e0 : ss.drop (((ss.length : Nat) : Int)).toNat = [] := by
      rw [List.drop_eq_nil_iff]
      omega
    rw [e0] at q
    exact q
theorem vc__law_program_place : VC w__law_program_place 4 spec__law_program_place := by
  rintro ss Q Xe ⟨d, rfl, hd, q⟩
  cases d with
  | ins _ _ _ => cases hd.ty
  | tup ys =>
    refine ⟨rfl, rfl, ?_⟩
    show if (!peq (.int ((ys.length : Nat) : Int)) (.int 2)) = true then _ else _
    rw [peq_int]
    rcases bcases (decide ((ys.length : Int) = 2)) with e | e
    · have hl : ys.length = 2 := by
        have := of_decide_eq_true e
        omega
      obtain ⟨start, steps, rfl⟩ := len2 hl
      have h1 := hd.tup start (by simp)
      have h2 := hd.tup steps (by simp)
      rw [e]
      refine ite2 (fun z => absurd z (by decide)) fun _ => ?_
      cases start with
      | ins _ _ _ => cases h1.ty
      | tup ps =>
        have q : Q (.d (if 1 ≤ ps.length ∧ ps.length ≤ 3 ∧ ps.all isFr = true then stepsFault (ps.map unfr) steps else .tup [.int 0])) := q
        refine ite2 (fun z1 => ?_) fun z1 => ?_
        · have z1 : (1 : Int) ≤ ps.length := of_decide_eq_true z1
          refine ite2 (fun z2 => ?_) fun z2 => ?_
          · have z2 : ¬ (ps.length : Int) ≤ 3 := fun k => by
              rw [decide_eq_true k] at z2
              cases z2
            rw [if_neg (by omega)] at q
            exact ⟨(show 1 ≤ 100000 by decide), q⟩
          · have z2 : (ps.length : Int) ≤ 3 := by
              rcases bcases (decide ((ps.length : Int) ≤ 3)) with e | e
              · exact of_decide_eq_true e
              · rw [e] at z2
                exact absurd rfl z2
            refine ⟨_, _, rfl, ps.length, rfl, h1, ?_⟩
            have ep : isPoint ps.length (.tup ps) = ps.all isFr := by
              unfold isPoint
              simp
            dsimp only [RV.toD]
            rw [ep]
            rcases bcases (ps.all isFr) with e3 | e3
            · rw [e3]
              rw [if_pos ⟨by omega, by omega, e3⟩] at q
              obtain ⟨pt, rfl⟩ := frs_of fun x m => isFr_el (List.all_eq_true.mp e3 x m)
              rw [unfr_frs] at q
              refine ite2 (fun z => absurd z (by decide)) fun _ => ?_
              cases steps with
              | ins _ _ _ => cases h2.ty
              | tup ss =>
                have q : Q (.d (if 1 ≤ ss.length ∧ ss.length ≤ 30 then faultGo pt 0 ss else .tup [.int 1])) := q
                refine ite2 (fun z3 => ?_) fun z3 => ?_
                · have z3 : (1 : Int) ≤ ss.length := of_decide_eq_true z3
                  refine ite2 (fun z4 => ?_) fun z4 => ?_
                  · have z4 : ¬ (ss.length : Int) ≤ 30 := fun k => by
                      rw [decide_eq_true k] at z4
                      cases z4
                    rw [if_neg (by omega)] at q
                    exact ⟨(show 1 ≤ 100000 by decide), q⟩
                  · have z4 : (ss.length : Int) ≤ 30 := by
                      rcases bcases (decide ((ss.length : Int) ≤ 30)) with e | e
                      · exact of_decide_eq_true e
                      · rw [e] at z4
                        exact absurd rfl z4
                    rw [if_pos (by omega)] at q
                    exact place_loop (pt := pt) h1 h2.tup (by omega) q
                · have z3 : ¬ (1 : Int) ≤ ss.length := fun k => z3 (decide_eq_true k)
                  rw [if_neg (by omega)] at q
                  exact ⟨(show 1 ≤ 100000 by decide), q⟩
              | _ => exact ⟨(show 1 ≤ 100000 by decide), q⟩
            · rw [e3]
              rw [if_neg (fun k => by rw [k.2.2] at e3; cases e3)] at q
              exact ⟨(show 1 ≤ 100000 by decide), q⟩
        · have z1 : ¬ (1 : Int) ≤ ps.length := fun k => z1 (decide_eq_true k)
          rw [if_neg (by omega)] at q
          exact ⟨(show 1 ≤ 100000 by decide), q⟩
      | _ => exact ⟨(show 1 ≤ 100000 by decide), q⟩
    · rw [e]
      rw [progFault_len (fun k => of_decide_eq_false e (by omega))] at q
      exact ite2 (fun _ => ⟨(show 0 ≤ 100000 by decide), q⟩) fun z => absurd rfl z
  | _ => exact ⟨(show 0 ≤ 100000 by decide), q⟩
theorem vc0__law_same : VC sNever 3 (spec__law_same 0) := by
  rintro ss Q Xe ⟨x, y, rfl, rfl, h, q⟩
  simp [short] at h
theorem same_seq {n : Nat} {xs : List D} {d : D} (hd : seqD d = some xs) (h : shortL n xs = true) {X : XD} {Q : D → Prop} (hl : xs.length ≤ 1000) (q : Q (.bl true)) :
    wCB bAll (wCons (wOfL (lComp (iRange1 (wCB bLen (wCons (wVar 1) wNil))) (gNm 2) tYesW (wCall (spec__law_same n) (wCons (wBin bIx (wVar 0) (wVar 2)) (wCons (wBin bIx (wVar 1) (wVar 2)) wNil))) [2])) wNil) X [.d d, .d d, .un] Q := by
  have key : compGo (gNm 2) tYesW (wCall (spec__law_same n) (wCons (wBin bIx (wVar 0) (wVar 2)) (wCons (wBin bIx (wVar 1) (wVar 2)) wNil))) [.d d, .d d, .un] (fun ys => bAll [.lst ys] Q) (rangeD 0 (xs.length : Int).toNat) [] := by
    refine compGo_map (fun _ y => y = D.bl true) _ _ (fun x hx Q' q1 => ?_) (by rw [rangeD_len]; simp; omega) fun ys hys => ?_
    · obtain ⟨k, hk, rfl⟩ := mem_range hx
      have hk : k < xs.length := by omega
      have hat : atI xs (0 + (k : Int)) = some xs[k] := by
        rw [Int.zero_add]
        exact atI_nat (List.getElem?_eq_getElem hk)
      have hs := shortL_at h xs[k] (List.getElem_mem hk)
      have fin : spec__law_same n [.d xs[k], .d xs[k]] (fun r => Q' r.toD) (fun _ => False) := ⟨_, _, rfl, rfl, hs, q1 _ rfl⟩
      cases d with
      | tup zs =>
        cases hd
        exact mAt hat (mAt hat fin)
      | lst zs =>
        cases hd
        exact mAt hat (mAt hat fin)
      | _ => cases hd
    · rw [List.nil_append]
      exact bAll_true (fun y hy => (all2_mem hys y hy).elim fun x hx => hx.2) q
  cases d with
  | tup zs =>
    cases hd
    exact ⟨⟨by omega, by omega⟩, key⟩
  | lst zs =>
    cases hd
    exact ⟨⟨by omega, by omega⟩, key⟩
  | _ => cases hd
theorem vc__law_same (n : Nat) : VC (w__law_same n) 3 (spec__law_same (n + 1)) := by
  rintro ss Q Xe ⟨x, y, rfl, rfl, h, q⟩
  have one : ∀ m : Int, peq (.int m) (.int m) = true := fun m => by
    rw [peq_int]
    exact decide_eq_true rfl
  cases x with
  | ins _ _ _ => simp [short] at h
  | tup xs =>
    simp only [short, Bool.and_eq_true, decide_eq_true_eq] at h
    refine ⟨rfl, rfl, rfl, rfl, rfl, rfl, ?_⟩
    rw [one]
    exact same_seq rfl h.2 h.1 q
  | lst xs =>
    simp only [short, Bool.and_eq_true, decide_eq_true_eq] at h
    refine ⟨rfl, rfl, rfl, rfl, rfl, rfl, ?_⟩
    rw [one]
    exact same_seq rfl h.2 h.1 q
  | non => exact ⟨rfl, rfl, rfl, rfl, rfl, rfl, rfl, rfl, q⟩
  | bl b =>
    refine ⟨rfl, rfl, rfl, rfl, rfl, rfl, rfl, rfl, ?_⟩
    rw [peq_refl _ 1 rfl]
    exact q
  | int b =>
    refine ⟨rfl, rfl, rfl, rfl, rfl, rfl, rfl, rfl, ?_⟩
    rw [one]
    exact q
  | str b =>
    have hb : plain 40 (.str b) = true := by
      simp only [short] at h
      simp only [plain]
      exact h
    refine ⟨rfl, rfl, rfl, rfl, rfl, rfl, hb, hb, ?_⟩
    rw [peq_refl _ 40 hb]
    exact q
theorem vc_is_tuple_of : VC w_is_tuple_of 2 spec_is_tuple_of := by
  rintro ss Q Xe ⟨x, y, rfl, n, rfl, h, q⟩
  cases y with
  | ins _ _ _ => cases h.ty
  | tup xs =>
    refine ⟨rfl, rfl, ?_⟩
    rw [peq_int]
    exact q
  | _ => exact q
theorem vc_is_integer : VC w_is_integer 1 spec_is_integer := by
  rintro ss Q Xe ⟨d, rfl, h, q⟩
  show w_is_integer _ _ [.d d]
  cases d with
  | ins _ _ _ => cases h
  | _ => exact q
theorem vc_common : VC w_common 2 spec_common := by
  rintro ss Q Xe ⟨x, y, rfl, a, b, rfl, rfl, ha, hb, q⟩
  exact gcd_loop (wr := 0) a b ha hb fun u e => by
    subst e
    exact q
theorem vc_is_fraction : VC w_is_fraction 1 spec_is_fraction := by
  rintro ss Q Xe ⟨d, rfl, h, q⟩
  show w_is_fraction _ _ [.d d]
  cases d with
  | ins _ _ _ => simp [plain] at h
  | tup xs =>
    refine ⟨rfl, rfl, ?_⟩
    rw [peq_int]
    rcases bcases (decide ((xs.length : Int) = 2)) with e | e
    · have hl : xs.length = 2 := by
        have := of_decide_eq_true e
        omega
      obtain ⟨x, y, rfl⟩ := len2 hl
      have hx : plain 39 x = true := plain_at (by simpa only [plain] using h) x (by simp)
      have hy : plain 39 y = true := plain_at (by simpa only [plain] using h) y (by simp)
      refine ⟨x, rfl, plain_ty hx, ?_⟩
      rcases bcases (isInt x) with e1 | e1
      · obtain ⟨i, rfl⟩ := isInt_of e1
        refine ⟨y, rfl, plain_ty hy, ?_⟩
        rcases bcases (isInt y) with e2 | e2
        · obtain ⟨j, rfl⟩ := isInt_of e2
          show if decide (0 < j) = true then _ else _
          refine ite2 (fun z => ?_) fun z => ?_
          · have hj : 0 < j := of_decide_eq_true z
            refine ⟨_, _, rfl, _, _, rfl, rfl, by split <;> omega, by omega, rfl, rfl, ?_⟩
            have e3 : (if i < 0 then -i else i) = (i.natAbs : Int) := by split <;> omega
            rw [e3]
            show Q (.d (.bl (peq (.int (Int.gcd (i.natAbs : Int) j : Int)) (.int 1))))
            rw [peq_int]
            have e4 : decide ((Int.gcd (i.natAbs : Int) j : Int) = 1) = isFr (.tup [.int i, .int j]) := by
              show _ = decide _
              have : Int.gcd (i.natAbs : Int) j = Int.gcd i j := rfl
              rw [this]
              by_cases hg : Int.gcd i j = 1
              · simp [hg, hj]
              · rw [decide_eq_false (show ¬ ((Int.gcd i j : Int) = 1) by omega), decide_eq_false (fun k => hg k.2)]
            rw [e4]
            exact q
          · have e4 : isFr (.tup [.int i, .int j]) = false := by
              show decide _ = false
              have hj : ¬ 0 < j := fun k => z (decide_eq_true k)
              simp [hj]
            rw [e4] at q
            exact q
        · rw [isFr_no2 e2] at q
          rw [e2]
          exact q
      · rw [isFr_no1 e1] at q
        rw [e1]
        exact q
    · rw [isFr_len (fun k => of_decide_eq_false e (by omega))] at q
      rw [e]
      exact q
  | _ => exact q
theorem vc_below : VC w_below 2 spec_below := by
  intro ss Q Xe h
  obtain ⟨x, y, rfl, p, q, n, m, rfl, rfl, hp, hq, hn, h⟩ := op_el h
  refine ⟨imul_sz hp.1 hq.den (by omega), imul_sz hq.1 hp.den (by omega), ?_⟩
  have h : Q (.d (.bl (decide (p < q)))) := h
  rw [← dec_lt] at h
  exact h
theorem vc_is_above : VC w_is_above 1 spec_is_above := by
  rintro ss Q Xe ⟨d, rfl, h, q⟩
  refine ⟨_, rfl, h.plain, ?_⟩
  unfold isAbove at q
  rcases bcases (isFr d) with e | e
  · obtain ⟨p, rfl⟩ := isFr_el e
    rw [e, unfr_fr] at q
    dsimp only [RV.toD]
    rw [e]
    refine op_ok (p := 0) sz_0 h.sz (by decide) ?_
    exact q
  · rw [e] at q
    dsimp only [RV.toD]
    rw [e]
    exact q
theorem all_isFr : ∀ {xs ys : List D}, All2 (fun x y => y = D.bl (isFr x)) xs ys → ∃ bs, bools ys = some bs ∧ bs.all id = xs.all isFr := fun {xs ys} h => by
  induction h with
  | nil => exact ⟨[], rfl, rfl⟩
  | cons r _ ih =>
    obtain ⟨bs, e1, e2⟩ := ih
    subst r
    refine ⟨_ :: bs, by rw [bools, e1]; rfl, ?_⟩
    rw [List.all_cons, List.all_cons, e2]
    rfl
theorem vc_is_point : VC w_is_point 3 spec_is_point := by
  rintro ss Q Xe ⟨x, y, rfl, n, rfl, h, q⟩
  refine ⟨_, _, rfl, n, rfl, h, ?_⟩
  cases y with
  | ins _ _ _ => cases h.ty
  | tup xs =>
    dsimp only [RV.toD]
    have q : Q (.d (.bl (decide ((xs.length : Int) = n) && xs.all isFr))) := q
    rcases bcases (decide ((xs.length : Int) = n)) with e | e
    · rw [e] at q ⊢
      have key : compGo (gNm 2) tYesW (wCall spec_is_fraction (wCons (wVar 2) wNil)) [.d (.int n), .d (.tup xs), .un] (fun ys => bAll [.lst ys] fun z => Q (.d z)) xs [] := by
        refine compGo_map (fun x y => y = D.bl (isFr x)) _ _ (fun x hx Q' q1 => ?_) (by have := h.len; simp; omega) fun ys hys => ?_
        · exact ⟨_, rfl, (h.tup x hx).plain, q1 _ rfl⟩
        · rw [List.nil_append]
          obtain ⟨bs, e1, e2⟩ := all_isFr hys
          show match bools ys with
            | some bs => Q (.d (.bl (bs.all id)))
            | none => False
          rw [e1]
          show Q (.d (.bl (bs.all id)))
          rw [e2]
          exact q
      exact key
    · rw [e] at q ⊢
      exact q
  | _ => exact q
theorem vc_is_amount : VC w_is_amount 1 spec_is_amount := by
  rintro ss Q Xe ⟨d, rfl, h, q⟩
  refine ⟨_, rfl, h.plain, ?_⟩
  unfold isAmount at q
  rcases bcases (isFr d) with e | e
  · obtain ⟨p, rfl⟩ := isFr_el e
    rw [e, unfr_fr] at q
    dsimp only [RV.toD]
    rw [e]
    refine op_ok (q := 0) h.sz sz_0 (by decide) ?_
    exact q
  · rw [e] at q
    dsimp only [RV.toD]
    rw [e]
    exact q
theorem vc_step_fault : VC w_step_fault 6 spec_step_fault := by
  rintro ss Q Xe ⟨x, y, rfl, pt, rfl, hx, hy, q⟩
  refine ⟨_, _, rfl, 4, rfl, hy, ?_⟩
  have no : stepFault pt y = .tup [] → 0 ≤ 100000 ∧ Q (.d (.tup [])) := fun e => by
    rw [e] at q
    exact ⟨by decide, q⟩
  cases y with
  | tup ys =>
    dsimp only [RV.toD]
    rcases bcases (decide ((ys.length : Int) = 4)) with e | e
    · have hl : ys.length = 4 := by
        have := of_decide_eq_true e
        omega
      obtain ⟨goal, feed, slow, stop, rfl⟩ : ∃ a b c d, ys = [a, b, c, d] := by
        match ys, hl with
        | [a, b, c, d], _ => exact ⟨a, b, c, d, rfl⟩
      have hg := hy.tup goal (by simp)
      have hf := hy.tup feed (by simp)
      have hs := hy.tup slow (by simp)
      have ht := hy.tup stop (by simp)
      rw [e]
      refine ⟨rfl, ?_⟩
      have hlen : (frs pt).length = pt.length := frs_len pt
      refine ⟨_, _, rfl, ((frs pt).length : Nat), rfl, hg, ?_⟩
      rw [hlen]
      have q2 : Q (.d (if isPoint pt.length goal = false ∨ peq goal (ptD pt) = true then .tup [.int 0]
        else if isAbove feed = false then .tup [.int 1]
        else if isAmount slow = false ∨ unfr feed < unfr slow then .tup [.int 2]
        else if isBool stop = true then .non else .tup [.int 3])) := q
      dsimp only [RV.toD]
      rcases bcases (isPoint pt.length goal) with e1 | e1
      · rw [e1] at q2 ⊢
        refine ⟨hg.plain, hx.plain, ?_⟩
        rcases bcases (peq goal (ptD pt)) with e2 | e2
        · rw [e2] at q2 ⊢
          exact ⟨(show 1 ≤ 100000 by decide), by simpa using q2⟩
        · rw [e2] at q2 ⊢
          have q3 : Q (.d (if isAbove feed = false then .tup [.int 1]
            else if isAmount slow = false ∨ unfr feed < unfr slow then .tup [.int 2]
            else if isBool stop = true then .non else .tup [.int 3])) := by simpa using q2
          refine ⟨_, rfl, hf, ?_⟩
          dsimp only [RV.toD]
          rcases bcases (isAbove feed) with e3 | e3
          · rw [e3] at q3 ⊢
            have q4 : Q (.d (if isAmount slow = false ∨ unfr feed < unfr slow then .tup [.int 2]
              else if isBool stop = true then .non else .tup [.int 3])) := by simpa using q3
            refine ⟨_, rfl, hs, ?_⟩
            dsimp only [RV.toD]
            rcases bcases (isAmount slow) with e4 | e4
            · rw [e4] at q4 ⊢
              have ff : isFr feed = true := by
                unfold isAbove at e3
                simp only [Bool.and_eq_true] at e3
                exact e3.1
              have fs : isFr slow = true := by
                unfold isAmount at e4
                simp only [Bool.and_eq_true] at e4
                exact e4.1
              obtain ⟨a, rfl⟩ := isFr_el ff
              obtain ⟨b, rfl⟩ := isFr_el fs
              rw [unfr_fr, unfr_fr] at q4
              refine op_ok hf.sz hs.sz (by decide) ?_
              refine ite2 (fun z => ?_) fun z => ?_
              · have z : a < b := of_decide_eq_true z
                exact ⟨(show 1 ≤ 100000 by decide), by simpa [z] using q4⟩
              · have z : ¬ a < b := fun k => z (decide_eq_true k)
                have q5 : Q (.d (if isBool stop = true then .non else .tup [.int 3])) := by simpa [z] using q4
                cases stop with
                | ins _ _ _ => cases ht.ty
                | bl b => exact q5
                | _ => exact ⟨(show 1 ≤ 100000 by decide), q5⟩
            · rw [e4] at q4 ⊢
              exact ⟨(show 1 ≤ 100000 by decide), by simpa using q4⟩
          · rw [e3] at q3 ⊢
            exact ⟨(show 1 ≤ 100000 by decide), by simpa using q3⟩
      · rw [e1] at q2 ⊢
        exact ⟨(show 1 ≤ 100000 by decide), by simpa using q2⟩
    · rw [e]
      refine no ?_
      have hl : ys.length ≠ 4 := fun k => of_decide_eq_false e (by omega)
      unfold stepFault
      split
      · rename_i h
        injection h with h
        rw [h] at hl
        exact absurd rfl hl
      · rfl
  | ins _ _ _ => cases hy.ty
  | _ => exact no rfl
theorem fault_loop {Q : RV → Prop} {Xe : Exc → Prop} {v st : D} {pt : List Rat} {ss : List D} {u4 u5 u6 : SV} (hp : okD (ptD pt)) (hs : ∀ s ∈ ss, okD s) (hl : ss.length ≤ 1000) (q : Q (.d (faultGo pt 0 ss))) :
    w_program_fault_5 (fun _ => Xe) { nx := fun _ => Q (.d .non), rt := Q } [.d v, .d (ptD pt), .d st, .d (.tup ss), u4, u5, u6] := by
  show forGo _ _ _ _ (enumD ss) _
  rw [enumD_from]
  refine forGo_inv (fun r ρ => ∃ (j : Nat) (rs : List D) (pt : List Rat) (u4 u5 u6 : SV), r = enumFrom j rs ∧ (∀ s ∈ rs, okD s) ∧ okD (ptD pt) ∧ Q (.d (faultGo pt j rs)) ∧ ρ = [.d v, .d (ptD pt), .d st, .d (.tup ss), u4, u5, u6]) ?_ ?_ _ _ ⟨0, ss, pt, u4, u5, u6, rfl, hs, hp, q, rfl⟩
  · rintro x r ρ ⟨j, rs, pt, u4, u5, u6, hr, hrs, hp, q, rfl⟩ N hN
    cases rs with
    | nil => cases hr
    | cons s rs =>
      cases hr
      have ok := hrs s List.mem_cons_self
      refine ⟨rfl, ?_⟩
      refine ⟨_, _, rfl, pt, rfl, hp, ok, ?_⟩
      rw [faultGo] at q
      rcases stepFault_cases pt s with e | ⟨xs, e, hx⟩
      · obtain ⟨g, t, rfl, hg⟩ := stepFault_non e
        rw [e] at q ⊢
        refine mAt (d := ptD g) (atI_nat (j := 0) rfl) ?_
        refine hN _ ⟨j + 1, rs, g, .d (.int j), .d (.tup (ptD g :: t)), .d .non, by rw [show (((j + 1 : Nat) : Int)) = (j : Int) + 1 by omega], fun y m => hrs y (List.mem_cons_of_mem _ m), ok.tup _ List.mem_cons_self, ?_, rfl⟩
        rw [← hg]
        exact q
      · rw [e] at q ⊢
        exact ⟨(show 2 ≤ 100000 by decide), (show 2 + xs.length ≤ 100000 by omega), q⟩
  · rintro ρ ⟨j, rs, pt, u4, u5, u6, hr, hrs, hp, q, rfl⟩
    cases rs with
    | cons _ _ => cases hr
    | nil => exact q
theorem vc_program_fault : VC w_program_fault 7 spec_program_fault := by
  rintro ss Q Xe ⟨d, rfl, hd, q⟩
  refine ⟨_, _, rfl, 2, rfl, hd, ?_⟩
  cases d with
  | ins _ _ _ => cases hd.ty
  | tup ys =>
    dsimp only [RV.toD]
    rcases bcases (decide ((ys.length : Int) = 2)) with e | e
    · have hl : ys.length = 2 := by
        have := of_decide_eq_true e
        omega
      obtain ⟨start, steps, rfl⟩ := len2 hl
      have h1 := hd.tup start (by simp)
      have h2 := hd.tup steps (by simp)
      rw [e]
      refine ⟨rfl, ?_⟩
      cases start with
      | ins _ _ _ => cases h1.ty
      | tup ps =>
        have q : Q (.d (if 1 ≤ ps.length ∧ ps.length ≤ 3 ∧ ps.all isFr = true then stepsFault (ps.map unfr) steps else .tup [.int 0])) := q
        refine ite2 (fun z1 => ?_) fun z1 => ?_
        · have z1 : (1 : Int) ≤ ps.length := of_decide_eq_true z1
          refine ite2 (fun z2 => ?_) fun z2 => ?_
          · have z2 : ¬ (ps.length : Int) ≤ 3 := fun k => by
              rw [decide_eq_true k] at z2
              cases z2
            rw [if_neg (by omega)] at q
            exact ⟨(show 1 ≤ 100000 by decide), q⟩
          · have z2 : (ps.length : Int) ≤ 3 := by
              rcases bcases (decide ((ps.length : Int) ≤ 3)) with e | e
              · exact of_decide_eq_true e
              · rw [e] at z2
                exact absurd rfl z2
            refine ⟨_, _, rfl, ps.length, rfl, h1, ?_⟩
            have ep : isPoint ps.length (.tup ps) = ps.all isFr := by
              unfold isPoint
              simp
            dsimp only [RV.toD]
            rw [ep]
            rcases bcases (ps.all isFr) with e3 | e3
            · rw [e3]
              rw [if_pos ⟨by omega, by omega, e3⟩] at q
              obtain ⟨pt, rfl⟩ := frs_of fun x m => isFr_el (List.all_eq_true.mp e3 x m)
              rw [unfr_frs] at q
              refine ite2 (fun z => absurd z (by decide)) fun _ => ?_
              cases steps with
              | ins _ _ _ => cases h2.ty
              | tup ss =>
                have q : Q (.d (if 1 ≤ ss.length ∧ ss.length ≤ 30 then faultGo pt 0 ss else .tup [.int 1])) := q
                refine ite2 (fun z3 => ?_) fun z3 => ?_
                · have z3 : (1 : Int) ≤ ss.length := of_decide_eq_true z3
                  refine ite2 (fun z4 => ?_) fun z4 => ?_
                  · have z4 : ¬ (ss.length : Int) ≤ 30 := fun k => by
                      rw [decide_eq_true k] at z4
                      cases z4
                    rw [if_neg (by omega)] at q
                    exact ⟨(show 1 ≤ 100000 by decide), q⟩
                  · have z4 : (ss.length : Int) ≤ 30 := by
                      rcases bcases (decide ((ss.length : Int) ≤ 30)) with e | e
                      · exact of_decide_eq_true e
                      · rw [e] at z4
                        exact absurd rfl z4
                    rw [if_pos (by omega)] at q
                    exact fault_loop (pt := pt) h1 h2.tup (by omega) q
                · have z3 : ¬ (1 : Int) ≤ ss.length := fun k => z3 (decide_eq_true k)
                  rw [if_neg (by omega)] at q
                  exact ⟨(show 1 ≤ 100000 by decide), q⟩
              | _ => exact ⟨(show 1 ≤ 100000 by decide), q⟩
            · rw [e3]
              rw [if_neg (fun k => by rw [k.2.2] at e3; cases e3)] at q
              exact ⟨(show 1 ≤ 100000 by decide), q⟩
        · have z1 : ¬ (1 : Int) ≤ ps.length := fun k => z1 (decide_eq_true k)
          rw [if_neg (by omega)] at q
          exact ⟨(show 1 ≤ 100000 by decide), q⟩
      | _ => exact ⟨(show 1 ≤ 100000 by decide), q⟩
    · rw [e]
      rw [progFault_len (fun k => of_decide_eq_false e (by omega))] at q
      exact ⟨(show 0 ≤ 100000 by decide), q⟩
  | _ => exact ⟨(show 0 ≤ 100000 by decide), q⟩
theorem isN_p {x : D} {Q : D → Prop} (h : Q (.bl (isNon x))) : bIsN x Q := by
  cases x <;> exact h
theorem vc_is_program : VC w_is_program 1 spec_is_program := by
  rintro ss Q Xe ⟨d, rfl, hd, q⟩
  exact ⟨_, rfl, hd, isN_p q⟩
theorem vc_check_program : VC w_check_program 2 spec_check_program := by
  rintro ss Q Xe ⟨d, rfl, hd, h⟩
  refine ⟨_, rfl, hd, ?_⟩
  generalize progFault d = pf at h ⊢
  rcases h with ⟨rfl, q⟩ | ⟨z, q⟩
  · exact q
  · cases pf with
    | non => exact absurd rfl z
    | _ => exact q
theorem vc_path_of : VC w_path_of 2 spec_path_of := by
  rintro ss Q Xe ⟨_, rfl, p, rfl, hl, q⟩
  refine ⟨(show 1 ≤ 100000 by decide), ?_⟩
  refine compGo_one (f := stepD) (fun s => ptD s.goal) p.steps [] (fun s _ Q' q' => q') (by simp; omega) ?_
  rw [List.nil_append]
  refine ⟨?_, ?_⟩
  · show 1 + (p.steps.map fun s => ptD s.goal).length ≤ 100000
    rw [List.length_map]
    omega
  · have e : (trailM p).map ptD = ptD p.start :: p.steps.map fun s => ptD s.goal := by
      rw [trailM, List.map_cons, List.map_map]
      rfl
    rw [e] at q
    exact q
theorem vc_path : VC w_path 1 spec_path := by
  rintro ss Q Xe ⟨d, rfl, hd, h⟩
  rcases h with ⟨hf, q⟩ | ⟨p, rfl, hp, hf, q⟩
  · exact ⟨_, rfl, hd, .inr ⟨hf, q⟩⟩
  · refine ⟨_, rfl, hd, .inl ⟨hf, ?_⟩⟩
    have hm := hp.many
    exact ⟨_, rfl, p, rfl, by omega, q⟩
theorem vc_axis_count : VC w_axis_count 1 spec_axis_count := by
  rintro ss Q Xe ⟨d, rfl, hd, h⟩
  rcases h with ⟨hf, q⟩ | ⟨p, rfl, hp, hf, q⟩
  · exact ⟨_, rfl, hd, .inr ⟨hf, q⟩⟩
  · refine ⟨_, rfl, hd, .inl ⟨hf, ?_⟩⟩
    show Q (.d (.int (((frs p.start).length : Nat) : Int)))
    rw [frs_len]
    exact q
theorem vc__law_tried : VC w__law_tried 4 spec__law_tried := by
  rintro ss Q Xe ⟨d, k, rfl, hd, h⟩
  have hx : ∀ u : SV, Q (.d (.lst [progFault d])) → wHs errL [("InvalidProgram", suAsg 3 2 (xLst (xCons (xFld "InvalidProgram" "place") xNil)))] (fun _ => Xe) { nx := fun ρ => sRet (wVar 2) (fun _ => Xe) { nx := fun _ => Q (.d .non), rt := Q } ρ, rt := Q } [.d d, .d (.int k), .d .non, u] ⟨"InvalidProgram", some ("place", progFault d)⟩ := fun u q => by
    refine ⟨(by decide : errL.contains ("InvalidProgram" : Str) = true), ?_⟩
    refine ite2 (fun _ => ?_) fun z => absurd (by decide : subX "InvalidProgram" "InvalidProgram" = true) z
    exact ⟨(show 3 < 4 by decide), rfl, _, rfl, (show 1 ≤ 100000 by decide), q⟩
  refine ⟨rfl, rfl, ?_⟩
  show if peq (.int k) (.int 0) = true then _ else _
  rw [peq_int]
  refine ite2 (fun z => ?_) fun z => ?_
  · have z := of_decide_eq_true z
    refine ⟨rfl, d, rfl, hd, ?_⟩
    rcases h with ⟨hf, q⟩ | ⟨p, rfl, hp, hf, q1, q2⟩
    · exact .inl ⟨hf, hx _ q⟩
    · exact .inr ⟨p, rfl, hp, hf, q1 z⟩
  · have z : k ≠ 0 := fun e => z (decide_eq_true e)
    refine ⟨rfl, d, rfl, hd, ?_⟩
    rcases h with ⟨hf, q⟩ | ⟨p, rfl, hp, hf, q1, q2⟩
    · exact .inl ⟨hf, hx _ q⟩
    · exact .inr ⟨p, rfl, hp, hf, q2 z⟩
section
variable {N B : Env → Prop} {s : D}
/-- how a turn may end -/
abbrev DDN (N B : Env → Prop) : DEnds := { nx := N, rt := fun r => r = .d (.bl true), ct := N, bk := B }
abbrev X1 : XD := fun _ _ => False
theorem isN_l {x : D} {Q : D → Prop} (h : Q (.bl (isNon x))) : bIsN x Q := by
  cases x <;> exact h
theorem same2 {n : Nat} {a e : D} (h : short n a = true) (k : short n e = true) : short (n + 1) (.lst [a, e]) = true := by
  simp only [short, shortL, h, k, Bool.and_true, List.length_cons, List.length_nil, decide_eq_true_eq]
  omega
theorem same1 {n : Nat} {a : D} (h : short n a = true) : short (n + 1) (.lst [a]) = true := by
  simp only [short, shortL, h, Bool.and_true, List.length_cons, List.length_nil, decide_eq_true_eq]
  omega
theorem same0 (n : Nat) (b : Bool) : short (n + 1) (.bl b) = true := rfl
structure SomeOk (vs : List D) : Prop where
  many : vs.length ≤ 20
  gw : GwL 343 10 14000 130 vs
theorem some_repr {vs : List D} (h : SomeOk vs) : plain 40 (.lst vs) = true ∧ (toPy (.lst vs)).showable = true ∧ (reprD (.lst vs)).length ≤ 10000000 := by
  have hg : Gw 343 11 14001 130 (.lst vs) := h.gw.lst (by have := h.many; omega)
  have hs : short 40 (.lst vs) = true := hg.short (by decide) (by decide)
  have hp := short_plain 40 40 _ (Nat.le_refl _) hs
  refine ⟨hp, show4 40 _ hs (tiny_gd (by decide) _ hg.g.f), Nat.le_trans (shown_cost 40 _ hp) ?_⟩
  have a := cost_gd _ hg.g.f
  have b : cnt (.lst vs) * (343 + 60) ≤ 14001 * 403 := Nat.mul_le_mul hg.g.c (by decide)
  omega
theorem ne_self {t : Str} {A C : Prop} (h : A) : if (!decide (t = t)) = true then C else A := by
  rw [decide_eq_true rfl]
  exact h
theorem place6 {d : D} (n : Nat) : short (n + 2) (progFault d) = true := by
  rcases progFault_place d with e | h
  · rw [e]
    rfl
  · exact h.short (by decide)
theorem isNon_eq (x : D) : isNon x = true ↔ x = .non := by
  cases x <;> simp [isNon]
theorem lawL15 {v : D} (hv : okD v) {a b c d e f g y : SV} {M C : Env → Prop} (hM : ∀ x : SV, M [a, b, c, d, e, f, g, .d s, .d v, .d (progFault v), x]) :
    w_law_L15 X1 { nx := M, rt := fun r => r = .d (.bl true), ct := M, bk := C } [a, b, c, d, e, f, g, .d s, .d v, .d (progFault v), y] := by
  refine isN_l ?_
  rcases bcases (isNon (progFault v)) with z | z
  · rw [z]
    have hf := (isNon_eq _).mp z
    obtain ⟨p, rfl, hp⟩ := prog_of hf
    have hm := hp.many
    refine ite2 (fun _ => ?_) fun k => absurd rfl k
    refine ⟨_, rfl, p, rfl, by omega, ?_⟩
    refine ⟨(show 2 ≤ 100000 by decide), ?_⟩
    refine ⟨_, _, rfl, hv, .inr ⟨p, rfl, hp, hf, fun _ => ?_, fun k => absurd rfl k⟩⟩
    refine ⟨_, _, rfl, hv, .inr ⟨p, rfl, hp, hf, fun k => absurd k (by decide), fun _ => ?_⟩⟩
    refine ⟨(show 2 ≤ 100000 by decide), _, _, rfl, ?_, same2 (trail_short hp 1) rfl, ?_⟩
    · show D.lst [_, D.int p.start.length] = .lst [_, D.int (((frs p.start).length : Nat) : Int)]
      rw [frs_len]
      rfl
    · exact hM _
  · rw [z]
    have hf : progFault v ≠ .non := fun k => by
      rw [k] at z
      cases z
    refine ite2 (fun k => absurd k (by decide)) fun _ => ?_
    refine ⟨(show 1 ≤ 100000 by decide), (show 1 ≤ 100000 by decide), (show 2 ≤ 100000 by decide), ?_⟩
    refine ⟨_, _, rfl, hv, .inl ⟨hf, ?_⟩⟩
    refine ⟨_, _, rfl, hv, .inl ⟨hf, ?_⟩⟩
    refine ⟨(show 2 ≤ 100000 by decide), _, _, rfl, rfl, same2 (same1 (place6 2)) (same1 (place6 2)), ?_⟩
    exact hM _
theorem lawL11 {v : D} (hv : okD v) {a b c d e f g x : SV} {M C : Env → Prop} (hM : ∀ x : SV, M [a, b, c, d, e, f, g, .d s, .d v, .d (progFault v), x]) :
    w_law_L11 X1 { nx := M, rt := fun r => r = .d (.bl true), ct := M, bk := C } [a, b, c, d, e, f, g, .d s, .d v, .d (progFault v), x] := by
  refine ⟨_, rfl, hv, rfl, _, rfl, hv, ?_⟩
  refine ⟨(show 2 ≤ 100000 by decide), (show 2 ≤ 100000 by decide), _, _, rfl, rfl, same2 (place6 3) (place6 3), ?_⟩
  refine ⟨_, rfl, hv, rfl, _, rfl, hv, ?_⟩
  refine ⟨(show 2 ≤ 100000 by decide), isN_l ?_⟩
  refine isN_l ?_
  refine ⟨(show 2 ≤ 100000 by decide), _, _, rfl, rfl, same2 (same0 _ _) (same0 _ _), ?_⟩
  exact lawL15 hv hM
theorem lawL9 {p p2 : ProgR} (hp : OkP p) (hp2 : OkP p2) {vs gs : List D} (hv : SomeOk vs) {a b c e v x y : SV} (hN : ∀ e v x y : SV, N [a, b, c, .d (progD p), e, .d (.lst (progD p2 :: gs)), .d (.lst vs), .d (.str (reprD (.lst vs))), v, x, y]) :
    w_law_L9 X1 (DDN N B) [a, b, c, .d (progD p), e, .d (.lst (progD p2 :: gs)), .d (.lst vs), .d (.str (reprD (.lst vs))), v, x, y] := by
  obtain ⟨r1, r2, r3⟩ := some_repr hv
  refine forGo_inv (fun r ρ => (∀ u ∈ r, okD u) ∧ ∃ v x y : SV, ρ = [a, b, c, .d (progD p), e, .d (.lst (progD p2 :: gs)), .d (.lst vs), .d (.str (reprD (.lst vs))), v, x, y]) ?_ ?_ _ _ ⟨fun u m => (hv.gw.el m).ok (by decide) (by decide) (by decide), v, x, y, rfl⟩
  · rintro u r ρ ⟨hr, v, x, y, rfl⟩ M hM
    have okv := hr u List.mem_cons_self
    refine ⟨_, rfl, okv, ?_⟩
    exact lawL11 okv fun z => hM _ ⟨fun w m => hr w (List.mem_cons_of_mem _ m), _, _, _, rfl⟩
  · rintro ρ ⟨_, v, x, y, rfl⟩
    refine ⟨r1, r2, r3, ?_⟩
    refine ne_self ?_
    refine ⟨_, rfl, okD_prog hp, ?_⟩
    rw [progFault_ok hp]
    refine mAt (d := progD p2) (atI_nat (j := 0) rfl) ?_
    refine ⟨_, rfl, okD_prog hp2, ?_⟩
    rw [progFault_ok hp2]
    exact hN _ _ _ _
theorem lawL8 {p p2 : ProgR} (hp : OkP p) (hp2 : OkP p2) {vs gs : List D} (hv : SomeOk vs) {a b c e k v x y : SV} (hN : ∀ k e v x y : SV, N [a, b, c, .d (progD p), e, .d (.lst (progD p2 :: gs)), .d (.lst vs), k, v, x, y]) :
    w_law_L8 X1 (DDN N B) [a, b, c, .d (progD p), e, .d (.lst (progD p2 :: gs)), .d (.lst vs), k, v, x, y] := by
  obtain ⟨r1, r2, r3⟩ := some_repr hv
  exact ⟨r1, r2, r3, lawL9 (B := B) hp hp2 hv fun e v x y => hN _ e v x y⟩
theorem lawL7 {p p2 : ProgR} (hp : OkP p) (hp2 : OkP p2) {v1 v2 b1 b2 b3 v7 v8 g2 g3 g4 : D} (h1 : Gw 341 6 630 31 v1) (h2 : Gw 341 6 630 31 v2) (hb1 : Gw 342 8 1150 64 b1) (hb2 : Gw 342 8 1150 64 b2) (hb3 : Gw 342 8 1150 64 b3) (h7 : Gw 341 6 570 31 v7) (h8 : Gw 341 6 570 31 v8) (k2 : Gw 341 6 630 31 g2) (k3 : Gw 341 6 630 31 g3) (k4 : Gw 341 6 630 31 g4)
    {a c e k v x y : SV} (hN : ∀ z k e v x y : SV, N [a, .src, c, .d (progD p), e, .d (.lst [progD p2, g2, g3, g4]), z, k, v, x, y]) :
    w_law_L7 X1 (DDN N B) [a, .src, c, .d (progD p), e, .d (.lst [progD p2, g2, g3, g4]), .d (.lst [progD p, v1, v2, b1, b2, b3, v7, v8, .non]), k, v, x, y] := by
  have hm := hp.many
  have g0 := gw_prog hp
  have g0' := gw_prog hp2
  have hst := gw_steps hp.axes.2 hp.chain (by omega)
  have gst : Gw 341 5 559 31 (.tup (p.steps.map stepD)) := hst.tup (by rw [List.length_map]; omega)
  have gsl : Gw 341 5 559 31 (.lst (p.steps.map stepD)) := hst.lst (by rw [List.length_map]; omega)
  have gpt := gw_pt (b := 341) (fun q m => (hp.grid q m).sz (by decide)) hp.axes.2
  refine ⟨(show 9 + 4 ≤ 100000 by decide), ?_⟩
  refine ⟨_, rfl, 342, 1150, 64, 8, hb1, by decide, by decide, by decide, by decide, by decide, fun d hd => ?_⟩
  refine ⟨_, rfl, p, rfl, hp, fun w hw => ?_⟩
  repeat refine ⟨(Nat.le_of_ble_eq_true rfl : _ ≤ 100000), ?_⟩
  refine lawL8 (B := B) hp hp2 (gs := [g2, g3, g4]) ⟨Nat.le_of_ble_eq_true rfl, ?_⟩ fun k e v x y => hN _ k e v x y
  have U : ∀ {b n c l : Nat} {d : D}, Gw b n c l d → b ≤ 343 → n ≤ 10 → l ≤ 130 → Gw 343 10 c 130 d := fun h a e f => h.mono a e (Nat.le_refl _) f
  have y1 : Gw 341 6 565 31 (.tup [.tup [], .tup (p.steps.map stepD)]) := ((GwL.cons (⟨⟨by simp [fin, finL], by simp [dep, depL], by simp [cnt, cntL]⟩, by simp [wid, widL]⟩ : Gw 341 5 1 31 (.tup [])) (GwL.cons gst (GwL.nil (c := 0)))).tup (by simp)).mono (Nat.le_refl _) (Nat.le_refl _) (by omega) (Nat.le_refl _)
  have y2 : Gw 341 6 570 31 (.tup [ptD p.start, .lst (p.steps.map stepD)]) := ((GwL.cons (gpt.mono (Nat.le_refl _) (show 3 ≤ 5 by decide) (Nat.le_refl _) (show 3 ≤ 31 by decide)) (GwL.cons gsl (GwL.nil (c := 0)))).tup (by simp)).mono (Nat.le_refl _) (Nat.le_refl _) (by omega) (Nat.le_refl _)
  have y0 : Gw 341 1 1 0 D.non := gw_atom (.inl rfl)
  have key := GwL.cons (U g0 (by decide) (by decide) (by decide)) (GwL.cons (U h1 (by decide) (by decide) (by decide)) (GwL.cons (U h2 (by decide) (by decide) (by decide)) (GwL.cons (U hb1 (by decide) (by decide) (by decide)) (GwL.cons (U hb2 (by decide) (by decide) (by decide)) (GwL.cons (U hb3 (by decide) (by decide) (by decide)) (GwL.cons (U h7 (by decide) (by decide) (by decide)) (GwL.cons (U h8 (by decide) (by decide) (by decide)) (GwL.cons (U y0 (by decide) (by decide) (by decide))
    (GwL.cons (U g0' (by decide) (by decide) (by decide)) (GwL.cons (U k2 (by decide) (by decide) (by decide)) (GwL.cons (U k3 (by decide) (by decide) (by decide)) (GwL.cons (U k4 (by decide) (by decide) (by decide)) (GwL.cons (U hd (by decide) (by decide) (by decide)) (GwL.cons (U hw (by decide) (by decide) (by decide)) (GwL.cons (U y1 (by decide) (by decide) (by decide)) (GwL.cons (U y2 (by decide) (by decide) (by decide)) (GwL.cons (U gst (by decide) (by decide) (by decide)) (GwL.nil (c := 0)))))))))))))))))))
  exact key.mono (Nat.le_refl _) (Nat.le_refl _) (by decide) (Nat.le_refl _)
theorem lawL6 {p p2 : ProgR} (hp : OkP p) (hp2 : OkP p2) {g2 g3 g4 : D} (k2 : Gw 341 6 630 31 g2) (k3 : Gw 341 6 630 31 g3) (k4 : Gw 341 6 630 31 g4)
    {a c e z k v x y : SV} (hN : ∀ z k e v x y : SV, N [a, .src, c, .d (progD p), e, .d (.lst [progD p2, g2, g3, g4]), z, k, v, x, y]) :
    w_law_L6 X1 (DDN N B) [a, .src, c, .d (progD p), e, .d (.lst [progD p2, g2, g3, g4]), z, k, v, x, y] := by
  have hm := hp.many
  have g0 := gw_prog hp
  have hst := gw_steps hp.axes.2 hp.chain (by omega)
  have gst : Gw 341 5 559 31 (.tup (p.steps.map stepD)) := hst.tup (by rw [List.length_map]; omega)
  have gpt := gw_pt (b := 341) (fun q m => (hp.grid q m).sz (by decide)) hp.axes.2
  refine ⟨_, rfl, p, rfl, hp, fun v1 h1 => ?_⟩
  refine ⟨_, rfl, p, rfl, hp, fun v2 h2 => ?_⟩
  refine ⟨_, rfl, 341, 570, 31, 6, g0, by decide, by decide, by decide, by decide, by decide, fun b1 hb1 => ?_⟩
  refine ⟨_, rfl, 341, 570, 31, 6, g0, by decide, by decide, by decide, by decide, by decide, fun b2 hb2 => ?_⟩
  refine ⟨_, rfl, 341, 570, 31, 6, g0, by decide, by decide, by decide, by decide, by decide, fun b3 hb3 => ?_⟩
  refine ⟨(show 9 ≤ 100000 by decide), ?_⟩
  have y1 : Gw 341 6 570 31 (.lst [ptD p.start, .tup (p.steps.map stepD)]) := ((GwL.cons (gpt.mono (Nat.le_refl _) (show 3 ≤ 5 by decide) (Nat.le_refl _) (show 3 ≤ 31 by decide)) (GwL.cons gst (GwL.nil (c := 0)))).lst (by simp)).mono (Nat.le_refl _) (Nat.le_refl _) (by omega) (Nat.le_refl _)
  have y2 : Gw 341 6 570 31 (.tup (cutD [ptD p.start, .tup (p.steps.map stepD)] none (some 1))) := ((GwL.one (gpt.mono (Nat.le_refl _) (show 3 ≤ 5 by decide) (Nat.le_refl _) (show 3 ≤ 31 by decide))).tup (by simp)).mono (Nat.le_refl _) (Nat.le_refl _) (by omega) (Nat.le_refl _)
  exact lawL7 (B := B) hp hp2 h1 h2 (hb1.mono (Nat.le_refl _) (Nat.le_refl _) (by decide) (Nat.le_refl _)) (hb2.mono (Nat.le_refl _) (Nat.le_refl _) (by decide) (Nat.le_refl _)) (hb3.mono (Nat.le_refl _) (Nat.le_refl _) (by decide) (Nat.le_refl _)) y1 y2 k2 k3 k4 hN
theorem lawL5 {p : ProgR} (hp : OkP p) {st : List Rat} (s1 : 1 ≤ st.length) (s3 : st.length ≤ 3) (hs : GrL (2 ^ 207) st)
    {a c f z k v x y : SV} (hN : ∀ f z k e v x y : SV, N [a, .src, c, .d (progD p), e, f, z, k, v, x, y]) :
    w_law_L5 X1 (DDN N B) [a, .src, c, .d (progD p), .d (ptD st), f, z, k, v, x, y] := by
  have hm := hp.many
  have hax := hp.axes
  have gs0 := hs.mono (b := 2 ^ 340) (Nat.pow_le_pow_right (by decide) (by decide))
  refine ⟨_, _, rfl, st, 30, rfl, rfl, by decide, by decide, s1, s3, hs, fun ss1 l1 c1 => ?_⟩
  refine ⟨(show 2 ≤ 100000 by decide), ?_⟩
  refine ⟨_, _, rfl, st, 31, rfl, rfl, by decide, by decide, s1, s3, hs, fun ss2 l2 c2 => ?_⟩
  repeat refine ⟨(Nat.le_of_ble_eq_true rfl : _ ≤ 100000), ?_⟩
  refine ⟨?_, ?_⟩
  · show (frs st).length + (frs st).length ≤ 100000
    rw [frs_len]
    omega
  repeat refine ⟨(Nat.le_of_ble_eq_true rfl : _ ≤ 100000), ?_⟩
  have gpt : Gw 341 3 10 3 (ptD st) := gw_gr gs0 s3
  have gpt' : Gw 341 5 10 31 (ptD st) := gpt.mono (Nat.le_refl _) (by decide) (Nat.le_refl _) (by decide)
  have y2 : Gw 341 6 630 31 (.tup [ptD st, .tup (ss2.map stepD)]) := by
    have s := (gw_steps s3 c2 (by omega)).tup (by rw [List.length_map]; omega)
    exact ((GwL.cons gpt' (GwL.cons s (GwL.nil (c := 0)))).tup (by simp)).mono (Nat.le_refl _) (Nat.le_refl _) (by omega) (Nat.le_refl _)
  have y3 : Gw 341 6 630 31 (.tup [ptD st, .tup []]) := by
    have s : Gw 341 5 1 31 (.tup []) := ⟨⟨by simp [fin, finL], by simp [dep, depL], by simp [cnt, cntL]⟩, by simp [wid, widL]⟩
    exact ((GwL.cons gpt' (GwL.cons s (GwL.nil (c := 0)))).tup (by simp)).mono (Nat.le_refl _) (Nat.le_refl _) (by omega) (Nat.le_refl _)
  have y4 : Gw 341 6 630 31 (.tup [.tup (frs st ++ frs st), .tup (p.steps.map stepD)]) := by
    have s := (gw_steps hax.2 hp.chain (by omega)).tup (by rw [List.length_map]; omega)
    have t := gw_map (f := fr) (b := 341) (n := 2) (c := 3) (l := 31) (as := st) fun q m => (gw_fr ((gs0 q m).sz (by decide))).mono (Nat.le_refl _) (Nat.le_refl _) (Nat.le_refl _) (by decide)
    have t2 := ((t.app t).tup (by rw [List.length_append, List.length_map]; omega)).mono (b' := 341) (n' := 5) (c' := 20) (l' := 31) (Nat.le_refl _) (by decide) (by omega) (Nat.le_refl _)
    exact ((GwL.cons t2 (GwL.cons s (GwL.nil (c := 0)))).tup (by simp)).mono (Nat.le_refl _) (Nat.le_refl _) (by omega) (Nat.le_refl _)
  exact lawL6 (B := B) (p2 := ⟨st, ss1⟩) hp ⟨⟨s1, s3⟩, gs0, ⟨by show 1 ≤ ss1.length; omega, by show ss1.length ≤ 30; omega⟩, c1⟩ y2 y3 y4 fun z k e v x y => hN _ z k e v x y
end
theorem vc_law : ∀ ns : List Int, ns.length ≤ 63 → w_law (fun _ _ => False) { nx := fun _ => False, rt := fun r => r = .d (.bl true) } ((.d (.lst (ns.map D.int)) :: List.replicate (["script", "gear", "turn", "told", "start", "great", "some", "kept", "value", "due", "dues"].length - 1) SV.un).set 1 .src) := by
  intro ns hn
  have hl : (ns.map D.int).length = ns.length := List.length_map _
  refine ⟨⟨?_, ?_⟩, ?_⟩
  · show -(2 ^ 62) ≤ (3 : Int) + (if (((ns.map D.int).length : Nat) : Int) < 4 then (((ns.map D.int).length : Nat) : Int) else 4)
    split <;> omega
  · show (3 : Int) + (if (((ns.map D.int).length : Nat) : Int) < 4 then (((ns.map D.int).length : Nat) : Int) else 4) < 2 ^ 62
    split <;> omega
  refine forGo_inv (fun r ρ => ∃ a b c d e f g h i : SV, ρ = [.d (.lst (ns.map D.int)), .src, a, b, c, d, e, f, g, h, i]) ?_ ?_ _ _ ⟨.un, .un, .un, .un, .un, .un, .un, .un, .un, rfl⟩
  · rintro x r ρ ⟨a, b, c, d, e, f, g, h, i, rfl⟩ M hM
    refine ⟨(show 3 ≤ 100000 by decide), 3, rfl, by decide, by decide, fun r0 a0 a1 => ?_⟩
    have key : ∀ m : Int, 1 ≤ m → m ≤ 30 → spec__law_program [.src, .d (.int m)] (fun u => w_law_L4 X1 (DDN M fun ρ => (RV.d (D.bl true)) = .d (.bl true)) [.d (.lst (ns.map D.int)), .src, .d x, .d u.toD, c, d, e, f, g, h, i]) (fun _ => False) := fun m m1 m2 => by
      refine ⟨_, rfl, m, rfl, m1, m2, fun p hp hm => ?_⟩
      refine ⟨3, rfl, by decide, by decide, fun r1 b0 b1 => ?_⟩
      refine ⟨_, rfl, _, rfl, by omega, by omega, fun st hs hg => ?_⟩
      exact lawL5 (B := fun ρ => (RV.d (D.bl true)) = .d (.bl true)) hp (by omega) (by omega) hg fun f z k e v x y => hM _ ⟨_, _, _, _, _, _, _, _, _, rfl⟩
    have hr : r0 = 0 ∨ r0 = 1 ∨ r0 = 2 := by omega
    rcases hr with rfl | rfl | rfl
    · exact key 4 (by decide) (by decide)
    · exact key 12 (by decide) (by decide)
    · exact key 30 (by decide) (by decide)
  · rintro ρ ⟨a, b, c, d, e, f, g, h, i, rfl⟩
    rfl
end DL
set_option linter.all false
set_option autoImplicit false
set_option maxHeartbeats 4000000
set_option maxRecDepth 100000
namespace DL
open PySem PySem.Spec PyProof.Rows L2
section
variable {P : Program} {w : World} {K : PySem.W.Frag} {mg : Str → Option Value} {base : Heap}
theorem sc__law_low : FnScope ["top", "bottom", "one", "two"] ["top", "bottom"] (defScope s__law_low) := ⟨rfl, rfl, rfl, by decide +kernel, rfl, by decide +kernel, by decide +kernel⟩
theorem fd__law_low (B : Bn mg) (C : Cn K mg)  (T : Xn P K mg) {fa : Addr} {fd : FuncData} (F : Fun K "_law_low" "_law_low" s__law_low fa fd) (hm : mg "_law_low" = some (.ref fa)) (hb : Binds K fd ["top", "bottom"] []) (hk : ∀ p ∈ kws__law_low, KwOk fd ["top", "bottom"] p.1 p.2) : Fd P w K mg base SrcA 1 "_law_low" ["top", "bottom"] kws__law_low spec__law_low :=
  fd_of (wb := w__law_low) F sc__law_low hm hb hk len__law_low (fun cdv A0 outer s0 H0 E0 hr => have A := at_cx (P := P) (w := w) (K := K) (mg := mg) (base := base) (N := ["top", "bottom", "one", "two"]) (outer := outer) (H := H0) (E := E0) hr
   (dss_cons (ds_par2 2 3 sc__law_low.nd (dao_cons (de_cb call_abs lcb_abs B.abs (by decide +kernel) (da_cons (de_var 0) da_nil)) (dao_cons (de_cb call_abs lcb_abs B.abs (by decide +kernel) (da_cons (de_var 1) da_nil)) dao_nil)))
    (dss_cons (ds_while PassesOwn.cx (dt_cmp op_gt lop_gt (de_var 3) de_int (nomark _))
    (dss_one (ds_par2 2 3 sc__law_low.nd (dao_cons (de_var 3) (dao_cons (de_bin op_mod lop_mod (de_cty call_int1 lcb_int B.int (by decide +kernel) (da_cons (de_var 2) da_nil)) (de_var 3)) dao_nil)))))
    (dss_cons (ds_set 2 sc__law_low.nd (de_if (dt_cmp op_gt lop_gt (de_var 1) de_int (nomark _)) (de_var 2) (de_un un_neg lun_neg (de_var 2))))
    (dss_one (ds_ret (de_tup (da_cons (de_bin op_fdivNW lop_fdivN (de_var 0) (de_var 2)) (da_cons (de_bin op_fdivNW lop_fdivN (de_var 1) (de_var 2)) da_nil))))))))) vc__law_low

theorem sc__law_add : FnScope ["a", "b"] ["a", "b"] (defScope s__law_add) := ⟨rfl, rfl, rfl, by decide +kernel, rfl, by decide +kernel, by decide +kernel⟩
theorem fd__law_add (B : Bn mg) (C : Cn K mg) (G__law_low : Fd P w K mg base SrcA 1 "_law_low" ["top", "bottom"] kws__law_low spec__law_low) (T : Xn P K mg) {fa : Addr} {fd : FuncData} (F : Fun K "_law_add" "_law_add" s__law_add fa fd) (hm : mg "_law_add" = some (.ref fa)) (hb : Binds K fd ["a", "b"] []) (hk : ∀ p ∈ kws__law_add, KwOk fd ["a", "b"] p.1 p.2) : Fd P w K mg base SrcA 2 "_law_add" ["a", "b"] kws__law_add spec__law_add :=
  fd_of (wb := w__law_add) F sc__law_add hm hb hk len__law_add (fun cdv A0 outer s0 H0 E0 hr => have A := at_cx (P := P) (w := w) (K := K) (mg := mg) (base := base) (N := ["a", "b"]) (outer := outer) (H := H0) (E := E0) hr
   (dss_one (ds_ret (de_call A (by omega) G__law_low (da_cons (de_bin op_addD lop_add (de_bin op_mulD lop_mul (de_ix (de_var 0) de_int) (de_ix (de_var 1) de_int)) (de_bin op_mulD lop_mul (de_ix (de_var 1) de_int) (de_ix (de_var 0) de_int))) (da_cons (de_bin op_mulD lop_mul (de_ix (de_var 0) de_int) (de_ix (de_var 1) de_int)) da_nil)))))) vc__law_add

theorem sc__law_spot : FnScope ["gear", "axes", "spot", "k", "part"] ["gear", "axes"] (defScope s__law_spot) := ⟨rfl, rfl, rfl, by decide +kernel, rfl, by decide +kernel, by decide +kernel⟩
theorem fd__law_spot (B : Bn mg) (C : Cn K mg) (G__law_tooth : Fd P w K mg base SrcA 1 "_law_tooth" ["gear", "many"] kws__law_tooth spec__law_tooth) (G__law_low : Fd P w K mg base SrcA 1 "_law_low" ["top", "bottom"] kws__law_low spec__law_low) (G__law_add : Fd P w K mg base SrcA 2 "_law_add" ["a", "b"] kws__law_add spec__law_add) (T : Xn P K mg) {fa : Addr} {fd : FuncData} (F : Fun K "_law_spot" "_law_spot" s__law_spot fa fd) (hm : mg "_law_spot" = some (.ref fa)) (hb : Binds K fd ["gear", "axes"] []) (hk : ∀ p ∈ kws__law_spot, KwOk fd ["gear", "axes"] p.1 p.2) : Fd P w K mg base SrcA 3 "_law_spot" ["gear", "axes"] kws__law_spot spec__law_spot :=
  fd_of (wb := w__law_spot) F sc__law_spot hm hb hk len__law_spot (fun cdv A0 outer s0 H0 E0 hr => have A := at_cx (P := P) (w := w) (K := K) (mg := mg) (base := base) (N := ["gear", "axes", "spot", "k", "part"]) (outer := outer) (H := H0) (E := E0) hr
   (dss_cons (ds_setL 2 sc__law_spot.nd (dl_lst da_nil))
    (dss_cons (ds_for PassesOwn.cx (di_range1 B.range (de_var 1)) (dg_name 3 sc__law_spot.nd)
    (dss_cons (ds_set 4 sc__law_spot.nd (de_call A (by omega) G__law_low (da_cons (de_bin op_sub lop_sub (de_call A (by omega) G__law_tooth (da_src 0 (da_cons de_int da_nil))) de_int) (da_cons (de_ix (de_lst (da_cons de_int (da_cons de_int (da_cons de_int (da_cons de_int da_nil))))) (de_call A (by omega) G__law_tooth (da_src 0 (da_cons de_int da_nil)))) da_nil))))
    (dss_one (ds_append 2 (de_if (dt_cmp (op_eqD A.room.units) lop_eq (de_call A (by omega) G__law_tooth (da_src 0 (da_cons de_int da_nil))) de_int (nomark _)) (de_call A (by omega) G__law_add (da_cons (de_var 4) (da_cons (de_tup (da_cons de_int (da_cons (de_bin op_pow lop_pow de_int de_int) da_nil))) da_nil))) (de_var 4))))))
    (dss_freeze 2 (dss_one (ds_ret (de_cty call_tuple_of lcb_tuple B.tuple (by decide +kernel) (da_cons (de_var 2) da_nil)))))))) vc__law_spot

theorem sc__law_mul : FnScope ["a", "b"] ["a", "b"] (defScope s__law_mul) := ⟨rfl, rfl, rfl, by decide +kernel, rfl, by decide +kernel, by decide +kernel⟩
theorem fd__law_mul (B : Bn mg) (C : Cn K mg) (G__law_low : Fd P w K mg base SrcA 1 "_law_low" ["top", "bottom"] kws__law_low spec__law_low) (T : Xn P K mg) {fa : Addr} {fd : FuncData} (F : Fun K "_law_mul" "_law_mul" s__law_mul fa fd) (hm : mg "_law_mul" = some (.ref fa)) (hb : Binds K fd ["a", "b"] []) (hk : ∀ p ∈ kws__law_mul, KwOk fd ["a", "b"] p.1 p.2) : Fd P w K mg base SrcA 2 "_law_mul" ["a", "b"] kws__law_mul spec__law_mul :=
  fd_of (wb := w__law_mul) F sc__law_mul hm hb hk len__law_mul (fun cdv A0 outer s0 H0 E0 hr => have A := at_cx (P := P) (w := w) (K := K) (mg := mg) (base := base) (N := ["a", "b"]) (outer := outer) (H := H0) (E := E0) hr
   (dss_one (ds_ret (de_call A (by omega) G__law_low (da_cons (de_bin op_mulD lop_mul (de_ix (de_var 0) de_int) (de_ix (de_var 1) de_int)) (da_cons (de_bin op_mulD lop_mul (de_ix (de_var 0) de_int) (de_ix (de_var 1) de_int)) da_nil)))))) vc__law_mul

theorem sc__law_next : FnScope ["gear", "spot", "gap", "goal", "axes", "sort", "factor", "k", "part", "one", "two"] ["gear", "spot", "gap"] (defScope s__law_next) := ⟨rfl, rfl, rfl, by decide +kernel, rfl, by decide +kernel, by decide +kernel⟩
theorem fd__law_next (B : Bn mg) (C : Cn K mg) (G__law_tooth : Fd P w K mg base SrcA 1 "_law_tooth" ["gear", "many"] kws__law_tooth spec__law_tooth) (G__law_add : Fd P w K mg base SrcA 2 "_law_add" ["a", "b"] kws__law_add spec__law_add) (G__law_mul : Fd P w K mg base SrcA 2 "_law_mul" ["a", "b"] kws__law_mul spec__law_mul) (G__law_spot : Fd P w K mg base SrcA 3 "_law_spot" ["gear", "axes"] kws__law_spot spec__law_spot) (T : Xn P K mg) {fa : Addr} {fd : FuncData} (F : Fun K "_law_next" "_law_next" s__law_next fa fd) (hm : mg "_law_next" = some (.ref fa)) (hb : Binds K fd ["gear", "spot", "gap"] []) (hk : ∀ p ∈ kws__law_next, KwOk fd ["gear", "spot", "gap"] p.1 p.2) : Fd P w K mg base SrcA 4 "_law_next" ["gear", "spot", "gap"] kws__law_next spec__law_next :=
  fd_of (wb := w__law_next) F sc__law_next hm hb hk len__law_next (fun cdv A0 outer s0 H0 E0 hr => have A := at_cx (P := P) (w := w) (K := K) (mg := mg) (base := base) (N := ["gear", "spot", "gap", "goal", "axes", "sort", "factor", "k", "part", "one", "two"]) (outer := outer) (H := H0) (E := E0) hr
   (dss_cons (ds_par2 4 5 sc__law_next.nd (dao_cons (de_cb call_lenE lcb_len B.len (by decide +kernel) (da_cons (de_var 1) da_nil)) (dao_cons (de_call A (by omega) G__law_tooth (da_src 0 (da_cons de_int da_nil))) dao_nil)))
    (dss_cons (ds_setL 3 sc__law_next.nd (dl_cty call_list_of lcl_list B.list (by decide +kernel) (da_cons (de_call A (by omega) G__law_spot (da_src 0 (da_cons (de_var 4) da_nil))) da_nil)))
    (dss_cons (ds_if (DW.dt (dw_and (dt_cmp op_lt lop_lt (de_var 5) de_int (nomark _)) (dw_and (dt_cmp (op_neD A.room.units) lop_ne (de_var 2) (de_tup da_nil) (nomark _)) (dw_and1 (dt_cmp (op_eqD A.room.units) lop_eq (de_ofL (dl_comp (own := [("part", 8)]) rfl sc__law_next.nd (di_seq (de_var 1)) (blkOk_by (own := [("part", 8)]) rfl) (fun s H C cl fp => (dgw_name 8 sc__law_next.nd (by decide))) (fun s H C cl fp => (dts_one (dt_cmp op_gt lop_gt (de_cb call_abs lcb_abs B.abs (by decide +kernel) (da_cons (de_ix (de_var 8) de_int) da_nil)) (de_bin op_mulD lop_mul de_int (de_ix (de_var 8) de_int)) (nomark _)))) (fun s H C cl fp => de_int))) (de_lst da_nil) (nomark _))))))
    (dss_cons (ds_set 6 sc__law_next.nd (de_ix (de_lst (da_cons (de_tup (da_cons de_int (da_cons de_int da_nil))) (da_cons (de_tup (da_cons de_int (da_cons de_int da_nil))) (da_cons (de_tup (da_cons (de_un un_neg lun_neg de_int) (da_cons de_int da_nil))) (da_cons (de_tup (da_cons (de_un un_neg lun_neg de_int) (da_cons de_int da_nil))) (da_cons (de_tup (da_cons de_int (da_cons de_int da_nil))) da_nil)))))) (de_var 5)))
    (dss_cons (ds_setLc (own := [("one", 9), ("two", 10)]) 3 sc__law_next.nd (di_zip B.zip (de_var 1) (de_var 2)) (blkOk_by (own := [("one", 9), ("two", 10)]) rfl) (fun s H C cl fp => (dgw_tup (dgws_cons (dgw_name 9 sc__law_next.nd (by decide)) (dgws_cons (dgw_name 10 sc__law_next.nd (by decide)) dgws_nil)) rfl)) (fun s H C cl fp => dts_nil) (fun s H C cl fp => (de_call (A.blk s H _ _ fp) (by omega) G__law_add (da_cons (de_var 9) (da_cons (de_call (A.blk s H _ _ fp) (by omega) G__law_mul (da_cons (de_var 10) (da_cons (de_var 6) da_nil))) da_nil)))) (sw_true rfl rfl rfl (by decide +kernel)))
    (dss_one (ds_setItem 3 (de_if (dt_cmp (op_eqD A.room.units) lop_eq (de_var 5) de_int (nomark _)) (de_call A (by omega) G__law_add (da_cons (de_ixOwn 3 de_int) (da_cons (de_tup (da_cons de_int (da_cons (de_bin op_pow lop_pow de_int de_int) da_nil))) da_nil))) (de_ixOwn 3 de_int)) de_int))))
    dss_nil)
    (dss_cons (ds_if (DW.dt (dw_or (dt_cmp (op_eqD A.room.units) lop_eq (de_var 5) de_int (nomark _)) (dw_or1 (dt_cmp (op_eqD A.room.units) lop_eq (de_var 5) de_int (nomark _)))))
    (dss_cons (ds_set 7 sc__law_next.nd (de_call A (by omega) G__law_tooth (da_src 0 (da_cons (de_var 4) da_nil))))
    (dss_one (ds_setL 3 sc__law_next.nd (dl_cat (de_bin op_addD lop_add (de_ofL (dl_cty call_list_of lcl_list B.list (by decide +kernel) (da_cons (de_slice (de_var 1) do_none (do_some (de_var 7))) da_nil))) (de_lst (da_cons (de_if (dt_cmp (op_eqD A.room.units) lop_eq (de_var 5) de_int (nomark _)) (de_ixOwn 3 (de_var 7)) (de_call A (by omega) G__law_add (da_cons (de_ix (de_var 1) (de_var 7)) (da_cons (de_tup (da_cons de_int (da_cons (de_bin op_pow lop_pow de_int de_int) da_nil))) da_nil)))) da_nil))) (de_ofL (dl_cty call_list_of lcl_list B.list (by decide +kernel) (da_cons (de_slice (de_var 1) (do_some (de_bin op_addD lop_add (de_var 7) de_int)) do_none) da_nil)))))))
    dss_nil)
    (dss_cons (ds_if (dt_borrow 3 (dt_cmp (op_eqD A.room.units) lop_eq (de_cty call_tuple_of lcb_tuple B.tuple (by decide +kernel) (da_cons (de_var 3) da_nil)) (de_var 1) (nomark _)))
    (dss_one (ds_setItem 3 (de_call A (by omega) G__law_add (da_cons (de_ixOwn 3 de_int) (da_cons (de_tup (da_cons de_int (da_cons de_int da_nil))) da_nil))) de_int))
    dss_nil)
    (dss_freeze 3 (dss_one (ds_ret (de_cty call_tuple_of lcb_tuple B.tuple (by decide +kernel) (da_cons (de_var 3) da_nil))))))))))) vc__law_next

theorem sc__law_take : FnScope ["a", "b"] ["a", "b"] (defScope s__law_take) := ⟨rfl, rfl, rfl, by decide +kernel, rfl, by decide +kernel, by decide +kernel⟩
theorem fd__law_take (B : Bn mg) (C : Cn K mg) (G__law_low : Fd P w K mg base SrcA 1 "_law_low" ["top", "bottom"] kws__law_low spec__law_low) (T : Xn P K mg) {fa : Addr} {fd : FuncData} (F : Fun K "_law_take" "_law_take" s__law_take fa fd) (hm : mg "_law_take" = some (.ref fa)) (hb : Binds K fd ["a", "b"] []) (hk : ∀ p ∈ kws__law_take, KwOk fd ["a", "b"] p.1 p.2) : Fd P w K mg base SrcA 2 "_law_take" ["a", "b"] kws__law_take spec__law_take :=
  fd_of (wb := w__law_take) F sc__law_take hm hb hk len__law_take (fun cdv A0 outer s0 H0 E0 hr => have A := at_cx (P := P) (w := w) (K := K) (mg := mg) (base := base) (N := ["a", "b"]) (outer := outer) (H := H0) (E := E0) hr
   (dss_one (ds_ret (de_call A (by omega) G__law_low (da_cons (de_bin op_sub lop_sub (de_bin op_mulD lop_mul (de_ix (de_var 0) de_int) (de_ix (de_var 1) de_int)) (de_bin op_mulD lop_mul (de_ix (de_var 1) de_int) (de_ix (de_var 0) de_int))) (da_cons (de_bin op_mulD lop_mul (de_ix (de_var 0) de_int) (de_ix (de_var 1) de_int)) da_nil)))))) vc__law_take

theorem sc__law_steps : FnScope ["gear", "start", "many", "k", "steps", "spot", "gap", "goal", "feed", "slow", "one", "two"] ["gear", "start", "many"] (defScope s__law_steps) := ⟨rfl, rfl, rfl, by decide +kernel, rfl, by decide +kernel, by decide +kernel⟩
theorem fd__law_steps (B : Bn mg) (C : Cn K mg) (G__law_tooth : Fd P w K mg base SrcA 1 "_law_tooth" ["gear", "many"] kws__law_tooth spec__law_tooth) (G__law_low : Fd P w K mg base SrcA 1 "_law_low" ["top", "bottom"] kws__law_low spec__law_low) (G__law_take : Fd P w K mg base SrcA 2 "_law_take" ["a", "b"] kws__law_take spec__law_take) (G__law_mul : Fd P w K mg base SrcA 2 "_law_mul" ["a", "b"] kws__law_mul spec__law_mul) (G__law_next : Fd P w K mg base SrcA 4 "_law_next" ["gear", "spot", "gap"] kws__law_next spec__law_next) (T : Xn P K mg) {fa : Addr} {fd : FuncData} (F : Fun K "_law_steps" "_law_steps" s__law_steps fa fd) (hm : mg "_law_steps" = some (.ref fa)) (hb : Binds K fd ["gear", "start", "many"] []) (hk : ∀ p ∈ kws__law_steps, KwOk fd ["gear", "start", "many"] p.1 p.2) : Fd P w K mg base SrcA 5 "_law_steps" ["gear", "start", "many"] kws__law_steps spec__law_steps :=
  fd_of (wb := w__law_steps) F sc__law_steps hm hb hk len__law_steps (fun cdv A0 outer s0 H0 E0 hr => have A := at_cx (P := P) (w := w) (K := K) (mg := mg) (base := base) (N := ["gear", "start", "many", "k", "steps", "spot", "gap", "goal", "feed", "slow", "one", "two"]) (outer := outer) (H := H0) (E := E0) hr
   (dss_cons (ds_par3 4 5 6 sc__law_steps.nd (dao_consL (dl_lst da_nil) (dao_cons (de_var 1) (dao_cons (de_tup da_nil) dao_nil))))
    (dss_cons (ds_for PassesOwn.cx (di_range1 B.range (de_var 2)) (dg_name 3 sc__law_steps.nd)
    (dss_cons (ds_set 7 sc__law_steps.nd (de_call A (by omega) G__law_next (da_src 0 (da_cons (de_var 5) (da_cons (de_var 6) da_nil)))))
    (dss_cons (ds_par2 6 5 sc__law_steps.nd (dao_cons (de_cty call_tuple_of lcb_tuple B.tuple (by decide +kernel) (da_cons (de_ofL (dl_comp (own := [("one", 10), ("two", 11)]) rfl sc__law_steps.nd (di_zip B.zip (de_var 7) (de_var 5)) (blkOk_by (own := [("one", 10), ("two", 11)]) rfl) (fun s H C cl fp => (dgw_tup (dgws_cons (dgw_name 10 sc__law_steps.nd (by decide)) (dgws_cons (dgw_name 11 sc__law_steps.nd (by decide)) dgws_nil)) rfl)) (fun s H C cl fp => dts_nil) (fun s H C cl fp => (de_call (A.blk s H _ _ fp) (by omega) G__law_take (da_cons (de_var 10) (da_cons (de_var 11) da_nil)))))) da_nil)) (dao_cons (de_var 7) dao_nil)))
    (dss_cons (ds_set 8 sc__law_steps.nd (de_call A (by omega) G__law_low (da_cons (de_bin op_addD lop_add de_int (de_call A (by omega) G__law_tooth (da_src 0 (da_cons de_int da_nil)))) (da_cons (de_ix (de_lst (da_cons de_int (da_cons de_int (da_cons de_int (da_cons de_int da_nil))))) (de_call A (by omega) G__law_tooth (da_src 0 (da_cons de_int da_nil)))) da_nil))))
    (dss_cons (ds_set 9 sc__law_steps.nd (de_ix (de_lst (da_cons (de_tup (da_cons de_int (da_cons de_int da_nil))) (da_cons (de_tup (da_cons de_int (da_cons de_int da_nil))) (da_cons (de_var 8) (da_cons (de_call A (by omega) G__law_mul (da_cons (de_var 8) (da_cons (de_tup (da_cons de_int (da_cons de_int da_nil))) da_nil))) da_nil))))) (de_call A (by omega) G__law_tooth (da_src 0 (da_cons de_int da_nil)))))
    (dss_one (ds_append 4 (de_tup (da_cons (de_var 7) (da_cons (de_var 8) (da_cons (de_var 9) (da_cons (de_cmp (op_eqD A.room.units) lop_eq (de_call A (by omega) G__law_tooth (da_src 0 (da_cons de_int da_nil))) de_int (nomark _)) da_nil))))))))))))
    (dss_freeze 4 (dss_one (ds_ret (de_cty call_tuple_of lcb_tuple B.tuple (by decide +kernel) (da_cons (de_var 4) da_nil)))))))) vc__law_steps

theorem sc__law_program : FnScope ["gear", "many", "start"] ["gear", "many"] (defScope s__law_program) := ⟨rfl, rfl, rfl, by decide +kernel, rfl, by decide +kernel, by decide +kernel⟩
theorem fd__law_program (B : Bn mg) (C : Cn K mg) (G__law_tooth : Fd P w K mg base SrcA 1 "_law_tooth" ["gear", "many"] kws__law_tooth spec__law_tooth) (G__law_spot : Fd P w K mg base SrcA 3 "_law_spot" ["gear", "axes"] kws__law_spot spec__law_spot) (G__law_steps : Fd P w K mg base SrcA 5 "_law_steps" ["gear", "start", "many"] kws__law_steps spec__law_steps) (T : Xn P K mg) {fa : Addr} {fd : FuncData} (F : Fun K "_law_program" "_law_program" s__law_program fa fd) (hm : mg "_law_program" = some (.ref fa)) (hb : Binds K fd ["gear", "many"] []) (hk : ∀ p ∈ kws__law_program, KwOk fd ["gear", "many"] p.1 p.2) : Fd P w K mg base SrcA 6 "_law_program" ["gear", "many"] kws__law_program spec__law_program :=
  fd_of (wb := w__law_program) F sc__law_program hm hb hk len__law_program (fun cdv A0 outer s0 H0 E0 hr => have A := at_cx (P := P) (w := w) (K := K) (mg := mg) (base := base) (N := ["gear", "many", "start"]) (outer := outer) (H := H0) (E := E0) hr
   (dss_cons (ds_set 2 sc__law_program.nd (de_call A (by omega) G__law_spot (da_src 0 (da_cons (de_bin op_addD lop_add de_int (de_call A (by omega) G__law_tooth (da_src 0 (da_cons de_int da_nil)))) da_nil))))
    (dss_one (ds_ret (de_tup (da_cons (de_var 2) (da_cons (de_call A (by omega) G__law_steps (da_src 0 (da_cons (de_var 2) (da_cons (de_bin op_addD lop_add de_int (de_call A (by omega) G__law_tooth (da_src 0 (da_cons (de_var 1) da_nil)))) da_nil)))) da_nil))))))) vc__law_program

theorem sc__law_pick : FnScope ["gear", "things"] ["gear", "things"] (defScope s__law_pick) := ⟨rfl, rfl, rfl, by decide +kernel, rfl, by decide +kernel, by decide +kernel⟩
theorem fd__law_pick (B : Bn mg) (C : Cn K mg) (G__law_tooth : Fd P w K mg base SrcA 1 "_law_tooth" ["gear", "many"] kws__law_tooth spec__law_tooth) (T : Xn P K mg) {fa : Addr} {fd : FuncData} (F : Fun K "_law_pick" "_law_pick" s__law_pick fa fd) (hm : mg "_law_pick" = some (.ref fa)) (hb : Binds K fd ["gear", "things"] []) (hk : ∀ p ∈ kws__law_pick, KwOk fd ["gear", "things"] p.1 p.2) : Fd P w K mg base SrcA 2 "_law_pick" ["gear", "things"] kws__law_pick spec__law_pick :=
  fd_of (wb := w__law_pick) F sc__law_pick hm hb hk len__law_pick (fun cdv A0 outer s0 H0 E0 hr => have A := at_cx (P := P) (w := w) (K := K) (mg := mg) (base := base) (N := ["gear", "things"]) (outer := outer) (H := H0) (E := E0) hr
   (dss_one (ds_ret (de_ix (de_var 1) (de_call A (by omega) G__law_tooth (da_src 0 (da_cons (de_cb call_lenE lcb_len B.len (by decide +kernel) (da_cons (de_var 1) da_nil)) da_nil))))))) vc__law_pick

theorem sc__law_trail : FnScope ["told", "step"] ["told"] (defScope s__law_trail) := ⟨rfl, rfl, rfl, by decide +kernel, rfl, by decide +kernel, by decide +kernel⟩
theorem fd__law_trail (B : Bn mg) (C : Cn K mg)  (T : Xn P K mg) {fa : Addr} {fd : FuncData} (F : Fun K "_law_trail" "_law_trail" s__law_trail fa fd) (hm : mg "_law_trail" = some (.ref fa)) (hb : Binds K fd ["told"] []) (hk : ∀ p ∈ kws__law_trail, KwOk fd ["told"] p.1 p.2) : Fd P w K mg base SrcA 1 "_law_trail" ["told"] kws__law_trail spec__law_trail :=
  fd_of (wb := w__law_trail) F sc__law_trail hm hb hk len__law_trail (fun cdv A0 outer s0 H0 E0 hr => have A := at_cx (P := P) (w := w) (K := K) (mg := mg) (base := base) (N := ["told", "step"]) (outer := outer) (H := H0) (E := E0) hr
   (dss_one (ds_ret (de_bin op_addD lop_add (de_lst (da_cons (de_ix (de_var 0) de_int) da_nil)) (de_ofL (dl_comp (own := [("step", 1)]) rfl sc__law_trail.nd (di_seq (de_ix (de_var 0) de_int)) (blkOk_by (own := [("step", 1)]) rfl) (fun s H C cl fp => (dgw_name 1 sc__law_trail.nd (by decide))) (fun s H C cl fp => dts_nil) (fun s H C cl fp => (de_ix (de_var 1) de_int)))))))) vc__law_trail

theorem sc__law_near : FnScope ["gear", "told", "at", "ahead", "some", "step", "goal", "feed", "slow", "halt"] ["gear", "told"] (defScope s__law_near) := ⟨rfl, rfl, rfl, by decide +kernel, rfl, by decide +kernel, by decide +kernel⟩
theorem fd__law_near (B : Bn mg) (C : Cn K mg) (G__law_tooth : Fd P w K mg base SrcA 1 "_law_tooth" ["gear", "many"] kws__law_tooth spec__law_tooth) (G__law_pick : Fd P w K mg base SrcA 2 "_law_pick" ["gear", "things"] kws__law_pick spec__law_pick) (G__law_add : Fd P w K mg base SrcA 2 "_law_add" ["a", "b"] kws__law_add spec__law_add) (G__law_trail : Fd P w K mg base SrcA 1 "_law_trail" ["told"] kws__law_trail spec__law_trail) (T : Xn P K mg) {fa : Addr} {fd : FuncData} (F : Fun K "_law_near" "_law_near" s__law_near fa fd) (hm : mg "_law_near" = some (.ref fa)) (hb : Binds K fd ["gear", "told"] []) (hk : ∀ p ∈ kws__law_near, KwOk fd ["gear", "told"] p.1 p.2) : Fd P w K mg base SrcA 3 "_law_near" ["gear", "told"] kws__law_near spec__law_near :=
  fd_of (wb := w__law_near) F sc__law_near hm hb hk len__law_near (fun cdv A0 outer s0 H0 E0 hr => have A := at_cx (P := P) (w := w) (K := K) (mg := mg) (base := base) (N := ["gear", "told", "at", "ahead", "some", "step", "goal", "feed", "slow", "halt"]) (outer := outer) (H := H0) (E := E0) hr
   (dss_cons (ds_set 2 sc__law_near.nd (de_call A (by omega) G__law_tooth (da_src 0 (da_cons (de_cb call_lenE lcb_len B.len (by decide +kernel) (da_cons (de_ix (de_var 1) de_int) da_nil)) da_nil))))
    (dss_cons (ds_asg (de_ix (de_ix (de_var 1) de_int) (de_var 2)) (dg_tup (dgs_cons (dg_name 6 sc__law_near.nd) (dgs_cons (dg_name 7 sc__law_near.nd) (dgs_cons (dg_name 8 sc__law_near.nd) (dgs_cons (dg_name 9 sc__law_near.nd) dgs_nil))))))
    (dss_cons (ds_set 3 sc__law_near.nd (de_ix (de_call A (by omega) G__law_trail (da_cons (de_var 1) da_nil)) (de_var 2)))
    (dss_cons (ds_set 4 sc__law_near.nd (de_lst (da_cons (de_tup (da_cons (de_var 3) (da_cons (de_var 7) (da_cons (de_var 8) (da_cons (de_var 9) da_nil))))) (da_cons (de_tup (da_cons (de_var 6) (da_cons (de_var 7) (da_cons (de_var 7) (da_cons (de_var 9) da_nil))))) (da_cons (de_tup (da_cons (de_var 6) (da_cons (de_var 7) (da_cons (de_call A (by omega) G__law_add (da_cons (de_var 7) (da_cons (de_tup (da_cons de_int (da_cons de_int da_nil))) da_nil))) (da_cons (de_var 9) da_nil))))) (da_cons (de_tup (da_cons (de_var 6) (da_cons (de_tup (da_cons de_int (da_cons de_int da_nil))) (da_cons (de_tup (da_cons de_int (da_cons de_int da_nil))) (da_cons (de_var 9) da_nil))))) da_nil))))))
    (dss_cons (ds_set 4 sc__law_near.nd (de_bin op_addD lop_add (de_var 4) (de_lst (da_cons (de_tup (da_cons (de_bin op_addD lop_add (de_var 6) (de_slice (de_var 6) do_none (do_some de_int))) (da_cons (de_var 7) (da_cons (de_var 8) (da_cons (de_var 9) da_nil))))) (da_cons (de_tup (da_cons (de_slice (de_var 6) (do_some de_int) do_none) (da_cons (de_var 7) (da_cons (de_var 8) (da_cons (de_var 9) da_nil))))) (da_cons (de_tup (da_cons (de_var 6) (da_cons (de_var 7) (da_cons (de_tup (da_cons (de_un un_neg lun_neg de_int) (da_cons de_int da_nil))) (da_cons (de_var 9) da_nil))))) (da_cons (de_tup (da_cons (de_var 6) (da_cons (de_var 7) (da_cons (de_var 8) (da_cons (de_cty call_int1 lcb_int B.int (by decide +kernel) (da_cons (de_var 9) da_nil)) da_nil))))) da_nil)))))))
    (dss_cons (ds_set 5 sc__law_near.nd (de_call A (by omega) G__law_pick (da_src 0 (da_cons (de_var 4) da_nil))))
    (dss_one (ds_ret (de_tup (da_cons (de_ix (de_var 1) de_int) (da_cons (de_bin op_addD lop_add (de_bin op_addD lop_add (de_slice (de_ix (de_var 1) de_int) do_none (do_some (de_var 2))) (de_tup (da_cons (de_var 5) da_nil))) (de_slice (de_ix (de_var 1) de_int) (do_some (de_bin op_addD lop_add (de_var 2) de_int)) do_none)) da_nil)))))))))))) vc__law_near

theorem sc__law_bent : FnScope ["gear", "value", "odd", "at", "sort"] ["gear", "value"] (defScope s__law_bent) := ⟨rfl, rfl, rfl, by decide +kernel, rfl, by decide +kernel, by decide +kernel⟩
theorem fd__law_bent (B : Bn mg) (C : Cn K mg) (G__law_tooth : Fd P w K mg base SrcA 1 "_law_tooth" ["gear", "many"] kws__law_tooth spec__law_tooth) (G__law_pick : Fd P w K mg base SrcA 2 "_law_pick" ["gear", "things"] kws__law_pick spec__law_pick) (T : Xn P K mg) {fa : Addr} {fd : FuncData} (F : Fun K "_law_bent" "_law_bent" s__law_bent fa fd) (hm : mg "_law_bent" = some (.ref fa)) (hb : Binds K fd ["gear", "value"] []) (hk : ∀ p ∈ kws__law_bent, KwOk fd ["gear", "value"] p.1 p.2) : ∀ n : Nat, Fd P w K mg base SrcA (n + 3) "_law_bent" ["gear", "value"] kws__law_bent (spec__law_bent n)
  | 0 => fd_of (wb := sNever) F sc__law_bent hm hb hk (len__law_bent 0) (fun cdv A0 outer s0 H0 E0 hr => dss_never) vc0__law_bent
  | n + 1 => have G__law_bent := fd__law_bent B C G__law_tooth G__law_pick T F hm hb hk n
    fd_of (wb := w__law_bent n) F sc__law_bent hm hb hk (len__law_bent (n + 1)) (fun cdv A0 outer s0 H0 E0 hr => have A := at_cx (P := P) (w := w) (K := K) (mg := mg) (base := base) (N := ["gear", "value", "odd", "at", "sort"]) (outer := outer) (H := H0) (E := E0) hr
   (dss_cons (ds_if (DW.dt (dw_and (dt_val (de_isi good_tuple B.isinstance B.tuple (by decide +kernel) (de_var 1))) (dw_and (dt_cmp (op_neD A.room.units) lop_ne (de_var 1) (de_tup da_nil) (nomark _)) (dw_and1 (dt_cmp op_gt lop_gt (de_call A (by omega) G__law_tooth (da_src 0 (da_cons de_int da_nil))) de_int (nomark _))))))
    (dss_cons (ds_par2 3 4 sc__law_bent.nd (dao_cons (de_call A (by omega) G__law_tooth (da_src 0 (da_cons (de_cb call_lenE lcb_len B.len (by decide +kernel) (da_cons (de_var 1) da_nil)) da_nil))) (dao_cons (de_call A (by omega) G__law_tooth (da_src 0 (da_cons de_int da_nil))) dao_nil)))
    (dss_cons (ds_if (dt_cmp (op_eqD A.room.units) lop_eq (de_var 4) de_int (nomark _))
    (dss_one (ds_ret (de_bin op_addD lop_add (de_slice (de_var 1) do_none (do_some (de_var 3))) (de_slice (de_var 1) (do_some (de_bin op_addD lop_add (de_var 3) de_int)) do_none))))
    dss_nil)
    (dss_cons (ds_if (dt_cmp (op_eqD A.room.units) lop_eq (de_var 4) de_int (nomark _))
    (dss_one (ds_ret (de_bin op_addD lop_add (de_bin op_addD lop_add (de_slice (de_var 1) do_none (do_some (de_var 3))) (de_slice (de_var 1) (do_some (de_var 3)) (do_some (de_bin op_addD lop_add (de_var 3) de_int)))) (de_slice (de_var 1) (do_some (de_var 3)) do_none))))
    dss_nil)
    (dss_cons (ds_if (dt_cmp (op_eqD A.room.units) lop_eq (de_var 4) de_int (nomark _))
    (dss_one (ds_ret (de_ix (de_lst (da_cons (de_revT (de_var 1)) (da_cons (de_ofL (dl_cty call_list_of lcl_list B.list (by decide +kernel) (da_cons (de_var 1) da_nil))) (da_cons (de_bin op_addD lop_add (de_var 1) (de_var 1)) da_nil)))) (de_call A (by omega) G__law_tooth (da_src 0 (da_cons de_int da_nil))))))
    dss_nil)
    (dss_one (ds_ret (de_bin op_addD lop_add (de_bin op_addD lop_add (de_slice (de_var 1) do_none (do_some (de_var 3))) (de_tup (da_cons (de_call A (by omega) G__law_bent (da_src 0 (da_cons (de_ix (de_var 1) (de_var 3)) da_nil))) da_nil))) (de_slice (de_var 1) (do_some (de_bin op_addD lop_add (de_var 3) de_int)) do_none))))))))
    dss_nil)
    (dss_cons (ds_if (dt_val (de_isi good_bool B.isinstance B.bool (by decide +kernel) (de_var 1)))
    (dss_one (ds_ret (de_call A (by omega) G__law_pick (da_src 0 (da_cons (de_lst (da_cons (de_not (de_var 1)) (da_cons (de_cty call_int1 lcb_int B.int (by decide +kernel) (da_cons (de_var 1) da_nil)) (da_cons de_non (da_cons de_str (da_cons (de_tup da_nil) da_nil)))))) da_nil)))))
    dss_nil)
    (dss_cons (ds_if (DW.dt (dw_and (dt_val (de_isi good_int B.isinstance B.int (by decide +kernel) (de_var 1))) (dw_and1 (dt_cmp op_gt lop_gt (de_call A (by omega) G__law_tooth (da_src 0 (da_cons de_int da_nil))) de_int (nomark _)))))
    (dss_one (ds_ret (de_call A (by omega) G__law_pick (da_src 0 (da_cons (de_lst (da_cons (de_bin op_addD lop_add (de_var 1) de_int) (da_cons (de_bin op_sub lop_sub (de_var 1) de_int) (da_cons (de_bin op_sub lop_sub de_int (de_var 1)) (da_cons (de_bin op_mulD lop_mul (de_var 1) de_int) (da_cons de_int (da_cons de_int (da_cons (de_bin op_pow lop_pow de_int de_int) da_nil)))))))) da_nil)))))
    dss_nil)
    (dss_cons (ds_set 2 sc__law_bent.nd (de_lst (da_cons de_non (da_cons de_bl (da_cons de_bl (da_cons de_int (da_cons de_int (da_cons (de_un un_neg lun_neg de_int) (da_cons (de_tup da_nil) (da_cons (de_lst da_nil) (da_cons de_str (da_cons de_str (da_cons (de_tup (da_cons de_int (da_cons de_int da_nil))) (da_cons (de_tup (da_cons de_int (da_cons de_int da_nil))) (da_cons (de_tup (da_cons de_int (da_cons de_int da_nil))) (da_cons (de_tup (da_cons (de_un un_neg lun_neg de_int) (da_cons de_int da_nil))) (da_cons (de_tup (da_cons de_int (da_cons de_int da_nil))) (da_cons (de_tup (da_cons de_int (da_cons (de_un un_neg lun_neg de_int) da_nil))) (da_cons (de_tup (da_cons de_int (da_cons de_int da_nil))) (da_cons (de_lst (da_cons (de_var 1) da_nil)) (da_cons (de_tup (da_cons (de_var 1) da_nil)) (da_cons (de_tup (da_cons (de_tup (da_cons de_int (da_cons de_int da_nil))) da_nil)) (da_cons (de_tup (da_cons (de_tup (da_cons de_int (da_cons de_int da_nil))) (da_cons (de_tup (da_cons de_int (da_cons de_int da_nil))) da_nil))) da_nil)))))))))))))))))))))))
    (dss_one (ds_ret (de_call A (by omega) G__law_pick (da_src 0 (da_cons (de_var 2) da_nil)))))))))) (vc__law_bent n)

theorem sc__law_is_fraction : FnScope ["value"] ["value"] (defScope s__law_is_fraction) := ⟨rfl, rfl, rfl, by decide +kernel, rfl, by decide +kernel, by decide +kernel⟩
theorem fd__law_is_fraction (B : Bn mg) (C : Cn K mg) (G__law_low : Fd P w K mg base SrcA 1 "_law_low" ["top", "bottom"] kws__law_low spec__law_low) (T : Xn P K mg) {fa : Addr} {fd : FuncData} (F : Fun K "_law_is_fraction" "_law_is_fraction" s__law_is_fraction fa fd) (hm : mg "_law_is_fraction" = some (.ref fa)) (hb : Binds K fd ["value"] []) (hk : ∀ p ∈ kws__law_is_fraction, KwOk fd ["value"] p.1 p.2) : Fd P w K mg base SrcA 2 "_law_is_fraction" ["value"] kws__law_is_fraction spec__law_is_fraction :=
  fd_of (wb := w__law_is_fraction) F sc__law_is_fraction hm hb hk len__law_is_fraction (fun cdv A0 outer s0 H0 E0 hr => have A := at_cx (P := P) (w := w) (K := K) (mg := mg) (base := base) (N := ["value"]) (outer := outer) (H := H0) (E := E0) hr
   (dss_cons (ds_if (DW.dt (dw_or (dt_not (dt_val (de_isi good_tuple B.isinstance B.tuple (by decide +kernel) (de_var 0)))) (dw_or (dt_cmp (op_neD A.room.units) lop_ne (de_cb call_lenE lcb_len B.len (by decide +kernel) (da_cons (de_var 0) da_nil)) de_int (nomark _)) (dw_or (dt_not (dt_val (de_isi good_int B.isinstance B.int (by decide +kernel) (de_ix (de_var 0) de_int)))) (dw_or1 (dt_not (dt_val (de_isi good_int B.isinstance B.int (by decide +kernel) (de_ix (de_var 0) de_int)))))))))
    (dss_one (ds_ret de_bl))
    dss_nil)
    (dss_cons (ds_if (DW.dt (dw_or (dt_val (de_isi good_bool B.isinstance B.bool (by decide +kernel) (de_ix (de_var 0) de_int))) (dw_or (dt_val (de_isi good_bool B.isinstance B.bool (by decide +kernel) (de_ix (de_var 0) de_int))) (dw_or1 (dt_cmp op_lt lop_lt (de_ix (de_var 0) de_int) de_int (nomark _))))))
    (dss_one (ds_ret de_bl))
    dss_nil)
    (dss_one (ds_ret (de_cmp (op_eqD A.room.units) lop_eq (de_call A (by omega) G__law_low (da_cons (de_ix (de_var 0) de_int) (da_cons (de_ix (de_var 0) de_int) da_nil))) (de_var 0) (nomark _))))))) vc__law_is_fraction

theorem sc__law_is_above : FnScope ["value"] ["value"] (defScope s__law_is_above) := ⟨rfl, rfl, rfl, by decide +kernel, rfl, by decide +kernel, by decide +kernel⟩
theorem fd__law_is_above (B : Bn mg) (C : Cn K mg) (G__law_is_fraction : Fd P w K mg base SrcA 2 "_law_is_fraction" ["value"] kws__law_is_fraction spec__law_is_fraction) (T : Xn P K mg) {fa : Addr} {fd : FuncData} (F : Fun K "_law_is_above" "_law_is_above" s__law_is_above fa fd) (hm : mg "_law_is_above" = some (.ref fa)) (hb : Binds K fd ["value"] []) (hk : ∀ p ∈ kws__law_is_above, KwOk fd ["value"] p.1 p.2) : Fd P w K mg base SrcA 3 "_law_is_above" ["value"] kws__law_is_above spec__law_is_above :=
  fd_of (wb := w__law_is_above) F sc__law_is_above hm hb hk len__law_is_above (fun cdv A0 outer s0 H0 E0 hr => have A := at_cx (P := P) (w := w) (K := K) (mg := mg) (base := base) (N := ["value"]) (outer := outer) (H := H0) (E := E0) hr
   (dss_one (ds_ret (de_and (de_call A (by omega) G__law_is_fraction (da_cons (de_var 0) da_nil)) (de_one (de_cmp op_gt lop_gt (de_ix (de_var 0) de_int) de_int (nomark _))))))) vc__law_is_above

theorem sc__law_under : FnScope ["a", "b"] ["a", "b"] (defScope s__law_under) := ⟨rfl, rfl, rfl, by decide +kernel, rfl, by decide +kernel, by decide +kernel⟩
theorem fd__law_under (B : Bn mg) (C : Cn K mg)  (T : Xn P K mg) {fa : Addr} {fd : FuncData} (F : Fun K "_law_under" "_law_under" s__law_under fa fd) (hm : mg "_law_under" = some (.ref fa)) (hb : Binds K fd ["a", "b"] []) (hk : ∀ p ∈ kws__law_under, KwOk fd ["a", "b"] p.1 p.2) : Fd P w K mg base SrcA 1 "_law_under" ["a", "b"] kws__law_under spec__law_under :=
  fd_of (wb := w__law_under) F sc__law_under hm hb hk len__law_under (fun cdv A0 outer s0 H0 E0 hr => have A := at_cx (P := P) (w := w) (K := K) (mg := mg) (base := base) (N := ["a", "b"]) (outer := outer) (H := H0) (E := E0) hr
   (dss_one (ds_ret (de_cmp op_lt lop_lt (de_bin op_mulD lop_mul (de_ix (de_var 0) de_int) (de_ix (de_var 1) de_int)) (de_bin op_mulD lop_mul (de_ix (de_var 1) de_int) (de_ix (de_var 0) de_int)) (nomark _))))) vc__law_under

theorem sc__law_is_spot : FnScope ["axes", "value", "part"] ["axes", "value"] (defScope s__law_is_spot) := ⟨rfl, rfl, rfl, by decide +kernel, rfl, by decide +kernel, by decide +kernel⟩
theorem fd__law_is_spot (B : Bn mg) (C : Cn K mg) (G__law_is_fraction : Fd P w K mg base SrcA 2 "_law_is_fraction" ["value"] kws__law_is_fraction spec__law_is_fraction) (T : Xn P K mg) {fa : Addr} {fd : FuncData} (F : Fun K "_law_is_spot" "_law_is_spot" s__law_is_spot fa fd) (hm : mg "_law_is_spot" = some (.ref fa)) (hb : Binds K fd ["axes", "value"] []) (hk : ∀ p ∈ kws__law_is_spot, KwOk fd ["axes", "value"] p.1 p.2) : Fd P w K mg base SrcA 3 "_law_is_spot" ["axes", "value"] kws__law_is_spot spec__law_is_spot :=
  fd_of (wb := w__law_is_spot) F sc__law_is_spot hm hb hk len__law_is_spot (fun cdv A0 outer s0 H0 E0 hr => have A := at_cx (P := P) (w := w) (K := K) (mg := mg) (base := base) (N := ["axes", "value", "part"]) (outer := outer) (H := H0) (E := E0) hr
   (dss_cons (ds_if (DW.dt (dw_or (dt_not (dt_val (de_isi good_tuple B.isinstance B.tuple (by decide +kernel) (de_var 1)))) (dw_or1 (dt_cmp (op_neD A.room.units) lop_ne (de_cb call_lenE lcb_len B.len (by decide +kernel) (da_cons (de_var 1) da_nil)) (de_var 0) (nomark _)))))
    (dss_one (ds_ret de_bl))
    dss_nil)
    (dss_one (ds_ret (de_cmp (op_eqD A.room.units) lop_eq (de_ofL (dl_comp (own := [("part", 2)]) rfl sc__law_is_spot.nd (di_seq (de_var 1)) (blkOk_by (own := [("part", 2)]) rfl) (fun s H C cl fp => (dgw_name 2 sc__law_is_spot.nd (by decide))) (fun s H C cl fp => (dts_one (dt_not (dt_val (de_call (A.blk s H _ _ fp) (by omega) G__law_is_fraction (da_cons (de_var 2) da_nil)))))) (fun s H C cl fp => (de_var 2)))) (de_lst da_nil) (nomark _)))))) vc__law_is_spot

theorem sc__law_step_place : FnScope ["spot", "value"] ["spot", "value"] (defScope s__law_step_place) := ⟨rfl, rfl, rfl, by decide +kernel, rfl, by decide +kernel, by decide +kernel⟩
theorem fd__law_step_place (B : Bn mg) (C : Cn K mg) (G__law_under : Fd P w K mg base SrcA 1 "_law_under" ["a", "b"] kws__law_under spec__law_under) (G__law_is_fraction : Fd P w K mg base SrcA 2 "_law_is_fraction" ["value"] kws__law_is_fraction spec__law_is_fraction) (G__law_is_above : Fd P w K mg base SrcA 3 "_law_is_above" ["value"] kws__law_is_above spec__law_is_above) (G__law_is_spot : Fd P w K mg base SrcA 3 "_law_is_spot" ["axes", "value"] kws__law_is_spot spec__law_is_spot) (T : Xn P K mg) {fa : Addr} {fd : FuncData} (F : Fun K "_law_step_place" "_law_step_place" s__law_step_place fa fd) (hm : mg "_law_step_place" = some (.ref fa)) (hb : Binds K fd ["spot", "value"] []) (hk : ∀ p ∈ kws__law_step_place, KwOk fd ["spot", "value"] p.1 p.2) : Fd P w K mg base SrcA 4 "_law_step_place" ["spot", "value"] kws__law_step_place spec__law_step_place :=
  fd_of (wb := w__law_step_place) F sc__law_step_place hm hb hk len__law_step_place (fun cdv A0 outer s0 H0 E0 hr => have A := at_cx (P := P) (w := w) (K := K) (mg := mg) (base := base) (N := ["spot", "value"]) (outer := outer) (H := H0) (E := E0) hr
   (dss_cons (ds_if (DW.dt (dw_or (dt_not (dt_val (de_isi good_tuple B.isinstance B.tuple (by decide +kernel) (de_var 1)))) (dw_or1 (dt_cmp (op_neD A.room.units) lop_ne (de_cb call_lenE lcb_len B.len (by decide +kernel) (da_cons (de_var 1) da_nil)) de_int (nomark _)))))
    (dss_one (ds_ret (de_tup da_nil)))
    dss_nil)
    (dss_cons (ds_if (DW.dt (dw_or (dt_not (dt_val (de_call A (by omega) G__law_is_spot (da_cons (de_cb call_lenE lcb_len B.len (by decide +kernel) (da_cons (de_var 0) da_nil)) (da_cons (de_ix (de_var 1) de_int) da_nil))))) (dw_or1 (dt_cmp (op_eqD A.room.units) lop_eq (de_ix (de_var 1) de_int) (de_var 0) (nomark _)))))
    (dss_one (ds_ret (de_tup (da_cons de_int da_nil))))
    dss_nil)
    (dss_cons (ds_if (dt_not (dt_val (de_call A (by omega) G__law_is_above (da_cons (de_ix (de_var 1) de_int) da_nil))))
    (dss_one (ds_ret (de_tup (da_cons de_int da_nil))))
    dss_nil)
    (dss_cons (ds_if (DW.dt (dw_or (dt_not (dt_val (de_call A (by omega) G__law_is_fraction (da_cons (de_ix (de_var 1) de_int) da_nil)))) (dw_or (dt_cmp op_lt lop_lt (de_ix (de_ix (de_var 1) de_int) de_int) de_int (nomark _)) (dw_or1 (dt_val (de_call A (by omega) G__law_under (da_cons (de_ix (de_var 1) de_int) (da_cons (de_ix (de_var 1) de_int) da_nil))))))))
    (dss_one (ds_ret (de_tup (da_cons de_int da_nil))))
    dss_nil)
    (dss_one (ds_ret (de_if (dt_val (de_isi good_bool B.isinstance B.bool (by decide +kernel) (de_ix (de_var 1) de_int))) de_non (de_tup (da_cons de_int da_nil)))))))))) vc__law_step_place

theorem sc__law_program_place : FnScope ["value", "spot", "k", "place"] ["value"] (defScope s__law_program_place) := ⟨rfl, rfl, rfl, by decide +kernel, rfl, by decide +kernel, by decide +kernel⟩
theorem fd__law_program_place (B : Bn mg) (C : Cn K mg) (G__law_is_spot : Fd P w K mg base SrcA 3 "_law_is_spot" ["axes", "value"] kws__law_is_spot spec__law_is_spot) (G__law_step_place : Fd P w K mg base SrcA 4 "_law_step_place" ["spot", "value"] kws__law_step_place spec__law_step_place) (T : Xn P K mg) {fa : Addr} {fd : FuncData} (F : Fun K "_law_program_place" "_law_program_place" s__law_program_place fa fd) (hm : mg "_law_program_place" = some (.ref fa)) (hb : Binds K fd ["value"] []) (hk : ∀ p ∈ kws__law_program_place, KwOk fd ["value"] p.1 p.2) : Fd P w K mg base SrcA 5 "_law_program_place" ["value"] kws__law_program_place spec__law_program_place :=
  fd_of (wb := w__law_program_place) F sc__law_program_place hm hb hk len__law_program_place (fun cdv A0 outer s0 H0 E0 hr => have A := at_cx (P := P) (w := w) (K := K) (mg := mg) (base := base) (N := ["value", "spot", "k", "place"]) (outer := outer) (H := H0) (E := E0) hr
   (dss_cons (ds_if (DW.dt (dw_or (dt_not (dt_val (de_isi good_tuple B.isinstance B.tuple (by decide +kernel) (de_var 0)))) (dw_or1 (dt_cmp (op_neD A.room.units) lop_ne (de_cb call_lenE lcb_len B.len (by decide +kernel) (da_cons (de_var 0) da_nil)) de_int (nomark _)))))
    (dss_one (ds_ret (de_tup da_nil)))
    dss_nil)
    (dss_cons (ds_if (DW.dt (dw_or (dt_not (dt_val (de_isi good_tuple B.isinstance B.tuple (by decide +kernel) (de_ix (de_var 0) de_int)))) (dw_or (dt_not (dt_chain op_le op_le lop_le lop_le de_int (de_cb call_lenE lcb_len B.len (by decide +kernel) (da_cons (de_ix (de_var 0) de_int) da_nil)) de_int)) (dw_or1 (dt_not (dt_val (de_call A (by omega) G__law_is_spot (da_cons (de_cb call_lenE lcb_len B.len (by decide +kernel) (da_cons (de_ix (de_var 0) de_int) da_nil)) (da_cons (de_ix (de_var 0) de_int) da_nil)))))))))
    (dss_one (ds_ret (de_tup (da_cons de_int da_nil))))
    dss_nil)
    (dss_cons (ds_if (DW.dt (dw_or (dt_not (dt_val (de_isi good_tuple B.isinstance B.tuple (by decide +kernel) (de_ix (de_var 0) de_int)))) (dw_or1 (dt_not (dt_chain op_le op_le lop_le lop_le de_int (de_cb call_lenE lcb_len B.len (by decide +kernel) (da_cons (de_ix (de_var 0) de_int) da_nil)) de_int)))))
    (dss_one (ds_ret (de_tup (da_cons de_int da_nil))))
    dss_nil)
    (dss_cons (ds_set 1 sc__law_program_place.nd (de_ix (de_var 0) de_int))
    (dss_cons (ds_for PassesOwn.cx (di_range1 B.range (de_cb call_lenE lcb_len B.len (by decide +kernel) (da_cons (de_ix (de_var 0) de_int) da_nil))) (dg_name 2 sc__law_program_place.nd)
    (dss_cons (ds_set 3 sc__law_program_place.nd (de_call A (by omega) G__law_step_place (da_cons (de_var 1) (da_cons (de_ix (de_ix (de_var 0) de_int) (de_var 2)) da_nil))))
    (dss_cons (ds_if (dt_notN (de_var 3))
    (dss_one (ds_ret (de_bin op_addD lop_add (de_tup (da_cons de_int (da_cons (de_var 2) da_nil))) (de_var 3))))
    dss_nil)
    (dss_one (ds_set 1 sc__law_program_place.nd (de_ix (de_ix (de_ix (de_var 0) de_int) (de_var 2)) de_int))))))
    (dss_one (ds_ret de_non)))))))) vc__law_program_place

theorem sc__law_same : FnScope ["found", "due", "k"] ["found", "due"] (defScope s__law_same) := ⟨rfl, rfl, rfl, by decide +kernel, rfl, by decide +kernel, by decide +kernel⟩
theorem fd__law_same (B : Bn mg) (C : Cn K mg)  (T : Xn P K mg) {fa : Addr} {fd : FuncData} (F : Fun K "_law_same" "_law_same" s__law_same fa fd) (hm : mg "_law_same" = some (.ref fa)) (hb : Binds K fd ["found", "due"] []) (hk : ∀ p ∈ kws__law_same, KwOk fd ["found", "due"] p.1 p.2) : ∀ n : Nat, Fd P w K mg base SrcA (n + 1) "_law_same" ["found", "due"] kws__law_same (spec__law_same n)
  | 0 => fd_of (wb := sNever) F sc__law_same hm hb hk (len__law_same 0) (fun cdv A0 outer s0 H0 E0 hr => dss_never) vc0__law_same
  | n + 1 => have G__law_same := fd__law_same B C  T F hm hb hk n
    fd_of (wb := w__law_same n) F sc__law_same hm hb hk (len__law_same (n + 1)) (fun cdv A0 outer s0 H0 E0 hr => have A := at_cx (P := P) (w := w) (K := K) (mg := mg) (base := base) (N := ["found", "due", "k"]) (outer := outer) (H := H0) (E := E0) hr
   (dss_cons (ds_if (dt_val (de_isi2 good_tuple good_list B.isinstance B.tuple (by decide +kernel) B.list (by decide +kernel) (de_var 1)))
    (dss_cons (ds_if (DW.dt (dw_or (dt_cmp (op_neD A.room.units) lop_ne (de_isi good_tuple B.isinstance B.tuple (by decide +kernel) (de_var 0)) (de_isi good_tuple B.isinstance B.tuple (by decide +kernel) (de_var 1)) (nomark _)) (dw_or1 (dt_cmp (op_neD A.room.units) lop_ne (de_isi good_list B.isinstance B.list (by decide +kernel) (de_var 0)) (de_isi good_list B.isinstance B.list (by decide +kernel) (de_var 1)) (nomark _)))))
    (dss_one (ds_ret de_bl))
    dss_nil)
    (dss_one (ds_ret (de_and (de_cmp (op_eqD A.room.units) lop_eq (de_cb call_lenE lcb_len B.len (by decide +kernel) (da_cons (de_var 0) da_nil)) (de_cb call_lenE lcb_len B.len (by decide +kernel) (da_cons (de_var 1) da_nil)) (nomark _)) (de_one (de_cb (cr_all rfl) lcb_all B.all (by decide +kernel) (da_cons (de_ofL (dl_comp (own := [("k", 2)]) rfl sc__law_same.nd (di_range1 B.range (de_cb call_lenE lcb_len B.len (by decide +kernel) (da_cons (de_var 1) da_nil))) (blkOk_by (own := [("k", 2)]) rfl) (fun s H C cl fp => (dgw_name 2 sc__law_same.nd (by decide))) (fun s H C cl fp => dts_nil) (fun s H C cl fp => (de_call (A.blk s H _ _ fp) (by omega) G__law_same (da_cons (de_ix (de_var 0) (de_var 2)) (da_cons (de_ix (de_var 1) (de_var 2)) da_nil)))))) da_nil)))))))
    dss_nil)
    (dss_cons (ds_if (DW.dt (dw_or (dt_cmp (op_neD A.room.units) lop_ne (de_isi good_bool B.isinstance B.bool (by decide +kernel) (de_var 0)) (de_isi good_bool B.isinstance B.bool (by decide +kernel) (de_var 1)) (nomark _)) (dw_or1 (dt_cmp (op_neD A.room.units) lop_ne (de_isi good_int B.isinstance B.int (by decide +kernel) (de_var 0)) (de_isi good_int B.isinstance B.int (by decide +kernel) (de_var 1)) (nomark _)))))
    (dss_one (ds_ret de_bl))
    dss_nil)
    (dss_one (ds_ret (de_and (de_cmp (op_eqD A.room.units) lop_eq (de_isi good_str B.isinstance B.str (by decide +kernel) (de_var 0)) (de_isi good_str B.isinstance B.str (by decide +kernel) (de_var 1)) (nomark _)) (de_one (de_cmp (op_eqD A.room.units) lop_eq (de_var 0) (de_var 1) (nomark _))))))))) (vc__law_same n)

theorem sc_is_tuple_of : FnScope ["length", "value"] ["length", "value"] (defScope s_is_tuple_of) := ⟨rfl, rfl, rfl, by decide +kernel, rfl, by decide +kernel, by decide +kernel⟩
theorem fd_is_tuple_of (B : Bn mg) (C : Cn K mg)  (T : Xn P K mg) {fa : Addr} {fd : FuncData} (F : Fun K "is_tuple_of" "is_tuple_of" s_is_tuple_of fa fd) (hm : mg "is_tuple_of" = some (.ref fa)) (hb : Binds K fd ["length", "value"] []) (hk : ∀ p ∈ kws_is_tuple_of, KwOk fd ["length", "value"] p.1 p.2) : Fd P w K mg base SrcA 1 "is_tuple_of" ["length", "value"] kws_is_tuple_of spec_is_tuple_of :=
  fd_of (wb := w_is_tuple_of) F sc_is_tuple_of hm hb hk len_is_tuple_of (fun cdv A0 outer s0 H0 E0 hr => have A := at_cx (P := P) (w := w) (K := K) (mg := mg) (base := base) (N := ["length", "value"]) (outer := outer) (H := H0) (E := E0) hr
   (dss_one (ds_ret (de_and (de_isi good_tuple B.isinstance B.tuple (by decide +kernel) (de_var 1)) (de_one (de_cmp (op_eqD A.room.units) lop_eq (de_cb call_lenE lcb_len B.len (by decide +kernel) (da_cons (de_var 1) da_nil)) (de_var 0) (nomark _))))))) vc_is_tuple_of

theorem sc_is_integer : FnScope ["value"] ["value"] (defScope s_is_integer) := ⟨rfl, rfl, rfl, by decide +kernel, rfl, by decide +kernel, by decide +kernel⟩
theorem fd_is_integer (B : Bn mg) (C : Cn K mg)  (T : Xn P K mg) {fa : Addr} {fd : FuncData} (F : Fun K "is_integer" "is_integer" s_is_integer fa fd) (hm : mg "is_integer" = some (.ref fa)) (hb : Binds K fd ["value"] []) (hk : ∀ p ∈ kws_is_integer, KwOk fd ["value"] p.1 p.2) : Fd P w K mg base SrcA 1 "is_integer" ["value"] kws_is_integer spec_is_integer :=
  fd_of (wb := w_is_integer) F sc_is_integer hm hb hk len_is_integer (fun cdv A0 outer s0 H0 E0 hr => have A := at_cx (P := P) (w := w) (K := K) (mg := mg) (base := base) (N := ["value"]) (outer := outer) (H := H0) (E := E0) hr
   (dss_one (ds_ret (de_and (de_isi good_int B.isinstance B.int (by decide +kernel) (de_var 0)) (de_one (de_not (de_isi good_bool B.isinstance B.bool (by decide +kernel) (de_var 0)))))))) vc_is_integer

theorem sc_common : FnScope ["one", "other"] ["one", "other"] (defScope s_common) := ⟨rfl, rfl, rfl, by decide +kernel, rfl, by decide +kernel, by decide +kernel⟩
theorem fd_common (B : Bn mg) (C : Cn K mg)  (T : Xn P K mg) {fa : Addr} {fd : FuncData} (F : Fun K "common" "common" s_common fa fd) (hm : mg "common" = some (.ref fa)) (hb : Binds K fd ["one", "other"] []) (hk : ∀ p ∈ kws_common, KwOk fd ["one", "other"] p.1 p.2) : Fd P w K mg base SrcA 1 "common" ["one", "other"] kws_common spec_common :=
  fd_of (wb := w_common) F sc_common hm hb hk len_common (fun cdv A0 outer s0 H0 E0 hr => have A := at_cx (P := P) (w := w) (K := K) (mg := mg) (base := base) (N := ["one", "other"]) (outer := outer) (H := H0) (E := E0) hr
   (dss_cons (ds_while PassesOwn.cx (dt_cmp op_gt lop_gt (de_var 1) de_int (nomark _))
    (dss_one (ds_par2 0 1 sc_common.nd (dao_cons (de_var 1) (dao_cons (de_bin op_mod lop_mod (de_var 0) (de_var 1)) dao_nil)))))
    (dss_one (ds_ret (de_var 0))))) vc_common

theorem sc_is_fraction : FnScope ["value"] ["value"] (defScope s_is_fraction) := ⟨rfl, rfl, rfl, by decide +kernel, rfl, by decide +kernel, by decide +kernel⟩
theorem fd_is_fraction (B : Bn mg) (C : Cn K mg) (G_is_integer : Fd P w K mg base SrcA 1 "is_integer" ["value"] kws_is_integer spec_is_integer) (G_common : Fd P w K mg base SrcA 1 "common" ["one", "other"] kws_common spec_common) (T : Xn P K mg) {fa : Addr} {fd : FuncData} (F : Fun K "is_fraction" "is_fraction" s_is_fraction fa fd) (hm : mg "is_fraction" = some (.ref fa)) (hb : Binds K fd ["value"] []) (hk : ∀ p ∈ kws_is_fraction, KwOk fd ["value"] p.1 p.2) : Fd P w K mg base SrcA 2 "is_fraction" ["value"] kws_is_fraction spec_is_fraction :=
  fd_of (wb := w_is_fraction) F sc_is_fraction hm hb hk len_is_fraction (fun cdv A0 outer s0 H0 E0 hr => have A := at_cx (P := P) (w := w) (K := K) (mg := mg) (base := base) (N := ["value"]) (outer := outer) (H := H0) (E := E0) hr
   (dss_cons (ds_if (DW.dt (dw_or (dt_not (dt_val (de_isi good_tuple B.isinstance B.tuple (by decide +kernel) (de_var 0)))) (dw_or (dt_cmp (op_neD A.room.units) lop_ne (de_cb call_lenE lcb_len B.len (by decide +kernel) (da_cons (de_var 0) da_nil)) de_int (nomark _)) (dw_or (dt_not (dt_val (de_call A (by omega) G_is_integer (da_cons (de_ix (de_var 0) de_int) da_nil)))) (dw_or1 (dt_not (dt_val (de_call A (by omega) G_is_integer (da_cons (de_ix (de_var 0) de_int) da_nil)))))))))
    (dss_one (ds_ret de_bl))
    dss_nil)
    (dss_one (ds_ret (de_and (de_cmp op_gt lop_gt (de_ix (de_var 0) de_int) de_int (nomark _)) (de_one (de_cmp (op_eqD A.room.units) lop_eq (de_call A (by omega) G_common (da_cons (de_cb call_abs lcb_abs B.abs (by decide +kernel) (da_cons (de_ix (de_var 0) de_int) da_nil)) (da_cons (de_ix (de_var 0) de_int) da_nil))) de_int (nomark _)))))))) vc_is_fraction

theorem sc_below : FnScope ["one", "other"] ["one", "other"] (defScope s_below) := ⟨rfl, rfl, rfl, by decide +kernel, rfl, by decide +kernel, by decide +kernel⟩
theorem fd_below (B : Bn mg) (C : Cn K mg)  (T : Xn P K mg) {fa : Addr} {fd : FuncData} (F : Fun K "below" "below" s_below fa fd) (hm : mg "below" = some (.ref fa)) (hb : Binds K fd ["one", "other"] []) (hk : ∀ p ∈ kws_below, KwOk fd ["one", "other"] p.1 p.2) : Fd P w K mg base SrcA 1 "below" ["one", "other"] kws_below spec_below :=
  fd_of (wb := w_below) F sc_below hm hb hk len_below (fun cdv A0 outer s0 H0 E0 hr => have A := at_cx (P := P) (w := w) (K := K) (mg := mg) (base := base) (N := ["one", "other"]) (outer := outer) (H := H0) (E := E0) hr
   (dss_one (ds_ret (de_cmp op_lt lop_lt (de_bin op_mulD lop_mul (de_ix (de_var 0) de_int) (de_ix (de_var 1) de_int)) (de_bin op_mulD lop_mul (de_ix (de_var 1) de_int) (de_ix (de_var 0) de_int)) (nomark _))))) vc_below

theorem sc_is_above : FnScope ["value"] ["value"] (defScope s_is_above) := ⟨rfl, rfl, rfl, by decide +kernel, rfl, by decide +kernel, by decide +kernel⟩
theorem fd_is_above (B : Bn mg) (C : Cn K mg) (G_is_fraction : Fd P w K mg base SrcA 2 "is_fraction" ["value"] kws_is_fraction spec_is_fraction) (G_below : Fd P w K mg base SrcA 1 "below" ["one", "other"] kws_below spec_below) (T : Xn P K mg) {fa : Addr} {fd : FuncData} (F : Fun K "is_above" "is_above" s_is_above fa fd) (hm : mg "is_above" = some (.ref fa)) (hb : Binds K fd ["value"] []) (hk : ∀ p ∈ kws_is_above, KwOk fd ["value"] p.1 p.2) : Fd P w K mg base SrcA 3 "is_above" ["value"] kws_is_above spec_is_above :=
  fd_of (wb := w_is_above) F sc_is_above hm hb hk len_is_above (fun cdv A0 outer s0 H0 E0 hr => have A := at_cx (P := P) (w := w) (K := K) (mg := mg) (base := base) (N := ["value"]) (outer := outer) (H := H0) (E := E0) hr
   (dss_one (ds_ret (de_and (de_call A (by omega) G_is_fraction (da_cons (de_var 0) da_nil)) (de_one (de_call A (by omega) G_below (da_cons (de_gc C.NOUGHT) (da_cons (de_var 0) da_nil)))))))) vc_is_above

theorem sc_is_point : FnScope ["axes", "value", "number"] ["axes", "value"] (defScope s_is_point) := ⟨rfl, rfl, rfl, by decide +kernel, rfl, by decide +kernel, by decide +kernel⟩
theorem fd_is_point (B : Bn mg) (C : Cn K mg) (G_is_fraction : Fd P w K mg base SrcA 2 "is_fraction" ["value"] kws_is_fraction spec_is_fraction) (G_is_tuple_of : Fd P w K mg base SrcA 1 "is_tuple_of" ["length", "value"] kws_is_tuple_of spec_is_tuple_of) (T : Xn P K mg) {fa : Addr} {fd : FuncData} (F : Fun K "is_point" "is_point" s_is_point fa fd) (hm : mg "is_point" = some (.ref fa)) (hb : Binds K fd ["axes", "value"] []) (hk : ∀ p ∈ kws_is_point, KwOk fd ["axes", "value"] p.1 p.2) : Fd P w K mg base SrcA 3 "is_point" ["axes", "value"] kws_is_point spec_is_point :=
  fd_of (wb := w_is_point) F sc_is_point hm hb hk len_is_point (fun cdv A0 outer s0 H0 E0 hr => have A := at_cx (P := P) (w := w) (K := K) (mg := mg) (base := base) (N := ["axes", "value", "number"]) (outer := outer) (H := H0) (E := E0) hr
   (dss_one (ds_ret (de_and (de_call A (by omega) G_is_tuple_of (da_cons (de_var 0) (da_cons (de_var 1) da_nil))) (de_one (de_cb (cr_all rfl) lcb_all B.all (by decide +kernel) (da_cons (de_ofL (dl_comp (own := [("number", 2)]) rfl sc_is_point.nd (di_seq (de_var 1)) (blkOk_by (own := [("number", 2)]) rfl) (fun s H C cl fp => (dgw_name 2 sc_is_point.nd (by decide))) (fun s H C cl fp => dts_nil) (fun s H C cl fp => (de_call (A.blk s H _ _ fp) (by omega) G_is_fraction (da_cons (de_var 2) da_nil))))) da_nil))))))) vc_is_point

theorem sc_is_amount : FnScope ["value"] ["value"] (defScope s_is_amount) := ⟨rfl, rfl, rfl, by decide +kernel, rfl, by decide +kernel, by decide +kernel⟩
theorem fd_is_amount (B : Bn mg) (C : Cn K mg) (G_is_fraction : Fd P w K mg base SrcA 2 "is_fraction" ["value"] kws_is_fraction spec_is_fraction) (G_below : Fd P w K mg base SrcA 1 "below" ["one", "other"] kws_below spec_below) (T : Xn P K mg) {fa : Addr} {fd : FuncData} (F : Fun K "is_amount" "is_amount" s_is_amount fa fd) (hm : mg "is_amount" = some (.ref fa)) (hb : Binds K fd ["value"] []) (hk : ∀ p ∈ kws_is_amount, KwOk fd ["value"] p.1 p.2) : Fd P w K mg base SrcA 3 "is_amount" ["value"] kws_is_amount spec_is_amount :=
  fd_of (wb := w_is_amount) F sc_is_amount hm hb hk len_is_amount (fun cdv A0 outer s0 H0 E0 hr => have A := at_cx (P := P) (w := w) (K := K) (mg := mg) (base := base) (N := ["value"]) (outer := outer) (H := H0) (E := E0) hr
   (dss_one (ds_ret (de_and (de_call A (by omega) G_is_fraction (da_cons (de_var 0) da_nil)) (de_one (de_not (de_call A (by omega) G_below (da_cons (de_var 0) (da_cons (de_gc C.NOUGHT) da_nil))))))))) vc_is_amount

theorem sc_step_fault : FnScope ["point", "value", "goal", "feed", "slowest", "stop"] ["point", "value"] (defScope s_step_fault) := ⟨rfl, rfl, rfl, by decide +kernel, rfl, by decide +kernel, by decide +kernel⟩
theorem fd_step_fault (B : Bn mg) (C : Cn K mg) (G_below : Fd P w K mg base SrcA 1 "below" ["one", "other"] kws_below spec_below) (G_is_tuple_of : Fd P w K mg base SrcA 1 "is_tuple_of" ["length", "value"] kws_is_tuple_of spec_is_tuple_of) (G_is_above : Fd P w K mg base SrcA 3 "is_above" ["value"] kws_is_above spec_is_above) (G_is_amount : Fd P w K mg base SrcA 3 "is_amount" ["value"] kws_is_amount spec_is_amount) (G_is_point : Fd P w K mg base SrcA 3 "is_point" ["axes", "value"] kws_is_point spec_is_point) (T : Xn P K mg) {fa : Addr} {fd : FuncData} (F : Fun K "step_fault" "step_fault" s_step_fault fa fd) (hm : mg "step_fault" = some (.ref fa)) (hb : Binds K fd ["point", "value"] []) (hk : ∀ p ∈ kws_step_fault, KwOk fd ["point", "value"] p.1 p.2) : Fd P w K mg base SrcA 4 "step_fault" ["point", "value"] kws_step_fault spec_step_fault :=
  fd_of (wb := w_step_fault) F sc_step_fault hm hb hk len_step_fault (fun cdv A0 outer s0 H0 E0 hr => have A := at_cx (P := P) (w := w) (K := K) (mg := mg) (base := base) (N := ["point", "value", "goal", "feed", "slowest", "stop"]) (outer := outer) (H := H0) (E := E0) hr
   (dss_cons (ds_if (dt_not (dt_val (de_call A (by omega) G_is_tuple_of (da_cons de_int (da_cons (de_var 1) da_nil)))))
    (dss_one (ds_ret (de_tup da_nil)))
    dss_nil)
    (dss_cons (ds_asg (de_var 1) (dg_tup (dgs_cons (dg_name 2 sc_step_fault.nd) (dgs_cons (dg_name 3 sc_step_fault.nd) (dgs_cons (dg_name 4 sc_step_fault.nd) (dgs_cons (dg_name 5 sc_step_fault.nd) dgs_nil))))))
    (dss_cons (ds_if (DW.dt (dw_or (dt_not (dt_val (de_call A (by omega) G_is_point (da_cons (de_cb call_lenE lcb_len B.len (by decide +kernel) (da_cons (de_var 0) da_nil)) (da_cons (de_var 2) da_nil))))) (dw_or1 (dt_cmp (op_eqD A.room.units) lop_eq (de_var 2) (de_var 0) (nomark _)))))
    (dss_one (ds_ret (de_tup (da_cons de_int da_nil))))
    dss_nil)
    (dss_cons (ds_if (dt_not (dt_val (de_call A (by omega) G_is_above (da_cons (de_var 3) da_nil))))
    (dss_one (ds_ret (de_tup (da_cons de_int da_nil))))
    dss_nil)
    (dss_cons (ds_if (DW.dt (dw_or (dt_not (dt_val (de_call A (by omega) G_is_amount (da_cons (de_var 4) da_nil)))) (dw_or1 (dt_val (de_call A (by omega) G_below (da_cons (de_var 3) (da_cons (de_var 4) da_nil)))))))
    (dss_one (ds_ret (de_tup (da_cons de_int da_nil))))
    dss_nil)
    (dss_one (ds_ret (de_if (dt_val (de_isi good_bool B.isinstance B.bool (by decide +kernel) (de_var 5))) de_non (de_tup (da_cons de_int da_nil))))))))))) vc_step_fault

theorem sc_program_fault : FnScope ["value", "point", "start", "steps", "k", "step", "place"] ["value"] (defScope s_program_fault) := ⟨rfl, rfl, rfl, by decide +kernel, rfl, by decide +kernel, by decide +kernel⟩
theorem fd_program_fault (B : Bn mg) (C : Cn K mg) (G_is_tuple_of : Fd P w K mg base SrcA 1 "is_tuple_of" ["length", "value"] kws_is_tuple_of spec_is_tuple_of) (G_is_point : Fd P w K mg base SrcA 3 "is_point" ["axes", "value"] kws_is_point spec_is_point) (G_step_fault : Fd P w K mg base SrcA 4 "step_fault" ["point", "value"] kws_step_fault spec_step_fault) (T : Xn P K mg) {fa : Addr} {fd : FuncData} (F : Fun K "program_fault" "program_fault" s_program_fault fa fd) (hm : mg "program_fault" = some (.ref fa)) (hb : Binds K fd ["value"] []) (hk : ∀ p ∈ kws_program_fault, KwOk fd ["value"] p.1 p.2) : Fd P w K mg base SrcA 5 "program_fault" ["value"] kws_program_fault spec_program_fault :=
  fd_of (wb := w_program_fault) F sc_program_fault hm hb hk len_program_fault (fun cdv A0 outer s0 H0 E0 hr => have A := at_cx (P := P) (w := w) (K := K) (mg := mg) (base := base) (N := ["value", "point", "start", "steps", "k", "step", "place"]) (outer := outer) (H := H0) (E := E0) hr
   (dss_cons (ds_if (dt_not (dt_val (de_call A (by omega) G_is_tuple_of (da_cons de_int (da_cons (de_var 0) da_nil)))))
    (dss_one (ds_ret (de_tup da_nil)))
    dss_nil)
    (dss_cons (ds_asg (de_var 0) (dg_tup (dgs_cons (dg_name 2 sc_program_fault.nd) (dgs_cons (dg_name 3 sc_program_fault.nd) dgs_nil))))
    (dss_cons (ds_if (DW.dt (dw_or (dt_not (dt_val (de_isi good_tuple B.isinstance B.tuple (by decide +kernel) (de_var 2)))) (dw_or (dt_not (dt_chain op_le op_le lop_le lop_le de_int (de_cb call_lenE lcb_len B.len (by decide +kernel) (da_cons (de_var 2) da_nil)) (de_gc C.MOST_AXES))) (dw_or1 (dt_not (dt_val (de_call A (by omega) G_is_point (da_cons (de_cb call_lenE lcb_len B.len (by decide +kernel) (da_cons (de_var 2) da_nil)) (da_cons (de_var 2) da_nil)))))))))
    (dss_one (ds_ret (de_tup (da_cons de_int da_nil))))
    dss_nil)
    (dss_cons (ds_if (DW.dt (dw_or (dt_not (dt_val (de_isi good_tuple B.isinstance B.tuple (by decide +kernel) (de_var 3)))) (dw_or1 (dt_not (dt_chain op_le op_le lop_le lop_le de_int (de_cb call_lenE lcb_len B.len (by decide +kernel) (da_cons (de_var 3) da_nil)) (de_gc C.MOST_STEPS))))))
    (dss_one (ds_ret (de_tup (da_cons de_int da_nil))))
    dss_nil)
    (dss_cons (ds_set 1 sc_program_fault.nd (de_var 2))
    (dss_cons (ds_for PassesOwn.cx (di_enum B.enumerate (de_var 3)) (dg_tup (dgs_cons (dg_name 4 sc_program_fault.nd) (dgs_cons (dg_name 5 sc_program_fault.nd) dgs_nil)))
    (dss_cons (ds_set 6 sc_program_fault.nd (de_call A (by omega) G_step_fault (da_cons (de_var 1) (da_cons (de_var 5) da_nil))))
    (dss_cons (ds_if (dt_notN (de_var 6))
    (dss_one (ds_ret (de_bin op_addD lop_add (de_tup (da_cons de_int (da_cons (de_var 4) da_nil))) (de_var 6))))
    dss_nil)
    (dss_one (ds_set 1 sc_program_fault.nd (de_ix (de_var 5) de_int))))))
    (dss_one (ds_ret de_non))))))))) vc_program_fault

theorem sc_is_program : FnScope ["value"] ["value"] (defScope s_is_program) := ⟨rfl, rfl, rfl, by decide +kernel, rfl, by decide +kernel, by decide +kernel⟩
theorem fd_is_program (B : Bn mg) (C : Cn K mg) (G_program_fault : Fd P w K mg base SrcA 5 "program_fault" ["value"] kws_program_fault spec_program_fault) (T : Xn P K mg) {fa : Addr} {fd : FuncData} (F : Fun K "is_program" "is_program" s_is_program fa fd) (hm : mg "is_program" = some (.ref fa)) (hb : Binds K fd ["value"] []) (hk : ∀ p ∈ kws_is_program, KwOk fd ["value"] p.1 p.2) : Fd P w K mg base SrcA 6 "is_program" ["value"] kws_is_program spec_is_program :=
  fd_of (wb := w_is_program) F sc_is_program hm hb hk len_is_program (fun cdv A0 outer s0 H0 E0 hr => have A := at_cx (P := P) (w := w) (K := K) (mg := mg) (base := base) (N := ["value"]) (outer := outer) (H := H0) (E := E0) hr
   (dss_one (ds_ret (de_isN (de_call A (by omega) G_program_fault (da_cons (de_var 0) da_nil)))))) vc_is_program

theorem sc_check_program : FnScope ["program", "place"] ["program"] (defScope s_check_program) := ⟨rfl, rfl, rfl, by decide +kernel, rfl, by decide +kernel, by decide +kernel⟩
theorem fd_check_program (B : Bn mg) (C : Cn K mg) (G_program_fault : Fd P w K mg base SrcA 5 "program_fault" ["value"] kws_program_fault spec_program_fault) (T : Xn P K mg) {fa : Addr} {fd : FuncData} (F : Fun K "check_program" "check_program" s_check_program fa fd) (hm : mg "check_program" = some (.ref fa)) (hb : Binds K fd ["program"] []) (hk : ∀ p ∈ kws_check_program, KwOk fd ["program"] p.1 p.2) : Fd P w K mg base SrcA 6 "check_program" ["program"] kws_check_program spec_check_program :=
  fd_of (wb := w_check_program) F sc_check_program hm hb hk len_check_program (fun cdv A0 outer s0 H0 E0 hr => have A := at_cx (P := P) (w := w) (K := K) (mg := mg) (base := base) (N := ["program", "place"]) (outer := outer) (H := H0) (E := E0) hr
   (dss_cons (ds_set 1 sc_check_program.nd (de_call A (by omega) G_program_fault (da_cons (de_var 0) da_nil)))
    (dss_one (ds_if (dt_notN (de_var 1))
    (dss_one (ds_raise1 A T.InvalidProgram (de_var 1)))
    dss_nil)))) vc_check_program

theorem sc_path_of : FnScope ["program", "step"] ["program"] (defScope s_path_of) := ⟨rfl, rfl, rfl, by decide +kernel, rfl, by decide +kernel, by decide +kernel⟩
theorem fd_path_of (B : Bn mg) (C : Cn K mg)  (T : Xn P K mg) {fa : Addr} {fd : FuncData} (F : Fun K "path_of" "path_of" s_path_of fa fd) (hm : mg "path_of" = some (.ref fa)) (hb : Binds K fd ["program"] []) (hk : ∀ p ∈ kws_path_of, KwOk fd ["program"] p.1 p.2) : Fd P w K mg base SrcA 1 "path_of" ["program"] kws_path_of spec_path_of :=
  fd_of (wb := w_path_of) F sc_path_of hm hb hk len_path_of (fun cdv A0 outer s0 H0 E0 hr => have A := at_cx (P := P) (w := w) (K := K) (mg := mg) (base := base) (N := ["program", "step"]) (outer := outer) (H := H0) (E := E0) hr
   (dss_one (ds_ret (de_bin op_addD lop_add (de_tup (da_cons (de_ix (de_var 0) de_int) da_nil)) (de_cty call_tuple_of lcb_tuple B.tuple (by decide +kernel) (da_cons (de_ofL (dl_comp (own := [("step", 1)]) rfl sc_path_of.nd (di_seq (de_ix (de_var 0) de_int)) (blkOk_by (own := [("step", 1)]) rfl) (fun s H C cl fp => (dgw_name 1 sc_path_of.nd (by decide))) (fun s H C cl fp => dts_nil) (fun s H C cl fp => (de_ix (de_var 1) de_int)))) da_nil)))))) vc_path_of

theorem sc_path : FnScope ["program"] ["program"] (defScope s_path) := ⟨rfl, rfl, rfl, by decide +kernel, rfl, by decide +kernel, by decide +kernel⟩
theorem fd_path (B : Bn mg) (C : Cn K mg) (G_check_program : Fd P w K mg base SrcA 6 "check_program" ["program"] kws_check_program spec_check_program) (G_path_of : Fd P w K mg base SrcA 1 "path_of" ["program"] kws_path_of spec_path_of) (T : Xn P K mg) {fa : Addr} {fd : FuncData} (F : Fun K "path" "path" s_path fa fd) (hm : mg "path" = some (.ref fa)) (hb : Binds K fd ["program"] []) (hk : ∀ p ∈ kws_path, KwOk fd ["program"] p.1 p.2) : Fd P w K mg base SrcA 7 "path" ["program"] kws_path spec_path :=
  fd_of (wb := w_path) F sc_path hm hb hk len_path (fun cdv A0 outer s0 H0 E0 hr => have A := at_cx (P := P) (w := w) (K := K) (mg := mg) (base := base) (N := ["program"]) (outer := outer) (H := H0) (E := E0) hr
   (dss_cons (ds_drop (de_call A (by omega) G_check_program (da_cons (de_var 0) da_nil)))
    (dss_one (ds_ret (de_call A (by omega) G_path_of (da_cons (de_var 0) da_nil)))))) vc_path

theorem sc_axis_count : FnScope ["program"] ["program"] (defScope s_axis_count) := ⟨rfl, rfl, rfl, by decide +kernel, rfl, by decide +kernel, by decide +kernel⟩
theorem fd_axis_count (B : Bn mg) (C : Cn K mg) (G_check_program : Fd P w K mg base SrcA 6 "check_program" ["program"] kws_check_program spec_check_program) (T : Xn P K mg) {fa : Addr} {fd : FuncData} (F : Fun K "axis_count" "axis_count" s_axis_count fa fd) (hm : mg "axis_count" = some (.ref fa)) (hb : Binds K fd ["program"] []) (hk : ∀ p ∈ kws_axis_count, KwOk fd ["program"] p.1 p.2) : Fd P w K mg base SrcA 7 "axis_count" ["program"] kws_axis_count spec_axis_count :=
  fd_of (wb := w_axis_count) F sc_axis_count hm hb hk len_axis_count (fun cdv A0 outer s0 H0 E0 hr => have A := at_cx (P := P) (w := w) (K := K) (mg := mg) (base := base) (N := ["program"]) (outer := outer) (H := H0) (E := E0) hr
   (dss_cons (ds_drop (de_call A (by omega) G_check_program (da_cons (de_var 0) da_nil)))
    (dss_one (ds_ret (de_cb call_lenE lcb_len B.len (by decide +kernel) (da_cons (de_ix (de_var 0) de_int) da_nil)))))) vc_axis_count

theorem sc__law_tried : FnScope ["value", "sort", "found", "error"] ["value", "sort"] (defScope s__law_tried) := ⟨rfl, rfl, rfl, by decide +kernel, rfl, by decide +kernel, by decide +kernel⟩
theorem fd__law_tried (B : Bn mg) (C : Cn K mg) (G_axis_count : Fd P w K mg base SrcA 7 "axis_count" ["program"] kws_axis_count spec_axis_count) (G_path : Fd P w K mg base SrcA 7 "path" ["program"] kws_path spec_path) (T : Xn P K mg) {fa : Addr} {fd : FuncData} (F : Fun K "_law_tried" "_law_tried" s__law_tried fa fd) (hm : mg "_law_tried" = some (.ref fa)) (hb : Binds K fd ["value", "sort"] []) (hk : ∀ p ∈ kws__law_tried, KwOk fd ["value", "sort"] p.1 p.2) : Fd P w K mg base SrcA 8 "_law_tried" ["value", "sort"] kws__law_tried spec__law_tried :=
  fd_of (wb := w__law_tried) F sc__law_tried hm hb hk len__law_tried (fun cdv A0 outer s0 H0 E0 hr => have A := at_cx (P := P) (w := w) (K := K) (mg := mg) (base := base) (N := ["value", "sort", "found", "error"]) (outer := outer) (H := H0) (E := E0) hr
   (dss_cons (ds_set 2 sc__law_tried.nd de_non)
    (dss_cons (ds_tryD A T.subs sc__law_tried.nd (fun W pn xe hp A => 
    (dss_one (ds_set 2 sc__law_tried.nd (de_if (dt_cmp (op_eqD A.room.units) lop_eq (de_var 1) de_int (nomark _)) (de_callK (ks := ["program"]) (idx := [0]) A (by omega) G_path (by decide) (dk_cons (de_var 0) dk_nil)) (de_callK (ks := ["program"]) (idx := [0]) A (by omega) G_axis_count (by decide) (dk_cons (de_var 0) dk_nil)))))) (.named rfl (by decide) rfl rfl (dsu_asg 3 2 sc__law_tried.nd (dx_lst (dax_cons (dx_fld T.InvalidProgram) dax_nil))) .nil))
    (dss_one (ds_ret (de_var 2)))))) vc__law_tried

end
end DL
set_option linter.all false
set_option autoImplicit false
set_option maxHeartbeats 4000000
set_option maxRecDepth 100000
namespace DL
open PySem PySem.Spec PyProof.Rows L2
section
variable {P : Program} {w : World} {K : PySem.W.Frag} {mg : Str → Option Value} {base : Heap}
theorem sc_law : FnScope ["script", "gear", "turn", "told", "start", "great", "some", "kept", "value", "due", "dues"] ["script"] (defScope s_law) := ⟨rfl, rfl, rfl, by decide +kernel, rfl, by decide +kernel, by decide +kernel⟩
theorem fd_law (B : Bn mg) (C : Cn K mg) (T : Xn P K mg) (G_program_fault : Fd P w K mg base SrcA 5 "program_fault" ["value"] kws_program_fault spec_program_fault) (G_is_program : Fd P w K mg base SrcA 6 "is_program" ["value"] kws_is_program spec_is_program) (G__law_tooth : Fd P w K mg base SrcA 1 "_law_tooth" ["gear", "many"] kws__law_tooth spec__law_tooth) (G__law_same : Fd P w K mg base SrcA 7 "_law_same" ["found", "due"] kws__law_same (spec__law_same 6)) (G__law_spot : Fd P w K mg base SrcA 3 "_law_spot" ["gear", "axes"] kws__law_spot spec__law_spot) (G__law_steps : Fd P w K mg base SrcA 5 "_law_steps" ["gear", "start", "many"] kws__law_steps spec__law_steps) (G__law_program : Fd P w K mg base SrcA 6 "_law_program" ["gear", "many"] kws__law_program spec__law_program) (G__law_trail : Fd P w K mg base SrcA 1 "_law_trail" ["told"] kws__law_trail spec__law_trail) (G__law_program_place : Fd P w K mg base SrcA 5 "_law_program_place" ["value"] kws__law_program_place spec__law_program_place) (G__law_bent : Fd P w K mg base SrcA 11 "_law_bent" ["gear", "value"] kws__law_bent (spec__law_bent 8)) (G__law_tried : Fd P w K mg base SrcA 8 "_law_tried" ["value", "sort"] kws__law_tried spec__law_tried) (G__law_near : Fd P w K mg base SrcA 3 "_law_near" ["gear", "told"] kws__law_near spec__law_near) {fa : Addr} {fd : FuncData} (F : Fun K "law" "law" s_law fa fd) (M : MadeBy P w K mg base SrcA 1 "_law_gear") : RunsAt P w K mg base 12 fa fd (spLaw K) := by
  obtain ⟨f', fd', F', hm', hk', hb'⟩ := M.ex
  exact law_ofR (wb := w_law) (i := 1) (k := 11) F sc_law rfl (fun cdv s0 H0 E0 hr => have A := at_cx (P := P) (w := w) (K := K) (mg := mg) (base := base) (N := ["script", "gear", "turn", "told", "start", "great", "some", "kept", "value", "due", "dues"]) (A := callerA) (outer := []) (H := H0) (E := E0) hr
      ps_set (i := 1) sc_law.nd rfl (by first | exact Or.inl rfl | exact Or.inr rfl) (pe_callS F' (A.room.mono (by omega)) rfl hm' hk' hb' A.pass (pa_cons (pv 0) pa_nil))) rfl (by decide)
    (fun cdv s0 H0 E0 hr => have A := at_cx (P := P) (w := w) (K := K) (mg := mg) (base := base) (N := ["script", "gear", "turn", "told", "start", "great", "some", "kept", "value", "due", "dues"]) (A := callerA) (outer := []) (H := H0) (E := E0) hr
   have Gd : (callerA.deeper (envOfC "law" (defScope s_law) s0.heap.objs.size fa cdv)).guards = some [] := rfl
   (dss_cons (ds_for PassesOwn.cx (di_range1 B.range (de_bin op_addD lop_add de_int (de_cb (call_min2 rfl) lcb_min2 B.min (by decide +kernel) (da_cons de_int (da_cons (de_cb call_lenE lcb_len B.len (by decide +kernel) (da_cons (de_var 0) da_nil)) da_nil))))) (dg_name 2 sc_law.nd)
    (dss_cons (ds_set 3 sc_law.nd (de_call A (by omega) G__law_program (da_src 1 (da_cons (de_ix (de_lst (da_cons de_int (da_cons de_int (da_cons de_int da_nil)))) (de_call A (by omega) G__law_tooth (da_src 1 (da_cons de_int da_nil)))) da_nil))))
    (dss_cons (ds_set 4 sc_law.nd (de_call A (by omega) G__law_spot (da_src 1 (da_cons (de_bin op_addD lop_add de_int (de_call A (by omega) G__law_tooth (da_src 1 (da_cons de_int da_nil)))) da_nil))))
    (dss_cons (ds_set 5 sc_law.nd (de_lst (da_cons (de_tup (da_cons (de_var 4) (da_cons (de_call A (by omega) G__law_steps (da_src 1 (da_cons (de_var 4) (da_cons de_int da_nil)))) da_nil))) (da_cons (de_tup (da_cons (de_var 4) (da_cons (de_call A (by omega) G__law_steps (da_src 1 (da_cons (de_var 4) (da_cons de_int da_nil)))) da_nil))) (da_cons (de_tup (da_cons (de_var 4) (da_cons (de_tup da_nil) da_nil))) (da_cons (de_tup (da_cons (de_bin op_addD lop_add (de_var 4) (de_var 4)) (da_cons (de_ix (de_var 3) de_int) da_nil))) da_nil))))))
    (dss_cons (ds_set 6 sc_law.nd (de_lst (da_cons (de_var 3) (da_cons (de_call A (by omega) G__law_near (da_src 1 (da_cons (de_var 3) da_nil))) (da_cons (de_call A (by omega) G__law_near (da_src 1 (da_cons (de_var 3) da_nil))) (da_cons (de_call A (by omega) G__law_bent (da_src 1 (da_cons (de_var 3) da_nil))) (da_cons (de_call A (by omega) G__law_bent (da_src 1 (da_cons (de_var 3) da_nil))) (da_cons (de_call A (by omega) G__law_bent (da_src 1 (da_cons (de_var 3) da_nil))) (da_cons (de_ofL (dl_cty call_list_of lcl_list B.list (by decide +kernel) (da_cons (de_var 3) da_nil))) (da_cons (de_slice (de_var 3) do_none (do_some de_int)) (da_cons de_non da_nil)))))))))))
    (dss_cons (ds_set 6 sc_law.nd (de_bin op_addD lop_add (de_bin op_addD lop_add (de_var 6) (de_var 5)) (de_lst (da_cons (de_call A (by omega) G__law_bent (da_src 1 (da_cons (de_ix (de_var 6) de_int) da_nil))) (da_cons (de_call A (by omega) G__law_near (da_src 1 (da_cons (de_ix (de_var 6) de_int) da_nil))) (da_cons (de_tup (da_cons (de_tup da_nil) (da_cons (de_ix (de_var 3) de_int) da_nil))) (da_cons (de_tup (da_cons (de_ix (de_var 3) de_int) (da_cons (de_ofL (dl_cty call_list_of lcl_list B.list (by decide +kernel) (da_cons (de_ix (de_var 3) de_int) da_nil))) da_nil))) (da_cons (de_ix (de_var 3) de_int) da_nil))))))))
    (dss_cons (ds_set 7 sc_law.nd (de_cb (call_reprD Gd A.u100) lcb_repr B.repr (by decide +kernel) (da_cons (de_var 6) da_nil)))
    (dss_cons (ds_for PassesOwn.cx (di_seq (de_var 6)) (dg_name 8 sc_law.nd)
    (dss_cons (ds_set 9 sc_law.nd (de_call A (by omega) G__law_program_place (da_cons (de_var 8) da_nil)))
    (dss_cons (ds_if (dt_not (dt_val (de_call A (by omega) G__law_same (da_cons (de_lst (da_cons (de_call A (by omega) G_program_fault (da_cons (de_var 8) da_nil)) (da_cons (de_callK (ks := ["value"]) (idx := [0]) A (by omega) G_program_fault (by decide) (dk_cons (de_var 8) dk_nil)) da_nil))) (da_cons (de_lst (da_cons (de_var 9) (da_cons (de_var 9) da_nil))) da_nil)))))
    (dss_one (ds_ret de_bl))
    dss_nil)
    (dss_cons (ds_if (dt_not (dt_val (de_call A (by omega) G__law_same (da_cons (de_lst (da_cons (de_call A (by omega) G_is_program (da_cons (de_var 8) da_nil)) (da_cons (de_callK (ks := ["value"]) (idx := [0]) A (by omega) G_is_program (by decide) (dk_cons (de_var 8) dk_nil)) da_nil))) (da_cons (de_lst (da_cons (de_isN (de_var 9)) (da_cons (de_isN (de_var 9)) da_nil))) da_nil)))))
    (dss_one (ds_ret de_bl))
    dss_nil)
    (dss_cons (ds_set 10 sc_law.nd (de_if (dt_isN (de_var 9)) (de_lst (da_cons (de_cty call_tuple_of lcb_tuple B.tuple (by decide +kernel) (da_cons (de_call A (by omega) G__law_trail (da_cons (de_var 8) da_nil)) da_nil)) (da_cons (de_cb call_lenE lcb_len B.len (by decide +kernel) (da_cons (de_ix (de_var 8) de_int) da_nil)) da_nil))) (de_lst (da_cons (de_lst (da_cons (de_var 9) da_nil)) (da_cons (de_lst (da_cons (de_var 9) da_nil)) da_nil)))))
    (dss_one (ds_if (dt_not (dt_val (de_call A (by omega) G__law_same (da_cons (de_lst (da_cons (de_call A (by omega) G__law_tried (da_cons (de_var 8) (da_cons de_int da_nil))) (da_cons (de_call A (by omega) G__law_tried (da_cons (de_var 8) (da_cons de_int da_nil))) da_nil))) (da_cons (de_var 10) da_nil)))))
    (dss_one (ds_ret de_bl))
    dss_nil)))))))
    (dss_one (ds_if (DW.dt (dw_or (dt_cmp op_ne lop_neS (de_cb (call_reprD Gd A.u100) lcb_repr B.repr (by decide +kernel) (da_cons (de_var 6) da_nil)) (de_var 7) (nomark _)) (dw_or (dt_notN (de_call A (by omega) G__law_program_place (da_cons (de_var 3) da_nil))) (dw_or1 (dt_notN (de_call A (by omega) G__law_program_place (da_cons (de_ix (de_var 5) de_int) da_nil)))))))
    (dss_one (ds_ret de_bl))
    dss_nil))))))))))
    (dss_one (ds_ret de_bl)))) vc_law
end
end DL
set_option linter.all false
set_option autoImplicit false
set_option maxHeartbeats 2000000
set_option maxRecDepth 100000
namespace DL
open PySem PySem.Spec PyProof.Rows L2
theorem sc__law_tooth : FnScope ["gear", "many", "deep", "found"] ["gear", "many"] (defScope s__law_tooth) := ⟨rfl, rfl, rfl, by decide +kernel, rfl, by decide +kernel, by decide +kernel⟩
section
variable {P : Program} {w : World} {K : PySem.W.Frag} {mg : Str → Option Value} {base : Heap}
theorem fd__law_tooth (mi : mg "int" = none) {f : Addr} {fd : FuncData} (F : Fun K "_law_tooth" "_law_tooth" s__law_tooth f fd) (hm : mg "_law_tooth" = some (.ref f)) (hb : Binds K fd ["gear", "many"] []) : Fd P w K mg base SrcA 1 "_law_tooth" ["gear", "many"] [] spec_draw := by
  have len : ∀ {ss : List SV} {src : Option (Addr × List Addr)} {F0 : Hp} {vs : List V}, ArgsOk K src F0 ss vs → vs.length = ss.length := fun h => h.get.1
  refine ⟨f, fd, F.okX sc__law_tooth (fun vs H Q E h => ?_) (fun cdv A0 outer s0 H0 vs Q E hr h => ?_), hm, F.kp, hb, fun p hp => nomatch hp⟩
  · obtain ⟨src, F0, ss, Qd, Xe, _, _, r, h1, _⟩ := h
    rw [len r]
    exact len_draw _ _ _ h1
  · obtain ⟨src, F0, ss, Qd, Xe, s1, s2, r, h1, q1, q2⟩ := h
    obtain ⟨many, rfl, hpos, hlog, hq⟩ := h1
    obtain ⟨v0, r0, rfl, ⟨a, fp, hsrc, rfl⟩, v1, r1, rfl, e1, e2⟩ := r
    have e1 : v1 = .int many := e1
    have e2 : r1 = [] := e2
    subst e1 e2
    obtain ⟨⟨g, ns, m, t, rfl, at0⟩, fa⟩ := s2 a fp hsrc
    have A := at_cx (P := P) (w := w) (K := K) (mg := mg) (base := base) (N := ["gear", "many", "deep", "found"]) (qual := "_law_tooth") (scope := defScope s__law_tooth) (f := f) (cd := cdv) (A := A0) (outer := outer) (s := s0) (H := H0) (E := E) hr
    refine ⟨_, pss_cons (ps_set (i := 2) sc__law_tooth.nd rfl (.inl rfl) (pe_ix ix_list (pv 0) pe_int (fun _ _ => rfl)))
      (pss_cons (ps_while PassesOwn.cx (pw_and (pt_cmpR (op_neD A.room.units) (pv 2) (pe_lst pa_nil) (nomark _)) (pw_and1 (pt_cmpR op_eq (pe_ix ix_list (pv 2) pe_int (fun _ _ => rfl)) pe_int (nomark _)))).pt
          (pss_one (ps_expr (pe_bm PySem.F.plainAttrs_list PySem.F.slot_list_pop PySem.F.type_list_pop mt_popAt (pv 2) (pa_cons pe_int pa_nil)))))
      (pss_cons (ps_if (pt_cmpR (op_neD A.room.units) (pv 2) (pe_lst pa_nil) (nomark _))
          (pss_cons (ps_set (i := 3) sc__law_tooth.nd rfl (.inl rfl) (pe_op op_mod (pe_callTy call_int1 (by rfl) mi (by decide +kernel) (pa_cons (pe_ix ix_list (pv 2) pe_int (fun _ _ => rfl)) pa_nil)) (pv 1)))
          (pss_cons (ps_asg (pe_op op_fdivNW (pe_ix ix_list (pv 2) pe_int (fun _ _ => rfl)) (pv 1)) (pg_sub (pv 2) pe_int set_list))
          (pss_one (ps_ret (pv 3))))) pss_nil)
      (pss_cons (ps_asg (pe_op op_add (pe_ix ix_list (pv 0) pe_int (fun _ _ => rfl)) pe_int) (pg_sub (pv 0) pe_int set_list))
      (pss_cons (ps_asg (pe_op op_mod (pe_callTy call_int1 (by rfl) mi (by decide +kernel) (pa_cons (pe_op op_add (pe_op op_mulD (pe_ix ix_list (pv 0) pe_int (fun _ _ => rfl)) pe_int) (pe_op op_mulD (pe_ix ix_list (pv 0) pe_int (fun _ _ => rfl)) pe_int)) pa_nil)) (pe_op op_sub (pe_op op_pow pe_int pe_int) pe_int)) (pg_sub (pv 0) pe_int set_list))
      (pss_one (ps_ret (pe_op op_mod (pe_op op_fdivNW (pe_op op_mod (pe_callTy call_int1 (by rfl) mi (by decide +kernel) (pa_cons (pe_op op_add (pe_op op_mulD (pe_ix ix_list (pv 0) pe_int (fun _ _ => rfl)) (pe_ix ix_list (pv 0) pe_int (fun _ _ => rfl))) (pe_op op_fdivNW (pe_ix ix_list (pv 0) pe_int (fun _ _ => rfl)) pe_int)) pa_nil)) (pe_op op_add (pe_op op_pow pe_int pe_int) pe_int)) pe_int) (pv 1)))))))), ?_⟩
    refine ⟨.ref a, rfl, a, _, 0, .ref g, rfl, rfl, at0.list, atI_nat (j := 0) rfl, ?_⟩
    refine ⟨fun k σ H => ∃ ns', σ = [some (.ref a), some (.int many), some (.ref g), none] ∧ ns'.length = k ∧ Drawn H0 H a g ∧ AtA H a g ns' m t, ⟨ns.length, ns, rfl, rfl, ⟨fun b o e _ _ => e⟩, at0⟩, ?_⟩
    rintro k σ H ⟨ns', rfl, hk, dr, at1⟩
    refine cond_A rfl dr at1 fun b H1 hb d1 a1 => ?_
    cases b with
    | true =>
      obtain ⟨r, rfl⟩ := hb rfl
      rw [if_pos rfl]
      refine ⟨_, fun σ' H' z => z, .ref g, rfl, .inl ⟨rfl, _, a1.glist⟩, g, _, 0, 0, .int 0, rfl, rfl, a1.2.2, by decide, by decide, ?_, rfl, r.length, ?_, r, rfl, rfl, d1.setG, a1.setG r⟩
      · simp [seqIndex?]
      · rw [← hk, List.length_cons]
        exact Nat.lt_succ_self _
    | false =>
      rw [if_neg Bool.false_ne_true]
      refine cond_N rfl d1 a1 fun H2 d2 a2 => ?_
      refine ite2 (fun z => ?_) (fun z => ?_)
      · cases ns' with
        | nil => simp at z
        | cons n r =>
          refine ⟨.ref g, rfl, g, _, 0, .int n, rfl, rfl, a2.glist, atI_nat (j := 0) rfl, .inl ⟨n, rfl, .int many, rfl, n, many, rfl, rfl, hpos, ?_⟩⟩
          refine ⟨.ref g, rfl, g, _, 0, .int n, rfl, rfl, a2.glist, atI_nat (j := 0) rfl, .int many, rfl, n, many, rfl, rfl, ⟨Int.ne_of_gt hpos, hlog⟩, ?_⟩
          refine ⟨.ref g, rfl, g, _, 0, 0, rfl, rfl, a2.2.2, by simp [ixN], ?_⟩
          have a3 := a2.setG (n.fdiv many :: r)
          exact ⟨.int (n % many), rfl, q1 (.d (.int (n % many))) _ F0 _ (hq _ (Int.emod_nonneg _ (Int.ne_of_gt hpos)) (Int.emod_lt_of_pos _ hpos)) (Drawn.after hsrc s1 fa d2.setG a3) rfl⟩
      · refine ⟨.ref a, rfl, a, _, 2, .int t, rfl, rfl, a2.list, atI_nat (j := 2) rfl, t, 1, rfl, rfl, .ref a, rfl, a, _, 2, 2, rfl, rfl, a2.2.1, rfl, ?_⟩
        have a3 := a2.setA m (t + 1)
        have d3 : Drawn H0 _ a g := d2.setA (o := .lst [.ref g, .int m, .int (t + 1)])
        refine ⟨.ref a, rfl, a, _, 1, .int m, rfl, rfl, a3.list, atI_nat (j := 1) rfl, m, 6364136223846793005, rfl, rfl, .inr (.inl (by decide)),
          .ref a, rfl, a, _, 2, .int (t + 1), rfl, rfl, a3.list, atI_nat (j := 2) rfl, t + 1, 1442695040888963407, rfl, rfl, .inr (.inl (by decide)), _, _, rfl, rfl, .inl ⟨_, rfl, 2, 61, rfl, rfl, (show (0 : Int) ≤ 61 ∧ (61 : Int) ≤ 1000000 ∧ (2 : Int).natAbs < 2 ^ 64 by decide), _, 1, rfl, rfl, _, 2 ^ (61 : Int).toNat - 1, rfl, rfl, (by decide : (0 : Int) < 2 ^ (61 : Int).toNat - 1),
          .ref a, rfl, a, _, 1, 1, rfl, rfl, a3.2.1, rfl, ?_⟩⟩
        have a4 := a3.setA ((m * 6364136223846793005 + (t + 1) * 1442695040888963407) % (2 ^ (61 : Int).toNat - 1)) (t + 1)
        have d4 : Drawn H0 _ a g := d3.setA (o := .lst [.ref g, .int ((m * 6364136223846793005 + (t + 1) * 1442695040888963407) % (2 ^ (61 : Int).toNat - 1)), .int (t + 1)])
        have b0 : (2 : Int) ^ (61 : Int).toNat - 1 = 2305843009213693951 := by decide
        refine ⟨.ref a, rfl, a, _, 1, .int _, rfl, rfl, a4.list, atI_nat (j := 1) rfl, .ref a, rfl, a, _, 1, .int _, rfl, rfl, a4.list (K := K), atI_nat (j := 1) rfl, _, _, rfl, rfl, .inl (by show (((m * 6364136223846793005 + (t + 1) * 1442695040888963407) % (2 ^ (61 : Int).toNat - 1))).natAbs < _; rw [b0]; omega),
          .ref a, rfl, a, _, 1, .int _, rfl, rfl, a4.list (K := K), atI_nat (j := 1) rfl, _, 8192, rfl, rfl, ⟨by decide, by decide⟩, _, _, rfl, rfl, .inl ⟨_, rfl, 2, 59, rfl, rfl, (show (0 : Int) ≤ 59 ∧ (59 : Int) ≤ 1000000 ∧ (2 : Int).natAbs < 2 ^ 64 by decide), _, 131, rfl, rfl, _, 2 ^ (59 : Int).toNat + 131, rfl, rfl, (by decide : (0 : Int) < 2 ^ (59 : Int).toNat + 131),
          _, 65536, rfl, rfl, ⟨by decide, by decide⟩, .int many, rfl, _, many, rfl, rfl, hpos, ?_⟩⟩
        exact q1 (.d (.int _)) _ F0 _ (hq _ (Int.emod_nonneg _ (Int.ne_of_gt hpos)) (Int.emod_lt_of_pos _ hpos)) (Drawn.after hsrc s1 fa d4 a4) rfl
/-! ### the source is made -/
def w__law_gear : SW := (sSeq (sSetL 1 (lComp (iSeq (wVar 0)) (gNm 3) (DL.tB (wBin bGe (wVar 3) (wBin bPow (wC (.int 10)) (wC (.int 18))))) (wBin bSub (wVar 3) (wBin bPow (wC (.int 10)) (wC (.int 18)))) [3]))
  (sSeq (sAsg (wBin bAdd (wC (.int 6841)) (wBin bMul (wC (.int 13)) (wCB bLen (wCons (wVar 0) wNil)))) (gNm 2))
  (sFor (iSeq (wVar 0)) (gNm 3)
  (sAsg (wBin bMod (wCB bInt (wCons (wBin bAdd (wBin bAdd (wBin bMul (wVar 2) (wC (.int 40692))) (wBin bMul (wVar 3) (wC (.int 68111)))) (wC (.int 17))) wNil)) (wBin bSub (wBin bPow (wC (.int 2)) (wC (.int 61))) (wC (.int 1)))) (gNm 2)))))
theorem vc__law_gear {X : XD} {DD : DEnds} {ns : List Int} (hl : ns.length ≤ 63) (q : ∀ (gs : List Int) (m : Int) (u : SV), DD.nx [.d (.lst (ns.map D.int)), .own (gs.map D.int), .d (.int m), u]) : w__law_gear X DD [.d (.lst (ns.map D.int)), .un, .un, .un] := by
  refine compGo_filt (fun x o => ∀ y, o = some y → ∃ i : Int, y = .int i) _ _ (fun x hx Q' N q1 q2 => ?_) (by simp; omega) fun ys hy => ?_
  · obtain ⟨i, hi, rfl⟩ := List.mem_map.mp hx
    refine ⟨by decide, ?_⟩
    refine ite2 (fun _ => ?_) fun _ => q2 fun y e => nomatch e
    exact ⟨by decide, q1 _ fun y e => ⟨_, (Option.some.inj e).symm⟩⟩
  · obtain ⟨gs, e⟩ := ints_of (xs := ys) (Filt.all hy fun x y _ r => r y rfl)
    rw [List.nil_append, e]
    refine ⟨.inl (by decide), ?_⟩
    refine forGo_inv (fun r ρ => (∀ x ∈ r, ∃ i : Int, x = .int i) ∧ ∃ (m : Int) (u : SV), ρ = [.d (.lst (ns.map D.int)), .own (gs.map D.int), .d (.int m), u]) ?_ ?_ _ _ ⟨?_, _, _, rfl⟩
    · rintro x r ρ ⟨hr, m, u, rfl⟩ N hN
      obtain ⟨i, rfl⟩ := hr _ List.mem_cons_self
      refine ⟨.inr (.inl (by decide)), .inr (.inl (by decide)), by decide, (by decide : (0 : Int) < 2 ^ (61 : Int).toNat - 1), ?_⟩
      exact hN _ ⟨fun y hy => hr y (List.mem_cons_of_mem _ hy), _, _, rfl⟩
    · rintro ρ ⟨_, m, u, rfl⟩
      exact q gs m u
    · intro x hx
      obtain ⟨i, hi, rfl⟩ := List.mem_map.mp hx
      exact ⟨i, rfl⟩
theorem sc__law_gear : FnScope ["script", "deep", "oil", "cell"] ["script"] (defScope s__law_gear) := ⟨rfl, rfl, rfl, by decide +kernel, rfl, by decide +kernel, by decide +kernel⟩
theorem repInts {F : Hp} : ∀ {ns : List Int} {vs : List V}, RepL K F (ns.map D.int) vs → vs = ns.map V.int
  | [], vs, h => h
  | n :: ns, vs, h => by
    obtain ⟨v, r, rfl, h1, h2⟩ := h
    have h1 : v = .int n := h1
    rw [h1, repInts h2]
    rfl
theorem ok__law_gear (mi : mg "int" = none) (ml : mg "len" = none) {f : Addr} {fd : FuncData} (F : Fun K "_law_gear" "_law_gear" s__law_gear f fd) : FnOk P w K mg base (L2.CX P w) 1 f fd ["script"] (spNew SrcA K) := by
  refine F.okX sc__law_gear (fun vs H Q E h => ?_) (fun cdv A0 outer s0 H0 vs Q E hr h => ?_)
  · obtain ⟨a, F0, ns, rfl, _⟩ := h
    rfl
  · obtain ⟨a, F0, ns, rfl, hs, hrep, hlen, q⟩ := h
    have A := at_cx (P := P) (w := w) (K := K) (mg := mg) (base := base) (N := ["script", "deep", "oil", "cell"]) (qual := "_law_gear") (scope := defScope s__law_gear) (f := f) (cd := cdv) (A := A0) (outer := outer) (s := s0) (H := H0) (E := E) hr
    obtain ⟨t, p, l⟩ : DSx SrcA (cxOf (L2.CX P w) P w K mg base ["script", "deep", "oil", "cell"] "_law_gear" (defScope s__law_gear) f cdv A0 outer s0 H0 E) (fun _ => E) (defBody s__law_gear) w__law_gear _ :=
      dsx_cons (ds_setLc 1 sc__law_gear.nd (di_seq (de_var 0)) (blkOk_by (own := [("cell", 3)]) rfl) (fun s H C cl fp => (dgw_name 3 sc__law_gear.nd (by decide))) (fun s H C cl fp => (dts_one (dt_cmp op_ge lop_ge (de_var 3) (de_bin op_pow lop_pow de_int de_int) (nomark _)))) (fun s H C cl fp => (de_bin op_sub lop_sub (de_var 3) (de_bin op_pow lop_pow de_int de_int))) (sw_true rfl rfl rfl (by decide +kernel)))
        (dsx_cons (ds_set 2 sc__law_gear.nd (de_bin op_addD lop_add de_int (de_bin op_mulD lop_mul de_int (de_cb call_lenE lcb_len ml (by decide +kernel) (da_cons (de_var 0) da_nil)))))
        (dsx_last (ds_for PassesOwn.cx (di_seq (de_var 0)) (dg_name 3 sc__law_gear.nd)
        (dss_one (ds_set 2 sc__law_gear.nd (de_bin op_mod lop_mod (de_cty call_int1 lcb_int mi (by decide +kernel) (da_cons (de_bin op_addD lop_add (de_bin op_addD lop_add (de_bin op_mulD lop_mul (de_var 2) de_int) (de_bin op_mulD lop_mul (de_var 3) de_int)) de_int) da_nil)) (de_bin op_sub lop_sub (de_bin op_pow lop_pow de_int de_int) de_int)))))
      (pss_one (ps_ret (pe_lst (pa_cons (pv 1) (pa_cons (pv 2) (pa_cons pe_int pa_nil))))))))
    refine ⟨t, p, ?_⟩
    have e0 : EnvOk SrcA K ⟨none, F0, H0⟩ F0 H0 (L2.start ["script", "deep", "oil", "cell"] [.ref a]) [.d (.lst (ns.map D.int)), .un, .un, .un] :=
      env_start (src := none) (ss := [.d (.lst (ns.map D.int))]) hs (fun _ _ z => nomatch z) ⟨_, [], rfl, hrep, rfl⟩ (by simp)
    refine l ⟨none, F0, H0⟩ F0 H0 _ _ (fun _ _ => False) { nx := fun ρ => ∃ (gs : List Int) (m : Int) (u : SV), ρ = [.d (.lst (ns.map D.int)), .own (gs.map D.int), .d (.int m), u], rt := fun _ => False } _ e0 elk0 (vc__law_gear hlen fun gs m u => ⟨gs, m, u, rfl⟩) ⟨fun σ ρ F' H' hx e1 sF nx => ?_, fun _ _ _ _ _ _ z => z.elim, fun _ _ _ _ z => z.elim, fun _ _ _ _ z => z.elim⟩
    obtain ⟨gs, m, u, rfl⟩ := hx
    obtain ⟨g, vs, h1, h2, h3, h4, h5⟩ := e1.own_at (i := 1) rfl
    have h5 := repInts h5
    subst h5
    obtain ⟨o, k1, v, k2, k3⟩ := e1.slot 2 _ rfl
    have k3 : v = .int m := k3
    subst k2 k3
    refine ⟨.ref g, h1, .int m, k1, by show 3 ≤ sizeLine; decide, fun p hp => ?_⟩
    have hpg : p ≠ g := fun z => by rw [z, h4] at hp; cases hp
    refine q F' _ p [p, g] sF (fun b o hb => ?_) (fun b o hb => ?_) ⟨g, gs, m, 0, rfl, hpg, upd_same, by rw [upd_ne (Ne.symm hpg)]; exact h4⟩ fun b hb => ?_
    · have := e1.fh b o hb
      rw [upd_ne (ne_of_none this hp)]
      exact this
    · have := e1.keep b o hb (fun z => nomatch z)
      rw [upd_ne (ne_of_none this hp)]
      exact this
    · have hb : b = p ∨ b = g := by simpa using hb
      rcases hb with z | z
      · rw [z]
        exact ⟨e1.fh.free hp, e1.h0 hp⟩
      · rw [z]
        exact ⟨h2, h3⟩
end
end DL
set_option linter.all false
set_option autoImplicit false
set_option maxHeartbeats 4000000
set_option maxRecDepth 100000
namespace DL
open PySem PySem.Spec PyProof.Rows L2
theorem all_mk {l : PySem.W.OpenLaw} {w : World} {K : PySem.W.Frag} {h : Heap} {mg : Str → Option Value} {fa : Addr} {f__law_gear f__law_low f__law_tooth f__law_add f__law_spot f__law_mul f__law_next f__law_take f__law_steps f__law_program f__law_pick f__law_trail f__law_near f__law_bent f__law_is_fraction f__law_is_above f__law_under f__law_is_spot f__law_step_place f__law_program_place f__law_same f_is_tuple_of f_is_integer f_common f_is_fraction f_below f_is_above f_is_point f_is_amount f_step_fault f_program_fault f_is_program f_check_program f_path_of f_path f_axis_count f__law_tried f_law : Addr} (X : K.In h) (G : h.Ns mainGlobals mg) (hfa : mg "law" = some (.ref fa))
    {od__law_gear an__law_gear : Option Addr} {sl__law_gear : Array (Option Value)} {oc__law_gear kV__law_gear dc__law_gear pm__law_gear cd__law_gear ct__law_gear : Value}
    (a__law_gear : PySem.W.nsIn K mainGlobals "_law_gear" = some (some (.ref f__law_gear))) (l__law_gear : K.lookup f__law_gear = some ⟨oc__law_gear, od__law_gear, .func (PySem.W.fnOf "_law_gear" "_law_gear" (defArgs s__law_gear) (defBody s__law_gear) (defScope s__law_gear) .none kV__law_gear dc__law_gear pm__law_gear an__law_gear cd__law_gear ct__law_gear), sl__law_gear⟩) (c__law_gear : PySem.W.codeIn K cd__law_gear "_law_gear" = true) (k__law_gear : PySem.W.keepIn K (.ref f__law_gear) = true)
    {od__law_low an__law_low : Option Addr} {sl__law_low : Array (Option Value)} {oc__law_low kV__law_low dc__law_low pm__law_low cd__law_low ct__law_low : Value}
    (a__law_low : PySem.W.nsIn K mainGlobals "_law_low" = some (some (.ref f__law_low))) (l__law_low : K.lookup f__law_low = some ⟨oc__law_low, od__law_low, .func (PySem.W.fnOf "_law_low" "_law_low" (defArgs s__law_low) (defBody s__law_low) (defScope s__law_low) .none kV__law_low dc__law_low pm__law_low an__law_low cd__law_low ct__law_low), sl__law_low⟩) (c__law_low : PySem.W.codeIn K cd__law_low "_law_low" = true) (k__law_low : PySem.W.keepIn K (.ref f__law_low) = true)
    {od__law_tooth an__law_tooth : Option Addr} {sl__law_tooth : Array (Option Value)} {oc__law_tooth kV__law_tooth dc__law_tooth pm__law_tooth cd__law_tooth ct__law_tooth : Value}
    (a__law_tooth : PySem.W.nsIn K mainGlobals "_law_tooth" = some (some (.ref f__law_tooth))) (l__law_tooth : K.lookup f__law_tooth = some ⟨oc__law_tooth, od__law_tooth, .func (PySem.W.fnOf "_law_tooth" "_law_tooth" (defArgs s__law_tooth) (defBody s__law_tooth) (defScope s__law_tooth) .none kV__law_tooth dc__law_tooth pm__law_tooth an__law_tooth cd__law_tooth ct__law_tooth), sl__law_tooth⟩) (c__law_tooth : PySem.W.codeIn K cd__law_tooth "_law_tooth" = true) (k__law_tooth : PySem.W.keepIn K (.ref f__law_tooth) = true)
    {od__law_add an__law_add : Option Addr} {sl__law_add : Array (Option Value)} {oc__law_add kV__law_add dc__law_add pm__law_add cd__law_add ct__law_add : Value}
    (a__law_add : PySem.W.nsIn K mainGlobals "_law_add" = some (some (.ref f__law_add))) (l__law_add : K.lookup f__law_add = some ⟨oc__law_add, od__law_add, .func (PySem.W.fnOf "_law_add" "_law_add" (defArgs s__law_add) (defBody s__law_add) (defScope s__law_add) .none kV__law_add dc__law_add pm__law_add an__law_add cd__law_add ct__law_add), sl__law_add⟩) (c__law_add : PySem.W.codeIn K cd__law_add "_law_add" = true) (k__law_add : PySem.W.keepIn K (.ref f__law_add) = true)
    {od__law_spot an__law_spot : Option Addr} {sl__law_spot : Array (Option Value)} {oc__law_spot kV__law_spot dc__law_spot pm__law_spot cd__law_spot ct__law_spot : Value}
    (a__law_spot : PySem.W.nsIn K mainGlobals "_law_spot" = some (some (.ref f__law_spot))) (l__law_spot : K.lookup f__law_spot = some ⟨oc__law_spot, od__law_spot, .func (PySem.W.fnOf "_law_spot" "_law_spot" (defArgs s__law_spot) (defBody s__law_spot) (defScope s__law_spot) .none kV__law_spot dc__law_spot pm__law_spot an__law_spot cd__law_spot ct__law_spot), sl__law_spot⟩) (c__law_spot : PySem.W.codeIn K cd__law_spot "_law_spot" = true) (k__law_spot : PySem.W.keepIn K (.ref f__law_spot) = true)
    {od__law_mul an__law_mul : Option Addr} {sl__law_mul : Array (Option Value)} {oc__law_mul kV__law_mul dc__law_mul pm__law_mul cd__law_mul ct__law_mul : Value}
    (a__law_mul : PySem.W.nsIn K mainGlobals "_law_mul" = some (some (.ref f__law_mul))) (l__law_mul : K.lookup f__law_mul = some ⟨oc__law_mul, od__law_mul, .func (PySem.W.fnOf "_law_mul" "_law_mul" (defArgs s__law_mul) (defBody s__law_mul) (defScope s__law_mul) .none kV__law_mul dc__law_mul pm__law_mul an__law_mul cd__law_mul ct__law_mul), sl__law_mul⟩) (c__law_mul : PySem.W.codeIn K cd__law_mul "_law_mul" = true) (k__law_mul : PySem.W.keepIn K (.ref f__law_mul) = true)
    {od__law_next an__law_next : Option Addr} {sl__law_next : Array (Option Value)} {oc__law_next kV__law_next dc__law_next pm__law_next cd__law_next ct__law_next : Value}
    (a__law_next : PySem.W.nsIn K mainGlobals "_law_next" = some (some (.ref f__law_next))) (l__law_next : K.lookup f__law_next = some ⟨oc__law_next, od__law_next, .func (PySem.W.fnOf "_law_next" "_law_next" (defArgs s__law_next) (defBody s__law_next) (defScope s__law_next) .none kV__law_next dc__law_next pm__law_next an__law_next cd__law_next ct__law_next), sl__law_next⟩) (c__law_next : PySem.W.codeIn K cd__law_next "_law_next" = true) (k__law_next : PySem.W.keepIn K (.ref f__law_next) = true)
    {od__law_take an__law_take : Option Addr} {sl__law_take : Array (Option Value)} {oc__law_take kV__law_take dc__law_take pm__law_take cd__law_take ct__law_take : Value}
    (a__law_take : PySem.W.nsIn K mainGlobals "_law_take" = some (some (.ref f__law_take))) (l__law_take : K.lookup f__law_take = some ⟨oc__law_take, od__law_take, .func (PySem.W.fnOf "_law_take" "_law_take" (defArgs s__law_take) (defBody s__law_take) (defScope s__law_take) .none kV__law_take dc__law_take pm__law_take an__law_take cd__law_take ct__law_take), sl__law_take⟩) (c__law_take : PySem.W.codeIn K cd__law_take "_law_take" = true) (k__law_take : PySem.W.keepIn K (.ref f__law_take) = true)
    {od__law_steps an__law_steps : Option Addr} {sl__law_steps : Array (Option Value)} {oc__law_steps kV__law_steps dc__law_steps pm__law_steps cd__law_steps ct__law_steps : Value}
    (a__law_steps : PySem.W.nsIn K mainGlobals "_law_steps" = some (some (.ref f__law_steps))) (l__law_steps : K.lookup f__law_steps = some ⟨oc__law_steps, od__law_steps, .func (PySem.W.fnOf "_law_steps" "_law_steps" (defArgs s__law_steps) (defBody s__law_steps) (defScope s__law_steps) .none kV__law_steps dc__law_steps pm__law_steps an__law_steps cd__law_steps ct__law_steps), sl__law_steps⟩) (c__law_steps : PySem.W.codeIn K cd__law_steps "_law_steps" = true) (k__law_steps : PySem.W.keepIn K (.ref f__law_steps) = true)
    {od__law_program an__law_program : Option Addr} {sl__law_program : Array (Option Value)} {oc__law_program kV__law_program dc__law_program pm__law_program cd__law_program ct__law_program : Value}
    (a__law_program : PySem.W.nsIn K mainGlobals "_law_program" = some (some (.ref f__law_program))) (l__law_program : K.lookup f__law_program = some ⟨oc__law_program, od__law_program, .func (PySem.W.fnOf "_law_program" "_law_program" (defArgs s__law_program) (defBody s__law_program) (defScope s__law_program) .none kV__law_program dc__law_program pm__law_program an__law_program cd__law_program ct__law_program), sl__law_program⟩) (c__law_program : PySem.W.codeIn K cd__law_program "_law_program" = true) (k__law_program : PySem.W.keepIn K (.ref f__law_program) = true)
    {od__law_pick an__law_pick : Option Addr} {sl__law_pick : Array (Option Value)} {oc__law_pick kV__law_pick dc__law_pick pm__law_pick cd__law_pick ct__law_pick : Value}
    (a__law_pick : PySem.W.nsIn K mainGlobals "_law_pick" = some (some (.ref f__law_pick))) (l__law_pick : K.lookup f__law_pick = some ⟨oc__law_pick, od__law_pick, .func (PySem.W.fnOf "_law_pick" "_law_pick" (defArgs s__law_pick) (defBody s__law_pick) (defScope s__law_pick) .none kV__law_pick dc__law_pick pm__law_pick an__law_pick cd__law_pick ct__law_pick), sl__law_pick⟩) (c__law_pick : PySem.W.codeIn K cd__law_pick "_law_pick" = true) (k__law_pick : PySem.W.keepIn K (.ref f__law_pick) = true)
    {od__law_trail an__law_trail : Option Addr} {sl__law_trail : Array (Option Value)} {oc__law_trail kV__law_trail dc__law_trail pm__law_trail cd__law_trail ct__law_trail : Value}
    (a__law_trail : PySem.W.nsIn K mainGlobals "_law_trail" = some (some (.ref f__law_trail))) (l__law_trail : K.lookup f__law_trail = some ⟨oc__law_trail, od__law_trail, .func (PySem.W.fnOf "_law_trail" "_law_trail" (defArgs s__law_trail) (defBody s__law_trail) (defScope s__law_trail) .none kV__law_trail dc__law_trail pm__law_trail an__law_trail cd__law_trail ct__law_trail), sl__law_trail⟩) (c__law_trail : PySem.W.codeIn K cd__law_trail "_law_trail" = true) (k__law_trail : PySem.W.keepIn K (.ref f__law_trail) = true)
    {od__law_near an__law_near : Option Addr} {sl__law_near : Array (Option Value)} {oc__law_near kV__law_near dc__law_near pm__law_near cd__law_near ct__law_near : Value}
    (a__law_near : PySem.W.nsIn K mainGlobals "_law_near" = some (some (.ref f__law_near))) (l__law_near : K.lookup f__law_near = some ⟨oc__law_near, od__law_near, .func (PySem.W.fnOf "_law_near" "_law_near" (defArgs s__law_near) (defBody s__law_near) (defScope s__law_near) .none kV__law_near dc__law_near pm__law_near an__law_near cd__law_near ct__law_near), sl__law_near⟩) (c__law_near : PySem.W.codeIn K cd__law_near "_law_near" = true) (k__law_near : PySem.W.keepIn K (.ref f__law_near) = true)
    {od__law_bent an__law_bent : Option Addr} {sl__law_bent : Array (Option Value)} {oc__law_bent kV__law_bent dc__law_bent pm__law_bent cd__law_bent ct__law_bent : Value}
    (a__law_bent : PySem.W.nsIn K mainGlobals "_law_bent" = some (some (.ref f__law_bent))) (l__law_bent : K.lookup f__law_bent = some ⟨oc__law_bent, od__law_bent, .func (PySem.W.fnOf "_law_bent" "_law_bent" (defArgs s__law_bent) (defBody s__law_bent) (defScope s__law_bent) .none kV__law_bent dc__law_bent pm__law_bent an__law_bent cd__law_bent ct__law_bent), sl__law_bent⟩) (c__law_bent : PySem.W.codeIn K cd__law_bent "_law_bent" = true) (k__law_bent : PySem.W.keepIn K (.ref f__law_bent) = true)
    {od__law_is_fraction an__law_is_fraction : Option Addr} {sl__law_is_fraction : Array (Option Value)} {oc__law_is_fraction kV__law_is_fraction dc__law_is_fraction pm__law_is_fraction cd__law_is_fraction ct__law_is_fraction : Value}
    (a__law_is_fraction : PySem.W.nsIn K mainGlobals "_law_is_fraction" = some (some (.ref f__law_is_fraction))) (l__law_is_fraction : K.lookup f__law_is_fraction = some ⟨oc__law_is_fraction, od__law_is_fraction, .func (PySem.W.fnOf "_law_is_fraction" "_law_is_fraction" (defArgs s__law_is_fraction) (defBody s__law_is_fraction) (defScope s__law_is_fraction) .none kV__law_is_fraction dc__law_is_fraction pm__law_is_fraction an__law_is_fraction cd__law_is_fraction ct__law_is_fraction), sl__law_is_fraction⟩) (c__law_is_fraction : PySem.W.codeIn K cd__law_is_fraction "_law_is_fraction" = true) (k__law_is_fraction : PySem.W.keepIn K (.ref f__law_is_fraction) = true)
    {od__law_is_above an__law_is_above : Option Addr} {sl__law_is_above : Array (Option Value)} {oc__law_is_above kV__law_is_above dc__law_is_above pm__law_is_above cd__law_is_above ct__law_is_above : Value}
    (a__law_is_above : PySem.W.nsIn K mainGlobals "_law_is_above" = some (some (.ref f__law_is_above))) (l__law_is_above : K.lookup f__law_is_above = some ⟨oc__law_is_above, od__law_is_above, .func (PySem.W.fnOf "_law_is_above" "_law_is_above" (defArgs s__law_is_above) (defBody s__law_is_above) (defScope s__law_is_above) .none kV__law_is_above dc__law_is_above pm__law_is_above an__law_is_above cd__law_is_above ct__law_is_above), sl__law_is_above⟩) (c__law_is_above : PySem.W.codeIn K cd__law_is_above "_law_is_above" = true) (k__law_is_above : PySem.W.keepIn K (.ref f__law_is_above) = true)
    {od__law_under an__law_under : Option Addr} {sl__law_under : Array (Option Value)} {oc__law_under kV__law_under dc__law_under pm__law_under cd__law_under ct__law_under : Value}
    (a__law_under : PySem.W.nsIn K mainGlobals "_law_under" = some (some (.ref f__law_under))) (l__law_under : K.lookup f__law_under = some ⟨oc__law_under, od__law_under, .func (PySem.W.fnOf "_law_under" "_law_under" (defArgs s__law_under) (defBody s__law_under) (defScope s__law_under) .none kV__law_under dc__law_under pm__law_under an__law_under cd__law_under ct__law_under), sl__law_under⟩) (c__law_under : PySem.W.codeIn K cd__law_under "_law_under" = true) (k__law_under : PySem.W.keepIn K (.ref f__law_under) = true)
    {od__law_is_spot an__law_is_spot : Option Addr} {sl__law_is_spot : Array (Option Value)} {oc__law_is_spot kV__law_is_spot dc__law_is_spot pm__law_is_spot cd__law_is_spot ct__law_is_spot : Value}
    (a__law_is_spot : PySem.W.nsIn K mainGlobals "_law_is_spot" = some (some (.ref f__law_is_spot))) (l__law_is_spot : K.lookup f__law_is_spot = some ⟨oc__law_is_spot, od__law_is_spot, .func (PySem.W.fnOf "_law_is_spot" "_law_is_spot" (defArgs s__law_is_spot) (defBody s__law_is_spot) (defScope s__law_is_spot) .none kV__law_is_spot dc__law_is_spot pm__law_is_spot an__law_is_spot cd__law_is_spot ct__law_is_spot), sl__law_is_spot⟩) (c__law_is_spot : PySem.W.codeIn K cd__law_is_spot "_law_is_spot" = true) (k__law_is_spot : PySem.W.keepIn K (.ref f__law_is_spot) = true)
    {od__law_step_place an__law_step_place : Option Addr} {sl__law_step_place : Array (Option Value)} {oc__law_step_place kV__law_step_place dc__law_step_place pm__law_step_place cd__law_step_place ct__law_step_place : Value}
    (a__law_step_place : PySem.W.nsIn K mainGlobals "_law_step_place" = some (some (.ref f__law_step_place))) (l__law_step_place : K.lookup f__law_step_place = some ⟨oc__law_step_place, od__law_step_place, .func (PySem.W.fnOf "_law_step_place" "_law_step_place" (defArgs s__law_step_place) (defBody s__law_step_place) (defScope s__law_step_place) .none kV__law_step_place dc__law_step_place pm__law_step_place an__law_step_place cd__law_step_place ct__law_step_place), sl__law_step_place⟩) (c__law_step_place : PySem.W.codeIn K cd__law_step_place "_law_step_place" = true) (k__law_step_place : PySem.W.keepIn K (.ref f__law_step_place) = true)
    {od__law_program_place an__law_program_place : Option Addr} {sl__law_program_place : Array (Option Value)} {oc__law_program_place kV__law_program_place dc__law_program_place pm__law_program_place cd__law_program_place ct__law_program_place : Value}
    (a__law_program_place : PySem.W.nsIn K mainGlobals "_law_program_place" = some (some (.ref f__law_program_place))) (l__law_program_place : K.lookup f__law_program_place = some ⟨oc__law_program_place, od__law_program_place, .func (PySem.W.fnOf "_law_program_place" "_law_program_place" (defArgs s__law_program_place) (defBody s__law_program_place) (defScope s__law_program_place) .none kV__law_program_place dc__law_program_place pm__law_program_place an__law_program_place cd__law_program_place ct__law_program_place), sl__law_program_place⟩) (c__law_program_place : PySem.W.codeIn K cd__law_program_place "_law_program_place" = true) (k__law_program_place : PySem.W.keepIn K (.ref f__law_program_place) = true)
    {od__law_same an__law_same : Option Addr} {sl__law_same : Array (Option Value)} {oc__law_same kV__law_same dc__law_same pm__law_same cd__law_same ct__law_same : Value}
    (a__law_same : PySem.W.nsIn K mainGlobals "_law_same" = some (some (.ref f__law_same))) (l__law_same : K.lookup f__law_same = some ⟨oc__law_same, od__law_same, .func (PySem.W.fnOf "_law_same" "_law_same" (defArgs s__law_same) (defBody s__law_same) (defScope s__law_same) .none kV__law_same dc__law_same pm__law_same an__law_same cd__law_same ct__law_same), sl__law_same⟩) (c__law_same : PySem.W.codeIn K cd__law_same "_law_same" = true) (k__law_same : PySem.W.keepIn K (.ref f__law_same) = true)
    {od_is_tuple_of an_is_tuple_of : Option Addr} {sl_is_tuple_of : Array (Option Value)} {oc_is_tuple_of kV_is_tuple_of dc_is_tuple_of pm_is_tuple_of cd_is_tuple_of ct_is_tuple_of : Value}
    (a_is_tuple_of : PySem.W.nsIn K mainGlobals "is_tuple_of" = some (some (.ref f_is_tuple_of))) (l_is_tuple_of : K.lookup f_is_tuple_of = some ⟨oc_is_tuple_of, od_is_tuple_of, .func (PySem.W.fnOf "is_tuple_of" "is_tuple_of" (defArgs s_is_tuple_of) (defBody s_is_tuple_of) (defScope s_is_tuple_of) .none kV_is_tuple_of dc_is_tuple_of pm_is_tuple_of an_is_tuple_of cd_is_tuple_of ct_is_tuple_of), sl_is_tuple_of⟩) (c_is_tuple_of : PySem.W.codeIn K cd_is_tuple_of "is_tuple_of" = true) (k_is_tuple_of : PySem.W.keepIn K (.ref f_is_tuple_of) = true)
    {od_is_integer an_is_integer : Option Addr} {sl_is_integer : Array (Option Value)} {oc_is_integer kV_is_integer dc_is_integer pm_is_integer cd_is_integer ct_is_integer : Value}
    (a_is_integer : PySem.W.nsIn K mainGlobals "is_integer" = some (some (.ref f_is_integer))) (l_is_integer : K.lookup f_is_integer = some ⟨oc_is_integer, od_is_integer, .func (PySem.W.fnOf "is_integer" "is_integer" (defArgs s_is_integer) (defBody s_is_integer) (defScope s_is_integer) .none kV_is_integer dc_is_integer pm_is_integer an_is_integer cd_is_integer ct_is_integer), sl_is_integer⟩) (c_is_integer : PySem.W.codeIn K cd_is_integer "is_integer" = true) (k_is_integer : PySem.W.keepIn K (.ref f_is_integer) = true)
    {od_common an_common : Option Addr} {sl_common : Array (Option Value)} {oc_common kV_common dc_common pm_common cd_common ct_common : Value}
    (a_common : PySem.W.nsIn K mainGlobals "common" = some (some (.ref f_common))) (l_common : K.lookup f_common = some ⟨oc_common, od_common, .func (PySem.W.fnOf "common" "common" (defArgs s_common) (defBody s_common) (defScope s_common) .none kV_common dc_common pm_common an_common cd_common ct_common), sl_common⟩) (c_common : PySem.W.codeIn K cd_common "common" = true) (k_common : PySem.W.keepIn K (.ref f_common) = true)
    {od_is_fraction an_is_fraction : Option Addr} {sl_is_fraction : Array (Option Value)} {oc_is_fraction kV_is_fraction dc_is_fraction pm_is_fraction cd_is_fraction ct_is_fraction : Value}
    (a_is_fraction : PySem.W.nsIn K mainGlobals "is_fraction" = some (some (.ref f_is_fraction))) (l_is_fraction : K.lookup f_is_fraction = some ⟨oc_is_fraction, od_is_fraction, .func (PySem.W.fnOf "is_fraction" "is_fraction" (defArgs s_is_fraction) (defBody s_is_fraction) (defScope s_is_fraction) .none kV_is_fraction dc_is_fraction pm_is_fraction an_is_fraction cd_is_fraction ct_is_fraction), sl_is_fraction⟩) (c_is_fraction : PySem.W.codeIn K cd_is_fraction "is_fraction" = true) (k_is_fraction : PySem.W.keepIn K (.ref f_is_fraction) = true)
    {od_below an_below : Option Addr} {sl_below : Array (Option Value)} {oc_below kV_below dc_below pm_below cd_below ct_below : Value}
    (a_below : PySem.W.nsIn K mainGlobals "below" = some (some (.ref f_below))) (l_below : K.lookup f_below = some ⟨oc_below, od_below, .func (PySem.W.fnOf "below" "below" (defArgs s_below) (defBody s_below) (defScope s_below) .none kV_below dc_below pm_below an_below cd_below ct_below), sl_below⟩) (c_below : PySem.W.codeIn K cd_below "below" = true) (k_below : PySem.W.keepIn K (.ref f_below) = true)
    {od_is_above an_is_above : Option Addr} {sl_is_above : Array (Option Value)} {oc_is_above kV_is_above dc_is_above pm_is_above cd_is_above ct_is_above : Value}
    (a_is_above : PySem.W.nsIn K mainGlobals "is_above" = some (some (.ref f_is_above))) (l_is_above : K.lookup f_is_above = some ⟨oc_is_above, od_is_above, .func (PySem.W.fnOf "is_above" "is_above" (defArgs s_is_above) (defBody s_is_above) (defScope s_is_above) .none kV_is_above dc_is_above pm_is_above an_is_above cd_is_above ct_is_above), sl_is_above⟩) (c_is_above : PySem.W.codeIn K cd_is_above "is_above" = true) (k_is_above : PySem.W.keepIn K (.ref f_is_above) = true)
    {od_is_point an_is_point : Option Addr} {sl_is_point : Array (Option Value)} {oc_is_point kV_is_point dc_is_point pm_is_point cd_is_point ct_is_point : Value}
    (a_is_point : PySem.W.nsIn K mainGlobals "is_point" = some (some (.ref f_is_point))) (l_is_point : K.lookup f_is_point = some ⟨oc_is_point, od_is_point, .func (PySem.W.fnOf "is_point" "is_point" (defArgs s_is_point) (defBody s_is_point) (defScope s_is_point) .none kV_is_point dc_is_point pm_is_point an_is_point cd_is_point ct_is_point), sl_is_point⟩) (c_is_point : PySem.W.codeIn K cd_is_point "is_point" = true) (k_is_point : PySem.W.keepIn K (.ref f_is_point) = true)
    {od_is_amount an_is_amount : Option Addr} {sl_is_amount : Array (Option Value)} {oc_is_amount kV_is_amount dc_is_amount pm_is_amount cd_is_amount ct_is_amount : Value}
    (a_is_amount : PySem.W.nsIn K mainGlobals "is_amount" = some (some (.ref f_is_amount))) (l_is_amount : K.lookup f_is_amount = some ⟨oc_is_amount, od_is_amount, .func (PySem.W.fnOf "is_amount" "is_amount" (defArgs s_is_amount) (defBody s_is_amount) (defScope s_is_amount) .none kV_is_amount dc_is_amount pm_is_amount an_is_amount cd_is_amount ct_is_amount), sl_is_amount⟩) (c_is_amount : PySem.W.codeIn K cd_is_amount "is_amount" = true) (k_is_amount : PySem.W.keepIn K (.ref f_is_amount) = true)
    {od_step_fault an_step_fault : Option Addr} {sl_step_fault : Array (Option Value)} {oc_step_fault kV_step_fault dc_step_fault pm_step_fault cd_step_fault ct_step_fault : Value}
    (a_step_fault : PySem.W.nsIn K mainGlobals "step_fault" = some (some (.ref f_step_fault))) (l_step_fault : K.lookup f_step_fault = some ⟨oc_step_fault, od_step_fault, .func (PySem.W.fnOf "step_fault" "step_fault" (defArgs s_step_fault) (defBody s_step_fault) (defScope s_step_fault) .none kV_step_fault dc_step_fault pm_step_fault an_step_fault cd_step_fault ct_step_fault), sl_step_fault⟩) (c_step_fault : PySem.W.codeIn K cd_step_fault "step_fault" = true) (k_step_fault : PySem.W.keepIn K (.ref f_step_fault) = true)
    {od_program_fault an_program_fault : Option Addr} {sl_program_fault : Array (Option Value)} {oc_program_fault kV_program_fault dc_program_fault pm_program_fault cd_program_fault ct_program_fault : Value}
    (a_program_fault : PySem.W.nsIn K mainGlobals "program_fault" = some (some (.ref f_program_fault))) (l_program_fault : K.lookup f_program_fault = some ⟨oc_program_fault, od_program_fault, .func (PySem.W.fnOf "program_fault" "program_fault" (defArgs s_program_fault) (defBody s_program_fault) (defScope s_program_fault) .none kV_program_fault dc_program_fault pm_program_fault an_program_fault cd_program_fault ct_program_fault), sl_program_fault⟩) (c_program_fault : PySem.W.codeIn K cd_program_fault "program_fault" = true) (k_program_fault : PySem.W.keepIn K (.ref f_program_fault) = true)
    {od_is_program an_is_program : Option Addr} {sl_is_program : Array (Option Value)} {oc_is_program kV_is_program dc_is_program pm_is_program cd_is_program ct_is_program : Value}
    (a_is_program : PySem.W.nsIn K mainGlobals "is_program" = some (some (.ref f_is_program))) (l_is_program : K.lookup f_is_program = some ⟨oc_is_program, od_is_program, .func (PySem.W.fnOf "is_program" "is_program" (defArgs s_is_program) (defBody s_is_program) (defScope s_is_program) .none kV_is_program dc_is_program pm_is_program an_is_program cd_is_program ct_is_program), sl_is_program⟩) (c_is_program : PySem.W.codeIn K cd_is_program "is_program" = true) (k_is_program : PySem.W.keepIn K (.ref f_is_program) = true)
    {od_check_program an_check_program : Option Addr} {sl_check_program : Array (Option Value)} {oc_check_program kV_check_program dc_check_program pm_check_program cd_check_program ct_check_program : Value}
    (a_check_program : PySem.W.nsIn K mainGlobals "check_program" = some (some (.ref f_check_program))) (l_check_program : K.lookup f_check_program = some ⟨oc_check_program, od_check_program, .func (PySem.W.fnOf "check_program" "check_program" (defArgs s_check_program) (defBody s_check_program) (defScope s_check_program) .none kV_check_program dc_check_program pm_check_program an_check_program cd_check_program ct_check_program), sl_check_program⟩) (c_check_program : PySem.W.codeIn K cd_check_program "check_program" = true) (k_check_program : PySem.W.keepIn K (.ref f_check_program) = true)
    {od_path_of an_path_of : Option Addr} {sl_path_of : Array (Option Value)} {oc_path_of kV_path_of dc_path_of pm_path_of cd_path_of ct_path_of : Value}
    (a_path_of : PySem.W.nsIn K mainGlobals "path_of" = some (some (.ref f_path_of))) (l_path_of : K.lookup f_path_of = some ⟨oc_path_of, od_path_of, .func (PySem.W.fnOf "path_of" "path_of" (defArgs s_path_of) (defBody s_path_of) (defScope s_path_of) .none kV_path_of dc_path_of pm_path_of an_path_of cd_path_of ct_path_of), sl_path_of⟩) (c_path_of : PySem.W.codeIn K cd_path_of "path_of" = true) (k_path_of : PySem.W.keepIn K (.ref f_path_of) = true)
    {od_path an_path : Option Addr} {sl_path : Array (Option Value)} {oc_path kV_path dc_path pm_path cd_path ct_path : Value}
    (a_path : PySem.W.nsIn K mainGlobals "path" = some (some (.ref f_path))) (l_path : K.lookup f_path = some ⟨oc_path, od_path, .func (PySem.W.fnOf "path" "path" (defArgs s_path) (defBody s_path) (defScope s_path) .none kV_path dc_path pm_path an_path cd_path ct_path), sl_path⟩) (c_path : PySem.W.codeIn K cd_path "path" = true) (k_path : PySem.W.keepIn K (.ref f_path) = true)
    {od_axis_count an_axis_count : Option Addr} {sl_axis_count : Array (Option Value)} {oc_axis_count kV_axis_count dc_axis_count pm_axis_count cd_axis_count ct_axis_count : Value}
    (a_axis_count : PySem.W.nsIn K mainGlobals "axis_count" = some (some (.ref f_axis_count))) (l_axis_count : K.lookup f_axis_count = some ⟨oc_axis_count, od_axis_count, .func (PySem.W.fnOf "axis_count" "axis_count" (defArgs s_axis_count) (defBody s_axis_count) (defScope s_axis_count) .none kV_axis_count dc_axis_count pm_axis_count an_axis_count cd_axis_count ct_axis_count), sl_axis_count⟩) (c_axis_count : PySem.W.codeIn K cd_axis_count "axis_count" = true) (k_axis_count : PySem.W.keepIn K (.ref f_axis_count) = true)
    {od__law_tried an__law_tried : Option Addr} {sl__law_tried : Array (Option Value)} {oc__law_tried kV__law_tried dc__law_tried pm__law_tried cd__law_tried ct__law_tried : Value}
    (a__law_tried : PySem.W.nsIn K mainGlobals "_law_tried" = some (some (.ref f__law_tried))) (l__law_tried : K.lookup f__law_tried = some ⟨oc__law_tried, od__law_tried, .func (PySem.W.fnOf "_law_tried" "_law_tried" (defArgs s__law_tried) (defBody s__law_tried) (defScope s__law_tried) .none kV__law_tried dc__law_tried pm__law_tried an__law_tried cd__law_tried ct__law_tried), sl__law_tried⟩) (c__law_tried : PySem.W.codeIn K cd__law_tried "_law_tried" = true) (k__law_tried : PySem.W.keepIn K (.ref f__law_tried) = true)
    {od_law an_law : Option Addr} {sl_law : Array (Option Value)} {oc_law kV_law dc_law pm_law cd_law ct_law : Value}
    (a_law : PySem.W.nsIn K mainGlobals "law" = some (some (.ref f_law))) (l_law : K.lookup f_law = some ⟨oc_law, od_law, .func (PySem.W.fnOf "law" "law" (defArgs s_law) (defBody s_law) (defScope s_law) .none kV_law dc_law pm_law an_law cd_law ct_law), sl_law⟩) (c_law : PySem.W.codeIn K cd_law "law" = true) (k_law : PySem.W.keepIn K (.ref f_law) = true)
    {e_InvalidProgram : Addr} (ea_InvalidProgram : PySem.W.nsIn K mainGlobals "InvalidProgram" = some (some (.ref e_InvalidProgram)))
    {n_InvalidProgram qc_InvalidProgram q_InvalidProgram tx_InvalidProgram fi_InvalidProgram : Str} {N_InvalidProgram i_InvalidProgram cda_InvalidProgram cc_InvalidProgram : Addr} {bs_InvalidProgram bm_InvalidProgram su_InvalidProgram : List Value} {sn_InvalidProgram : List Str} {ab_InvalidProgram : Bool} {co_InvalidProgram : Option Bool} {dd_InvalidProgram od_InvalidProgram an_InvalidProgram cdd_InvalidProgram cld_InvalidProgram : Option Addr} {k0_InvalidProgram k1_InvalidProgram k2_InvalidProgram k3_InvalidProgram k5_InvalidProgram : Option Value} {j_InvalidProgram : Nat} {p1_InvalidProgram p2_InvalidProgram q0_InvalidProgram q1_InvalidProgram q2_InvalidProgram q3_InvalidProgram q4_InvalidProgram q5_InvalidProgram r1_InvalidProgram r2_InvalidProgram r3_InvalidProgram r4_InvalidProgram : Pos} {oc_InvalidProgram dc_InvalidProgram pm_InvalidProgram ct_InvalidProgram ccl_InvalidProgram cl_InvalidProgram : Value} {sl_InvalidProgram ccs_InvalidProgram csl_InvalidProgram : Array (Option Value)} {vs_InvalidProgram : Array Value} {tf_InvalidProgram : Tok}
    (lC_InvalidProgram : K.lookup e_InvalidProgram = some (excClassObj n_InvalidProgram qc_InvalidProgram e_InvalidProgram N_InvalidProgram bs_InvalidProgram bm_InvalidProgram true sn_InvalidProgram su_InvalidProgram ab_InvalidProgram co_InvalidProgram dd_InvalidProgram k0_InvalidProgram k1_InvalidProgram k2_InvalidProgram k3_InvalidProgram k5_InvalidProgram "ValueError.__new__"))
    (bm_InvalidProgram : PySem.HandSPX.refsVE bm_InvalidProgram = true)
    (sa_InvalidProgram : PySem.W.findIn K (.ref e_InvalidProgram) "__setattr__" = some (some (.builtin "object.__setattr__")))
    (ga_InvalidProgram : PySem.W.findIn K (.ref e_InvalidProgram) "__getattribute__" = some (some (.builtin "BaseException.__getattribute__")))
    (gg_InvalidProgram : PySem.W.findIn K (.ref e_InvalidProgram) "__getattr__" = some none)
    (nf_InvalidProgram : PySem.W.findIn K (.ref e_InvalidProgram) "place" = some none)
    (ii_InvalidProgram : PySem.W.findIn K (.ref e_InvalidProgram) "__init__" = some (some (.ref i_InvalidProgram)))
    (ti_InvalidProgram : PySem.W.typeIn K (.ref i_InvalidProgram) = some (.type "function"))
    (ek_InvalidProgram : PySem.W.keepIn K (.ref e_InvalidProgram) = true)
    (eb_InvalidProgram : PySem.W.subIn K (.ref e_InvalidProgram) (.type "BaseException") = some true)
    (ev_InvalidProgram : PySem.W.subIn K (.ref e_InvalidProgram) (.type "ValueError") = some true)
    (et_InvalidProgram : PySem.W.typeIn K (.ref e_InvalidProgram) = some (.type "type"))
    (eh_InvalidProgram : PySem.W.hasDictIn K e_InvalidProgram = true)
    (em_InvalidProgram : PySem.W.mroIn K e_InvalidProgram (.ref e_InvalidProgram) = some true)
    (eu_InvalidProgram : PySem.W.ks_superIn K e_InvalidProgram e_InvalidProgram "__init__" = some (some (.builtin "ValueError.__init__")))
    (ei_InvalidProgram : PySem.W.excInitIn K e_InvalidProgram [.type "ValueError", .type "Exception", .type "BaseException", .type "object"] "ValueError.__new__" = true)
    (li_InvalidProgram : K.lookup i_InvalidProgram = some ⟨oc_InvalidProgram, od_InvalidProgram, .func (PySem.W.ksFn "__init__" q_InvalidProgram (xArgs "place" p1_InvalidProgram p2_InvalidProgram) (xBody "place" tx_InvalidProgram j_InvalidProgram q0_InvalidProgram q1_InvalidProgram q2_InvalidProgram q3_InvalidProgram q4_InvalidProgram q5_InvalidProgram r1_InvalidProgram r2_InvalidProgram r3_InvalidProgram r4_InvalidProgram) (xScope "place") .none .none dc_InvalidProgram pm_InvalidProgram an_InvalidProgram (.ref cda_InvalidProgram) ct_InvalidProgram cc_InvalidProgram), sl_InvalidProgram⟩)
    (ci_InvalidProgram : PySem.W.codeIn K (.ref cda_InvalidProgram) q_InvalidProgram = true)
    (cd_InvalidProgram : K.lookup cda_InvalidProgram = some ⟨ccl_InvalidProgram, cdd_InvalidProgram, .fields vs_InvalidProgram, ccs_InvalidProgram⟩)
    (v2_InvalidProgram : vs_InvalidProgram[2]? = some (.str fi_InvalidProgram tf_InvalidProgram))
    (fl_InvalidProgram : ((l.prog.main.file : Str) == fi_InvalidProgram) = true)
    (ln_InvalidProgram : (q2_InvalidProgram.endLine == q4_InvalidProgram.line) = true)
    (cl_InvalidProgram : K.lookup cc_InvalidProgram = some ⟨cl_InvalidProgram, cld_InvalidProgram, .cell (some (.ref e_InvalidProgram)), csl_InvalidProgram⟩)
    (z_sup : PySem.W.nsIn K mainGlobals "super" = some none) (z_anyx : PySem.W.nsIn K PySem.cStatics "thirdparty.any" = some none) (z_top : (l.prog.main.scope.names.lookup ("super" : Str)).isSome = false)
    (m_InvalidProgram_InvalidProgram : PySem.W.exmOne K (.ref e_InvalidProgram) (.ref e_InvalidProgram) = some true)
    (z_abs : PySem.W.nsIn K mainGlobals "abs" = some none)
    (z_all : PySem.W.nsIn K mainGlobals "all" = some none)
    (z_bool : PySem.W.nsIn K mainGlobals "bool" = some none)
    (z_enumerate : PySem.W.nsIn K mainGlobals "enumerate" = some none)
    (z_int : PySem.W.nsIn K mainGlobals "int" = some none)
    (z_isinstance : PySem.W.nsIn K mainGlobals "isinstance" = some none)
    (z_len : PySem.W.nsIn K mainGlobals "len" = some none)
    (z_list : PySem.W.nsIn K mainGlobals "list" = some none)
    (z_min : PySem.W.nsIn K mainGlobals "min" = some none)
    (z_range : PySem.W.nsIn K mainGlobals "range" = some none)
    (z_repr : PySem.W.nsIn K mainGlobals "repr" = some none)
    (z_str : PySem.W.nsIn K mainGlobals "str" = some none)
    (z_tuple : PySem.W.nsIn K mainGlobals "tuple" = some none)
    (z_zip : PySem.W.nsIn K mainGlobals "zip" = some none)
    {f_NOUGHT : Addr} {od_NOUGHT : Option Addr} {n_NOUGHT : Nat} {sl_NOUGHT : Array (Option Value)} {t_NOUGHT_0 t_NOUGHT_1 : Tok} (a_NOUGHT : PySem.W.nsIn K mainGlobals "NOUGHT" = some (some (.ref f_NOUGHT))) (l_NOUGHT : K.lookup f_NOUGHT = some ⟨.type "tuple", od_NOUGHT, .seq #[.int 0 t_NOUGHT_0, .int 1 t_NOUGHT_1] n_NOUGHT, sl_NOUGHT⟩)
    {t_MOST_AXES : Tok} (a_MOST_AXES : PySem.W.nsIn K mainGlobals "MOST_AXES" = some (some (.int 3 t_MOST_AXES)))
    {t_MOST_STEPS : Tok} (a_MOST_STEPS : PySem.W.nsIn K mainGlobals "MOST_STEPS" = some (some (.int 30 t_MOST_STEPS)))
    : ∃ fd : FuncData, (∀ (s : Shared) (v : Value), BindsTo s fd ⟨[v], []⟩ [("script", v)]) ∧ ∀ base : Heap, K.In base → base.Ns mainGlobals mg → RunsAt l.prog w K mg base 12 fa fd (spLaw K) := by
  have e := hfa.symm.trans (PySem.W.mg_of X G a_law)
  cases e
  have F__law_gear := fun_mk (st := s__law_gear) l__law_gear c__law_gear k__law_gear
  have m__law_gear := PySem.W.mg_of X G a__law_gear
  have b__law_gear := F__law_gear.binds (ps := ["script"]) fun _ _ _ _ _ _ us hl => match us, hl with | [_], _ => rfl
  have F__law_low := fun_mk (st := s__law_low) l__law_low c__law_low k__law_low
  have m__law_low := PySem.W.mg_of X G a__law_low
  have b__law_low := F__law_low.binds (ps := ["top", "bottom"]) fun _ _ _ _ _ _ us hl => match us, hl with | [_, _], _ => rfl
  have F__law_tooth := fun_mk (st := s__law_tooth) l__law_tooth c__law_tooth k__law_tooth
  have m__law_tooth := PySem.W.mg_of X G a__law_tooth
  have b__law_tooth := F__law_tooth.binds (ps := ["gear", "many"]) fun _ _ _ _ _ _ us hl => match us, hl with | [_, _], _ => rfl
  have F__law_add := fun_mk (st := s__law_add) l__law_add c__law_add k__law_add
  have m__law_add := PySem.W.mg_of X G a__law_add
  have b__law_add := F__law_add.binds (ps := ["a", "b"]) fun _ _ _ _ _ _ us hl => match us, hl with | [_, _], _ => rfl
  have F__law_spot := fun_mk (st := s__law_spot) l__law_spot c__law_spot k__law_spot
  have m__law_spot := PySem.W.mg_of X G a__law_spot
  have b__law_spot := F__law_spot.binds (ps := ["gear", "axes"]) fun _ _ _ _ _ _ us hl => match us, hl with | [_, _], _ => rfl
  have F__law_mul := fun_mk (st := s__law_mul) l__law_mul c__law_mul k__law_mul
  have m__law_mul := PySem.W.mg_of X G a__law_mul
  have b__law_mul := F__law_mul.binds (ps := ["a", "b"]) fun _ _ _ _ _ _ us hl => match us, hl with | [_, _], _ => rfl
  have F__law_next := fun_mk (st := s__law_next) l__law_next c__law_next k__law_next
  have m__law_next := PySem.W.mg_of X G a__law_next
  have b__law_next := F__law_next.binds (ps := ["gear", "spot", "gap"]) fun _ _ _ _ _ _ us hl => match us, hl with | [_, _, _], _ => rfl
  have F__law_take := fun_mk (st := s__law_take) l__law_take c__law_take k__law_take
  have m__law_take := PySem.W.mg_of X G a__law_take
  have b__law_take := F__law_take.binds (ps := ["a", "b"]) fun _ _ _ _ _ _ us hl => match us, hl with | [_, _], _ => rfl
  have F__law_steps := fun_mk (st := s__law_steps) l__law_steps c__law_steps k__law_steps
  have m__law_steps := PySem.W.mg_of X G a__law_steps
  have b__law_steps := F__law_steps.binds (ps := ["gear", "start", "many"]) fun _ _ _ _ _ _ us hl => match us, hl with | [_, _, _], _ => rfl
  have F__law_program := fun_mk (st := s__law_program) l__law_program c__law_program k__law_program
  have m__law_program := PySem.W.mg_of X G a__law_program
  have b__law_program := F__law_program.binds (ps := ["gear", "many"]) fun _ _ _ _ _ _ us hl => match us, hl with | [_, _], _ => rfl
  have F__law_pick := fun_mk (st := s__law_pick) l__law_pick c__law_pick k__law_pick
  have m__law_pick := PySem.W.mg_of X G a__law_pick
  have b__law_pick := F__law_pick.binds (ps := ["gear", "things"]) fun _ _ _ _ _ _ us hl => match us, hl with | [_, _], _ => rfl
  have F__law_trail := fun_mk (st := s__law_trail) l__law_trail c__law_trail k__law_trail
  have m__law_trail := PySem.W.mg_of X G a__law_trail
  have b__law_trail := F__law_trail.binds (ps := ["told"]) fun _ _ _ _ _ _ us hl => match us, hl with | [_], _ => rfl
  have F__law_near := fun_mk (st := s__law_near) l__law_near c__law_near k__law_near
  have m__law_near := PySem.W.mg_of X G a__law_near
  have b__law_near := F__law_near.binds (ps := ["gear", "told"]) fun _ _ _ _ _ _ us hl => match us, hl with | [_, _], _ => rfl
  have F__law_bent := fun_mk (st := s__law_bent) l__law_bent c__law_bent k__law_bent
  have m__law_bent := PySem.W.mg_of X G a__law_bent
  have b__law_bent := F__law_bent.binds (ps := ["gear", "value"]) fun _ _ _ _ _ _ us hl => match us, hl with | [_, _], _ => rfl
  have F__law_is_fraction := fun_mk (st := s__law_is_fraction) l__law_is_fraction c__law_is_fraction k__law_is_fraction
  have m__law_is_fraction := PySem.W.mg_of X G a__law_is_fraction
  have b__law_is_fraction := F__law_is_fraction.binds (ps := ["value"]) fun _ _ _ _ _ _ us hl => match us, hl with | [_], _ => rfl
  have F__law_is_above := fun_mk (st := s__law_is_above) l__law_is_above c__law_is_above k__law_is_above
  have m__law_is_above := PySem.W.mg_of X G a__law_is_above
  have b__law_is_above := F__law_is_above.binds (ps := ["value"]) fun _ _ _ _ _ _ us hl => match us, hl with | [_], _ => rfl
  have F__law_under := fun_mk (st := s__law_under) l__law_under c__law_under k__law_under
  have m__law_under := PySem.W.mg_of X G a__law_under
  have b__law_under := F__law_under.binds (ps := ["a", "b"]) fun _ _ _ _ _ _ us hl => match us, hl with | [_, _], _ => rfl
  have F__law_is_spot := fun_mk (st := s__law_is_spot) l__law_is_spot c__law_is_spot k__law_is_spot
  have m__law_is_spot := PySem.W.mg_of X G a__law_is_spot
  have b__law_is_spot := F__law_is_spot.binds (ps := ["axes", "value"]) fun _ _ _ _ _ _ us hl => match us, hl with | [_, _], _ => rfl
  have F__law_step_place := fun_mk (st := s__law_step_place) l__law_step_place c__law_step_place k__law_step_place
  have m__law_step_place := PySem.W.mg_of X G a__law_step_place
  have b__law_step_place := F__law_step_place.binds (ps := ["spot", "value"]) fun _ _ _ _ _ _ us hl => match us, hl with | [_, _], _ => rfl
  have F__law_program_place := fun_mk (st := s__law_program_place) l__law_program_place c__law_program_place k__law_program_place
  have m__law_program_place := PySem.W.mg_of X G a__law_program_place
  have b__law_program_place := F__law_program_place.binds (ps := ["value"]) fun _ _ _ _ _ _ us hl => match us, hl with | [_], _ => rfl
  have F__law_same := fun_mk (st := s__law_same) l__law_same c__law_same k__law_same
  have m__law_same := PySem.W.mg_of X G a__law_same
  have b__law_same := F__law_same.binds (ps := ["found", "due"]) fun _ _ _ _ _ _ us hl => match us, hl with | [_, _], _ => rfl
  have F_is_tuple_of := fun_mk (st := s_is_tuple_of) l_is_tuple_of c_is_tuple_of k_is_tuple_of
  have m_is_tuple_of := PySem.W.mg_of X G a_is_tuple_of
  have b_is_tuple_of := F_is_tuple_of.binds (ps := ["length", "value"]) fun _ _ _ _ _ _ us hl => match us, hl with | [_, _], _ => rfl
  have F_is_integer := fun_mk (st := s_is_integer) l_is_integer c_is_integer k_is_integer
  have m_is_integer := PySem.W.mg_of X G a_is_integer
  have b_is_integer := F_is_integer.binds (ps := ["value"]) fun _ _ _ _ _ _ us hl => match us, hl with | [_], _ => rfl
  have F_common := fun_mk (st := s_common) l_common c_common k_common
  have m_common := PySem.W.mg_of X G a_common
  have b_common := F_common.binds (ps := ["one", "other"]) fun _ _ _ _ _ _ us hl => match us, hl with | [_, _], _ => rfl
  have F_is_fraction := fun_mk (st := s_is_fraction) l_is_fraction c_is_fraction k_is_fraction
  have m_is_fraction := PySem.W.mg_of X G a_is_fraction
  have b_is_fraction := F_is_fraction.binds (ps := ["value"]) fun _ _ _ _ _ _ us hl => match us, hl with | [_], _ => rfl
  have F_below := fun_mk (st := s_below) l_below c_below k_below
  have m_below := PySem.W.mg_of X G a_below
  have b_below := F_below.binds (ps := ["one", "other"]) fun _ _ _ _ _ _ us hl => match us, hl with | [_, _], _ => rfl
  have F_is_above := fun_mk (st := s_is_above) l_is_above c_is_above k_is_above
  have m_is_above := PySem.W.mg_of X G a_is_above
  have b_is_above := F_is_above.binds (ps := ["value"]) fun _ _ _ _ _ _ us hl => match us, hl with | [_], _ => rfl
  have F_is_point := fun_mk (st := s_is_point) l_is_point c_is_point k_is_point
  have m_is_point := PySem.W.mg_of X G a_is_point
  have b_is_point := F_is_point.binds (ps := ["axes", "value"]) fun _ _ _ _ _ _ us hl => match us, hl with | [_, _], _ => rfl
  have F_is_amount := fun_mk (st := s_is_amount) l_is_amount c_is_amount k_is_amount
  have m_is_amount := PySem.W.mg_of X G a_is_amount
  have b_is_amount := F_is_amount.binds (ps := ["value"]) fun _ _ _ _ _ _ us hl => match us, hl with | [_], _ => rfl
  have F_step_fault := fun_mk (st := s_step_fault) l_step_fault c_step_fault k_step_fault
  have m_step_fault := PySem.W.mg_of X G a_step_fault
  have b_step_fault := F_step_fault.binds (ps := ["point", "value"]) fun _ _ _ _ _ _ us hl => match us, hl with | [_, _], _ => rfl
  have F_program_fault := fun_mk (st := s_program_fault) l_program_fault c_program_fault k_program_fault
  have m_program_fault := PySem.W.mg_of X G a_program_fault
  have b_program_fault := F_program_fault.binds (ps := ["value"]) fun _ _ _ _ _ _ us hl => match us, hl with | [_], _ => rfl
  have F_is_program := fun_mk (st := s_is_program) l_is_program c_is_program k_is_program
  have m_is_program := PySem.W.mg_of X G a_is_program
  have b_is_program := F_is_program.binds (ps := ["value"]) fun _ _ _ _ _ _ us hl => match us, hl with | [_], _ => rfl
  have F_check_program := fun_mk (st := s_check_program) l_check_program c_check_program k_check_program
  have m_check_program := PySem.W.mg_of X G a_check_program
  have b_check_program := F_check_program.binds (ps := ["program"]) fun _ _ _ _ _ _ us hl => match us, hl with | [_], _ => rfl
  have F_path_of := fun_mk (st := s_path_of) l_path_of c_path_of k_path_of
  have m_path_of := PySem.W.mg_of X G a_path_of
  have b_path_of := F_path_of.binds (ps := ["program"]) fun _ _ _ _ _ _ us hl => match us, hl with | [_], _ => rfl
  have F_path := fun_mk (st := s_path) l_path c_path k_path
  have m_path := PySem.W.mg_of X G a_path
  have b_path := F_path.binds (ps := ["program"]) fun _ _ _ _ _ _ us hl => match us, hl with | [_], _ => rfl
  have F_axis_count := fun_mk (st := s_axis_count) l_axis_count c_axis_count k_axis_count
  have m_axis_count := PySem.W.mg_of X G a_axis_count
  have b_axis_count := F_axis_count.binds (ps := ["program"]) fun _ _ _ _ _ _ us hl => match us, hl with | [_], _ => rfl
  have F__law_tried := fun_mk (st := s__law_tried) l__law_tried c__law_tried k__law_tried
  have m__law_tried := PySem.W.mg_of X G a__law_tried
  have b__law_tried := F__law_tried.binds (ps := ["value", "sort"]) fun _ _ _ _ _ _ us hl => match us, hl with | [_, _], _ => rfl
  have F_law := fun_mk (st := s_law) l_law c_law k_law
  have m_law := PySem.W.mg_of X G a_law
  have b_law := F_law.binds (ps := ["script"]) fun _ _ _ _ _ _ us hl => match us, hl with | [_], _ => rfl
  have B : Bn mg := ⟨PySem.W.mg_none_of X G z_abs, PySem.W.mg_none_of X G z_all, PySem.W.mg_none_of X G z_bool, PySem.W.mg_none_of X G z_enumerate, PySem.W.mg_none_of X G z_int, PySem.W.mg_none_of X G z_isinstance, PySem.W.mg_none_of X G z_len, PySem.W.mg_none_of X G z_list, PySem.W.mg_none_of X G z_min, PySem.W.mg_none_of X G z_range, PySem.W.mg_none_of X G z_repr, PySem.W.mg_none_of X G z_str, PySem.W.mg_none_of X G z_tuple, PySem.W.mg_none_of X G z_zip⟩
  have C : Cn K mg := ⟨Gc.tup (PySem.W.mg_of X G a_NOUGHT) l_NOUGHT rfl rfl (show 2 ≤ sizeLine by decide) (fun _ => repL_ints [0, 1]) (.cons ⟨_, rfl⟩ (.cons ⟨_, rfl⟩ .nil)), Gc.int (PySem.W.mg_of X G a_MOST_AXES), Gc.int (PySem.W.mg_of X G a_MOST_STEPS)⟩
  have T : Xn l.prog K mg := ⟨⟨⟨e_InvalidProgram, i_InvalidProgram, { gC := PySem.W.mg_of X G ea_InvalidProgram, fn := by unfold FName; decide, cls := ⟨_, _, _, _, _, _, _, _, _, _, _, _, _, _, _, lC_InvalidProgram, bm_InvalidProgram⟩, sa := sa_InvalidProgram, ga := ga_InvalidProgram, gg := gg_InvalidProgram, noN := nf_InvalidProgram, iC := ii_InvalidProgram, tC := ti_InvalidProgram, kC := ek_InvalidProgram, exC := eb_InvalidProgram, veC := ev_InvalidProgram, tyC := et_InvalidProgram, hdC := eh_InvalidProgram, sub := em_InvalidProgram, sup := z_sup, any := z_anyx, up := eu_InvalidProgram, init := ei_InvalidProgram, top := z_top, txt := ⟨_, _, _, _, _, _, _, _, _, _, _, _, _, _, _, _, _, _, _, _, _, _, _, _, _, _, _, _, _, _, _, _, _, li_InvalidProgram, ci_InvalidProgram, cd_InvalidProgram, v2_InvalidProgram, fl_InvalidProgram, ln_InvalidProgram, cl_InvalidProgram⟩ }, ea_InvalidProgram⟩⟩, ⟨(List.forall_mem_cons.mpr ⟨(List.forall_mem_cons.mpr ⟨fun _ _ nA nC => err_pair ea_InvalidProgram ea_InvalidProgram m_InvalidProgram_InvalidProgram nA nC, fun _ z => nomatch z⟩), fun _ z => nomatch z⟩), (List.forall_mem_cons.mpr ⟨⟨e_InvalidProgram, PySem.W.mg_of X G ea_InvalidProgram, ea_InvalidProgram⟩, fun _ z => nomatch z⟩)⟩⟩
  refine ⟨PySem.W.fnOf "law" "law" (defArgs s_law) (defBody s_law) (defScope s_law) .none kV_law dc_law pm_law an_law cd_law ct_law, fun s v => .of_eq rfl, fun base _ _ => ?_⟩
  have M_law : MadeBy l.prog w K mg base SrcA 1 "_law_gear" := ⟨⟨_, _, ok__law_gear B.int B.len F__law_gear, m__law_gear, F__law_gear.kp, b__law_gear⟩⟩
  have G__law_low := fd__law_low (P := l.prog) (w := w) (base := base) B C  T F__law_low m__law_low b__law_low (fun _ z => nomatch z)
  have G__law_tooth := fd__law_tooth (P := l.prog) (w := w) (base := base) B.int F__law_tooth m__law_tooth b__law_tooth
  have G__law_add := fd__law_add (P := l.prog) (w := w) (base := base) B C G__law_low T F__law_add m__law_add b__law_add (fun _ z => nomatch z)
  have G__law_spot := fd__law_spot (P := l.prog) (w := w) (base := base) B C G__law_tooth G__law_low G__law_add T F__law_spot m__law_spot b__law_spot (fun _ z => nomatch z)
  have G__law_mul := fd__law_mul (P := l.prog) (w := w) (base := base) B C G__law_low T F__law_mul m__law_mul b__law_mul (fun _ z => nomatch z)
  have G__law_next := fd__law_next (P := l.prog) (w := w) (base := base) B C G__law_tooth G__law_add G__law_mul G__law_spot T F__law_next m__law_next b__law_next (fun _ z => nomatch z)
  have G__law_take := fd__law_take (P := l.prog) (w := w) (base := base) B C G__law_low T F__law_take m__law_take b__law_take (fun _ z => nomatch z)
  have G__law_steps := fd__law_steps (P := l.prog) (w := w) (base := base) B C G__law_tooth G__law_low G__law_take G__law_mul G__law_next T F__law_steps m__law_steps b__law_steps (fun _ z => nomatch z)
  have G__law_program := fd__law_program (P := l.prog) (w := w) (base := base) B C G__law_tooth G__law_spot G__law_steps T F__law_program m__law_program b__law_program (fun _ z => nomatch z)
  have G__law_pick := fd__law_pick (P := l.prog) (w := w) (base := base) B C G__law_tooth T F__law_pick m__law_pick b__law_pick (fun _ z => nomatch z)
  have G__law_trail := fd__law_trail (P := l.prog) (w := w) (base := base) B C  T F__law_trail m__law_trail b__law_trail (fun _ z => nomatch z)
  have G__law_near := fd__law_near (P := l.prog) (w := w) (base := base) B C G__law_tooth G__law_pick G__law_add G__law_trail T F__law_near m__law_near b__law_near (fun _ z => nomatch z)
  have G__law_bent := fd__law_bent (P := l.prog) (w := w) (base := base) B C G__law_tooth G__law_pick T F__law_bent m__law_bent b__law_bent (fun _ z => nomatch z) 8
  have G__law_is_fraction := fd__law_is_fraction (P := l.prog) (w := w) (base := base) B C G__law_low T F__law_is_fraction m__law_is_fraction b__law_is_fraction (fun _ z => nomatch z)
  have G__law_is_above := fd__law_is_above (P := l.prog) (w := w) (base := base) B C G__law_is_fraction T F__law_is_above m__law_is_above b__law_is_above (fun _ z => nomatch z)
  have G__law_under := fd__law_under (P := l.prog) (w := w) (base := base) B C  T F__law_under m__law_under b__law_under (fun _ z => nomatch z)
  have G__law_is_spot := fd__law_is_spot (P := l.prog) (w := w) (base := base) B C G__law_is_fraction T F__law_is_spot m__law_is_spot b__law_is_spot (fun _ z => nomatch z)
  have G__law_step_place := fd__law_step_place (P := l.prog) (w := w) (base := base) B C G__law_under G__law_is_fraction G__law_is_above G__law_is_spot T F__law_step_place m__law_step_place b__law_step_place (fun _ z => nomatch z)
  have G__law_program_place := fd__law_program_place (P := l.prog) (w := w) (base := base) B C G__law_is_spot G__law_step_place T F__law_program_place m__law_program_place b__law_program_place (fun _ z => nomatch z)
  have G__law_same := fd__law_same (P := l.prog) (w := w) (base := base) B C  T F__law_same m__law_same b__law_same (fun _ z => nomatch z) 6
  have G_is_tuple_of := fd_is_tuple_of (P := l.prog) (w := w) (base := base) B C  T F_is_tuple_of m_is_tuple_of b_is_tuple_of (fun _ z => nomatch z)
  have G_is_integer := fd_is_integer (P := l.prog) (w := w) (base := base) B C  T F_is_integer m_is_integer b_is_integer (fun _ z => nomatch z)
  have G_common := fd_common (P := l.prog) (w := w) (base := base) B C  T F_common m_common b_common (fun _ z => nomatch z)
  have G_is_fraction := fd_is_fraction (P := l.prog) (w := w) (base := base) B C G_is_integer G_common T F_is_fraction m_is_fraction b_is_fraction (fun _ z => nomatch z)
  have G_below := fd_below (P := l.prog) (w := w) (base := base) B C  T F_below m_below b_below (fun _ z => nomatch z)
  have G_is_above := fd_is_above (P := l.prog) (w := w) (base := base) B C G_is_fraction G_below T F_is_above m_is_above b_is_above (fun _ z => nomatch z)
  have G_is_point := fd_is_point (P := l.prog) (w := w) (base := base) B C G_is_fraction G_is_tuple_of T F_is_point m_is_point b_is_point (fun _ z => nomatch z)
  have G_is_amount := fd_is_amount (P := l.prog) (w := w) (base := base) B C G_is_fraction G_below T F_is_amount m_is_amount b_is_amount (fun _ z => nomatch z)
  have G_step_fault := fd_step_fault (P := l.prog) (w := w) (base := base) B C G_below G_is_tuple_of G_is_above G_is_amount G_is_point T F_step_fault m_step_fault b_step_fault (fun _ z => nomatch z)
  have G_program_fault := fd_program_fault (P := l.prog) (w := w) (base := base) B C G_is_tuple_of G_is_point G_step_fault T F_program_fault m_program_fault b_program_fault ((List.forall_mem_cons.mpr ⟨⟨fun ws hl => match ws, hl with | [_], _ => rfl, rfl⟩, fun _ z => nomatch z⟩))
  have G_is_program := fd_is_program (P := l.prog) (w := w) (base := base) B C G_program_fault T F_is_program m_is_program b_is_program ((List.forall_mem_cons.mpr ⟨⟨fun ws hl => match ws, hl with | [_], _ => rfl, rfl⟩, fun _ z => nomatch z⟩))
  have G_check_program := fd_check_program (P := l.prog) (w := w) (base := base) B C G_program_fault T F_check_program m_check_program b_check_program (fun _ z => nomatch z)
  have G_path_of := fd_path_of (P := l.prog) (w := w) (base := base) B C  T F_path_of m_path_of b_path_of (fun _ z => nomatch z)
  have G_path := fd_path (P := l.prog) (w := w) (base := base) B C G_check_program G_path_of T F_path m_path b_path ((List.forall_mem_cons.mpr ⟨⟨fun ws hl => match ws, hl with | [_], _ => rfl, rfl⟩, fun _ z => nomatch z⟩))
  have G_axis_count := fd_axis_count (P := l.prog) (w := w) (base := base) B C G_check_program T F_axis_count m_axis_count b_axis_count ((List.forall_mem_cons.mpr ⟨⟨fun ws hl => match ws, hl with | [_], _ => rfl, rfl⟩, fun _ z => nomatch z⟩))
  have G__law_tried := fd__law_tried (P := l.prog) (w := w) (base := base) B C G_axis_count G_path T F__law_tried m__law_tried b__law_tried (fun _ z => nomatch z)
  exact fd_law (P := l.prog) (w := w) (base := base) B C  T G_program_fault G_is_program G__law_tooth G__law_same G__law_spot G__law_steps G__law_program G__law_trail G__law_program_place G__law_bent G__law_tried G__law_near F_law M_law
end DL
open PySem PySem.W PyProof.Rows
set_option maxHeartbeats 0 in
theorem PySem.Challenge.cw_fastestalong_k11_programs_judged_holds : PySem.Challenge.rw_fastestalong_k11_programs_judged.Holds := by
  w_on; o_law; k_head; (case hw => w_witness2)
  k_fill
  refine DL.walk_runs (l := PySem.Challenge.rw_fastestalong_k11_programs_judged) (k := 12) rfl rfl ⟨rfl, by decide, by decide⟩ (fun w h Y => PySem.W.kIn_of Y) ?F
  case F =>
    intro w mg fa h KX G hmg
    refine' DL.all_mk (l := PySem.Challenge.rw_fastestalong_k11_programs_judged) KX G hmg ?hg0 ?hg1 ?hg2 ?hg3 ?hg4 ?hg5 ?hg6 ?hg7 ?hg8 ?hg9 ?hg10 ?hg11 ?hg12 ?hg13 ?hg14 ?hg15 ?hg16 ?hg17 ?hg18 ?hg19 ?hg20 ?hg21 ?hg22 ?hg23 ?hg24 ?hg25 ?hg26 ?hg27 ?hg28 ?hg29 ?hg30 ?hg31 ?hg32 ?hg33 ?hg34 ?hg35 ?hg36 ?hg37 ?hg38 ?hg39 ?hg40 ?hg41 ?hg42 ?hg43 ?hg44 ?hg45 ?hg46 ?hg47 ?hg48 ?hg49 ?hg50 ?hg51 ?hg52 ?hg53 ?hg54 ?hg55 ?hg56 ?hg57 ?hg58 ?hg59 ?hg60 ?hg61 ?hg62 ?hg63 ?hg64 ?hg65 ?hg66 ?hg67 ?hg68 ?hg69 ?hg70 ?hg71 ?hg72 ?hg73 ?hg74 ?hg75 ?hg76 ?hg77 ?hg78 ?hg79 ?hg80 ?hg81 ?hg82 ?hg83 ?hg84 ?hg85 ?hg86 ?hg87 ?hg88 ?hg89 ?hg90 ?hg91 ?hg92 ?hg93 ?hg94 ?hg95 ?hg96 ?hg97 ?hg98 ?hg99 ?hg100 ?hg101 ?hg102 ?hg103 ?hg104 ?hg105 ?hg106 ?hg107 ?hg108 ?hg109 ?hg110 ?hg111 ?hg112 ?hg113 ?hg114 ?hg115 ?hg116 ?hg117 ?hg118 ?hg119 ?hg120 ?hg121 ?hg122 ?hg123 ?hg124 ?hg125 ?hg126 ?hg127 ?hg128 ?hg129 ?hg130 ?hg131 ?hg132 ?hg133 ?hg134 ?hg135 ?hg136 ?hg137 ?hg138 ?hg139 ?hg140 ?hg141 ?hg142 ?hg143 ?hg144 ?hg145 ?hg146 ?hg147 ?hg148 ?hg149 ?hg150 ?hg151 ?hg152 ?hg153 ?hg154 ?hg155 ?hg156 ?hg157 ?hg158 ?hg159 ?hg160 ?hg161 ?hg162 ?hg163 ?hg164 ?hg165 ?hg166 ?hg167 ?hg168 ?hg169 ?hg170 ?hg171 ?hg172 ?hg173 ?hg174 ?hg175 ?hg176 ?hg177 ?hg178 ?hg179 ?hg180 ?hg181 ?hg182 ?hg183 ?hg184 ?hg185 ?hg186 ?hg187 ?hg188 ?hg189 ?hg190 ?hg191 ?hg192 ?hg193 ?hg194 ?hg195 ?hg196 ?hg197
    (case hg0 => k_is)
    (case hg1 => k_is)
    (case hg2 => k_is)
    (case hg3 => k_is)
    (case hg4 => k_is)
    (case hg5 => k_is)
    (case hg6 => k_is)
    (case hg7 => k_is)
    (case hg8 => k_is)
    (case hg9 => k_is)
    (case hg10 => k_is)
    (case hg11 => k_is)
    (case hg12 => k_is)
    (case hg13 => k_is)
    (case hg14 => k_is)
    (case hg15 => k_is)
    (case hg16 => k_is)
    (case hg17 => k_is)
    (case hg18 => k_is)
    (case hg19 => k_is)
    (case hg20 => k_is)
    (case hg21 => k_is)
    (case hg22 => k_is)
    (case hg23 => k_is)
    (case hg24 => k_is)
    (case hg25 => k_is)
    (case hg26 => k_is)
    (case hg27 => k_is)
    (case hg28 => k_is)
    (case hg29 => k_is)
    (case hg30 => k_is)
    (case hg31 => k_is)
    (case hg32 => k_is)
    (case hg33 => k_is)
    (case hg34 => k_is)
    (case hg35 => k_is)
    (case hg36 => k_is)
    (case hg37 => k_is)
    (case hg38 => k_is)
    (case hg39 => k_is)
    (case hg40 => k_is)
    (case hg41 => k_is)
    (case hg42 => k_is)
    (case hg43 => k_is)
    (case hg44 => k_is)
    (case hg45 => k_is)
    (case hg46 => k_is)
    (case hg47 => k_is)
    (case hg48 => k_is)
    (case hg49 => k_is)
    (case hg50 => k_is)
    (case hg51 => k_is)
    (case hg52 => k_is)
    (case hg53 => k_is)
    (case hg54 => k_is)
    (case hg55 => k_is)
    (case hg56 => k_is)
    (case hg57 => k_is)
    (case hg58 => k_is)
    (case hg59 => k_is)
    (case hg60 => k_is)
    (case hg61 => k_is)
    (case hg62 => k_is)
    (case hg63 => k_is)
    (case hg64 => k_is)
    (case hg65 => k_is)
    (case hg66 => k_is)
    (case hg67 => k_is)
    (case hg68 => k_is)
    (case hg69 => k_is)
    (case hg70 => k_is)
    (case hg71 => k_is)
    (case hg72 => k_is)
    (case hg73 => k_is)
    (case hg74 => k_is)
    (case hg75 => k_is)
    (case hg76 => k_is)
    (case hg77 => k_is)
    (case hg78 => k_is)
    (case hg79 => k_is)
    (case hg80 => k_is)
    (case hg81 => k_is)
    (case hg82 => k_is)
    (case hg83 => k_is)
    (case hg84 => k_is)
    (case hg85 => k_is)
    (case hg86 => k_is)
    (case hg87 => k_is)
    (case hg88 => k_is)
    (case hg89 => k_is)
    (case hg90 => k_is)
    (case hg91 => k_is)
    (case hg92 => k_is)
    (case hg93 => k_is)
    (case hg94 => k_is)
    (case hg95 => k_is)
    (case hg96 => k_is)
    (case hg97 => k_is)
    (case hg98 => k_is)
    (case hg99 => k_is)
    (case hg100 => k_is)
    (case hg101 => k_is)
    (case hg102 => k_is)
    (case hg103 => k_is)
    (case hg104 => k_is)
    (case hg105 => k_is)
    (case hg106 => k_is)
    (case hg107 => k_is)
    (case hg108 => k_is)
    (case hg109 => k_is)
    (case hg110 => k_is)
    (case hg111 => k_is)
    (case hg112 => k_is)
    (case hg113 => k_is)
    (case hg114 => k_is)
    (case hg115 => k_is)
    (case hg116 => k_is)
    (case hg117 => k_is)
    (case hg118 => k_is)
    (case hg119 => k_is)
    (case hg120 => k_is)
    (case hg121 => k_is)
    (case hg122 => k_is)
    (case hg123 => k_is)
    (case hg124 => k_is)
    (case hg125 => k_is)
    (case hg126 => k_is)
    (case hg127 => k_is)
    (case hg128 => k_is)
    (case hg129 => k_is)
    (case hg130 => k_is)
    (case hg131 => k_is)
    (case hg132 => k_is)
    (case hg133 => k_is)
    (case hg134 => k_is)
    (case hg135 => k_is)
    (case hg136 => k_is)
    (case hg137 => k_is)
    (case hg138 => k_is)
    (case hg139 => k_is)
    (case hg140 => k_is)
    (case hg141 => k_is)
    (case hg142 => k_is)
    (case hg143 => k_is)
    (case hg144 => k_is)
    (case hg145 => k_is)
    (case hg146 => k_is)
    (case hg147 => k_is)
    (case hg148 => k_is)
    (case hg149 => k_is)
    (case hg150 => k_is)
    (case hg151 => k_is)
    (case hg152 => k_is)
    (case hg153 => k_is)
    (case hg154 => first | rfl | decide +kernel)
    (case hg155 => k_is)
    (case hg156 => k_is)
    (case hg157 => k_is)
    (case hg158 => k_is)
    (case hg159 => k_is)
    (case hg160 => k_is)
    (case hg161 => k_is)
    (case hg162 => k_is)
    (case hg163 => k_is)
    (case hg164 => k_is)
    (case hg165 => k_is)
    (case hg166 => k_is)
    (case hg167 => first | ks_is | k_is)
    (case hg168 => first | kx_is | k_is | kernel_rfl)
    (case hg169 => k_is)
    (case hg170 => k_is)
    (case hg171 => k_is)
    (case hg172 => first | rfl | decide +kernel)
    (case hg173 => first | rfl | decide +kernel)
    (case hg174 => first | rfl | decide +kernel)
    (case hg175 => k_is)
    (case hg176 => k_is)
    (case hg177 => k_is)
    (case hg178 => first | rfl | decide +kernel)
    (case hg179 => first | k_is | kernel_rfl | rfl)
    (case hg180 => k_is)
    (case hg181 => k_is)
    (case hg182 => k_is)
    (case hg183 => k_is)
    (case hg184 => k_is)
    (case hg185 => k_is)
    (case hg186 => k_is)
    (case hg187 => k_is)
    (case hg188 => k_is)
    (case hg189 => k_is)
    (case hg190 => k_is)
    (case hg191 => k_is)
    (case hg192 => k_is)
    (case hg193 => k_is)
    (case hg194 => k_is)
    (case hg195 => k_is)
    (case hg196 => k_is)
    (case hg197 => k_is)
