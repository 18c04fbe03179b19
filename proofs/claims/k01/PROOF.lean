import PyProof.Rows.All
import Wide.All
import OpenK.AllK
import Wide.FinOn
import HandS.ForMost
import HandS.ForExc
import HandS.IsInst
import HandS.Wide
import HandS.TupAny
import HandS.Walk
import HandS.Zip
import HandS.TupLe
import HandS.Style
import HandS.Text
import HandS.NoneIn
import KE.GoesEnum
import KE.GoesZip
import KE.GoesMore
import HandS.Conv
import HandS.RevRange
import HandS.More
import HandS.Sort
import PySem.Challenge.RW_fastestalong_k01_fractions_made_and_summ
set_option Elab.async false
set_option linter.all false
set_option autoImplicit false
/-! The pure part: data without a heap, and what a text asks of data. -/
namespace DL
open PySem

/-- data: what does not change any more -/
inductive D where
  | non | bl (b : Bool) | int (i : Int) | str (s : Str) | tup (xs : List D) | lst (xs : List D) | ins (C : Addr) (ns : List Str) (xs : List D)
/-- a slot: not known | data | a list that this frame alone holds | the law's source of numbers -/
inductive SV where
  | un | d (x : D) | own (xs : List D) | src
/-- what a def hands back: data, or a list that is the caller's own from there on -/
inductive RV where
  | d (x : D) | own (xs : List D)
def RV.toD : RV → D
  | .d x => x
  | .own xs => .lst xs
structure Exc where
  cls : Addr
  fld : Option (Str × D)

abbrev Env := List SV
abbrev XD := Env → Exc → Prop
abbrev EW := XD → Env → (D → Prop) → Prop
abbrev LW := XD → Env → (List D → Prop) → Prop
abbrev TW := XD → Env → (Bool → Prop) → Prop
abbrev AW := XD → Env → (List SV → Prop) → Prop
abbrev GW := D → Env → (Env → Prop) → Prop
structure DEnds where
  nx : Env → Prop
  rt : RV → Prop
  bk : Env → Prop := fun _ => False
  ct : Env → Prop := fun _ => False
abbrev SW := XD → DEnds → Env → Prop
abbrev Spec := List SV → (RV → Prop) → (Exc → Prop) → Prop

/-! ### expressions -/
def wVar (i : Nat) : EW := fun _ ρ Q => match ρ[i]? with
  | some (.d x) => Q x
  | _ => False
def wC (x : D) : EW := fun _ _ Q => Q x
abbrev Op2 := D → D → (D → Prop) → Prop
abbrev Op1 := D → (D → Prop) → Prop
def wBin (r : Op2) (a b : EW) : EW := fun X ρ Q => a X ρ fun x => b X ρ fun y => r x y Q
def wUn (r : Op1) (a : EW) : EW := fun X ρ Q => a X ρ fun x => r x Q
def wIf (t : TW) (a b : EW) : EW := fun X ρ Q => t X ρ fun k => if k = true then a X ρ Q else b X ρ Q
def wNil : AW := fun _ _ Q => Q []
def wCons (a : EW) (r : AW) : AW := fun X ρ Q => a X ρ fun x => r X ρ fun xs => Q (.d x :: xs)
/-- the source handed on -/
def wConsS (i : Nat) (r : AW) : AW := fun X ρ Q => match ρ[i]? with
  | some .src => r X ρ fun xs => Q (.src :: xs)
  | _ => False
def datas : List SV → Option (List D)
  | [] => some []
  | .d x :: r => (datas r).map (x :: ·)
  | _ :: _ => none
def wTup (t : AW) : EW := fun X ρ Q => t X ρ fun ss => match datas ss with
  | some xs => xs.length ≤ 100000 ∧ Q (.tup xs)
  | none => False
def wLst (t : AW) : EW := fun X ρ Q => t X ρ fun ss => match datas ss with
  | some xs => xs.length ≤ 100000 ∧ Q (.lst xs)
  | none => False
def lLst (t : AW) : LW := fun X ρ Q => t X ρ fun ss => match datas ss with
  | some xs => xs.length ≤ 100000 ∧ Q xs
  | none => False
/-- a built-in's call on data -/
abbrev OpN := List D → (D → Prop) → Prop
def wCB (r : OpN) (t : AW) : EW := fun X ρ Q => t X ρ fun ss => match datas ss with
  | some xs => r xs Q
  | none => False
def lCB (r : List D → (List D → Prop) → Prop) (t : AW) : LW := fun X ρ Q => t X ρ fun ss => match datas ss with
  | some xs => r xs Q
  | none => False
/-- a def's call -/
def wCall (sp : Spec) (t : AW) : EW := fun X ρ Q => t X ρ fun ss => sp ss (fun r => Q r.toD) (X ρ)
def lCall (sp : Spec) (t : AW) : LW := fun X ρ Q => t X ρ fun ss => sp ss (fun r => match r with | .own xs => Q xs | _ => False) (X ρ)
/-- a list that is made as data -/
def wOfL (l : LW) : EW := fun X ρ Q => l X ρ fun xs => Q (.lst xs)

/-! ### tests -/
def tB (a : EW) : TW := fun X ρ Q => a X ρ fun x => match x with
  | .bl k => Q k
  | _ => False
def tAndW (t u : TW) : TW := fun X ρ Q => t X ρ fun k => if k = true then u X ρ Q else Q false
def tOrW (t u : TW) : TW := fun X ρ Q => t X ρ fun k => if k = true then Q true else u X ρ Q
def tNotW (t : TW) : TW := fun X ρ Q => t X ρ fun k => Q (!k)
/-- and, or, not as values (of truths) -/
def wAnd (a b : EW) : EW := fun X ρ Q => a X ρ fun x => match x with
  | .bl k => if k = true then b X ρ Q else Q (.bl false)
  | _ => False
def wOr (a b : EW) : EW := fun X ρ Q => a X ρ fun x => match x with
  | .bl k => if k = true then Q (.bl true) else b X ρ Q
  | _ => False
def wNot (a : EW) : EW := fun X ρ Q => a X ρ fun x => match x with
  | .bl k => Q (.bl (!k))
  | _ => False
/-- a < b < c -/
def wChain (r r' : Op2) (a b c : EW) : EW := fun X ρ Q => a X ρ fun x => b X ρ fun y => r x y fun z => match z with
  | .bl k => if k = true then c X ρ fun u => r' y u Q else Q (.bl false)
  | _ => False
def tChainW (r r' : Op2) (a b c : EW) : TW := tB (wChain r r' a b c)

/-! ### operations on data -/
/-- one of both is small, or both together below a million bits -/
def IMul (i j : Int) : Prop := i.natAbs < 2 ^ 63 ∨ j.natAbs < 2 ^ 63 ∨ i.natAbs.log2 + j.natAbs.log2 < 1000000
def IDiv (j : Int) : Prop := 0 < j ∧ j.natAbs.log2 < 9000
def bAdd : Op2
  | .int i, .int j, Q => Q (.int (i + j))
  | .str s, .str t, Q => s.length + t.length ≤ 100000 ∧ Q (.str (s ++ t))
  | .tup xs, .tup ys, Q => xs.length + ys.length ≤ 100000 ∧ Q (.tup (xs ++ ys))
  | .lst xs, .lst ys, Q => xs.length + ys.length ≤ 100000 ∧ Q (.lst (xs ++ ys))
  | _, _, _ => False
def bSub : Op2
  | .int i, .int j, Q => Q (.int (i - j))
  | _, _, _ => False
def bMul : Op2
  | .int i, .int j, Q => IMul i j ∧ Q (.int (i * j))
  | _, _, _ => False
/-- a // b, b above 0 -/
def bFdiv : Op2
  | .int i, .int j, Q => IDiv j ∧ Q (.int (i / j))
  | _, _, _ => False
/-- a // b, b of any sign -/
def bFdivN : Op2
  | .int i, .int j, Q => (j ≠ 0 ∧ j.natAbs.log2 < 9000) ∧ Q (.int (i.fdiv j))
  | _, _, _ => False
def bMod : Op2
  | .int i, .int j, Q => 0 < j ∧ Q (.int (i % j))
  | _, _, _ => False
def bPow : Op2
  | .int i, .int j, Q => (0 ≤ j ∧ j ≤ 1000000 ∧ i.natAbs < 2 ^ 64) ∧ Q (.int (i ^ j.toNat))
  | _, _, _ => False
def bLt : Op2
  | .int i, .int j, Q => Q (.bl (decide (i < j)))
  | _, _, _ => False
def bLe : Op2
  | .int i, .int j, Q => Q (.bl (decide (i ≤ j)))
  | _, _, _ => False
def bGt : Op2
  | .int i, .int j, Q => Q (.bl (decide (j < i)))
  | _, _, _ => False
def bGe : Op2
  | .int i, .int j, Q => Q (.bl (decide (j ≤ i)))
  | _, _, _ => False
def bNeg : Op1
  | .int i, Q => Q (.int (-i))
  | _, _ => False
def bIsN : Op1
  | .non, Q => Q (.bl true)
  | _, Q => Q (.bl false)
def bNotN : Op1
  | .non, Q => Q (.bl false)
  | _, Q => Q (.bl true)

/-- Python's == of data without instances: none where it is not told -/
def toI : D → Option Int
  | .bl b => some (if b then 1 else 0)
  | .int i => some i
  | _ => none
mutual
def peq : D → D → Bool
  | .non, .non => true
  | .bl a, .bl b => a == b
  | .bl a, .int j => (if a then 1 else 0) == j
  | .int i, .bl b => i == (if b then 1 else 0)
  | .int i, .int j => i == j
  | .str s, .str t => s == t
  | .tup xs, .tup ys => peqL xs ys
  | .lst xs, .lst ys => peqL xs ys
  | _, _ => false
def peqL : List D → List D → Bool
  | [], [] => true
  | x :: xs, y :: ys => peq x y && peqL xs ys
  | _, _ => false
end
/-- data that may be compared: no instances, nested at most n deep -/
def toPy0 : D → PyData
  | .non => .none
  | .bl b => .bool b
  | .int i => .int i
  | .str s => .str s
  | _ => .none
mutual
def toPy : D → PyData
  | .non => .none
  | .bl b => .bool b
  | .int i => .int i
  | .str s => .str s
  | .tup xs => .tuple (toPyL xs)
  | .lst xs => .list (toPyL xs)
  | .ins _ _ _ => .none
def toPyL : List D → List PyData
  | [] => []
  | x :: xs => toPy x :: toPyL xs
end
mutual
def plain : Nat → D → Bool
  | 0, _ => false
  | _ + 1, .non => true
  | _ + 1, .bl _ => true
  | _ + 1, .int _ => true
  | _ + 1, .str s => PyData.strOk s
  | n + 1, .tup xs => plainL n xs
  | n + 1, .lst xs => plainL n xs
  | _ + 1, .ins _ _ _ => false
def plainL : Nat → List D → Bool
  | _, [] => true
  | n, x :: xs => plain n x && plainL n xs
end
/-- is True, is False, is not .. -/
def bIs : Op2
  | .bl a, .bl b, Q => Q (.bl (decide (a = b)))
  | _, _, _ => False
def bIsNot : Op2
  | .bl a, .bl b, Q => Q (.bl (!decide (a = b)))
  | _, _, _ => False
/-- x[i] -/
def bIx : Op2
  | .tup xs, .int i, Q => match L2.atI xs i with
    | some x => Q x
    | none => False
  | .lst xs, .int i, Q => match L2.atI xs i with
    | some x => Q x
    | none => False
  | .str s, .int i, Q => s.length ≤ 100000 ∧ match L2.atI s.cps.toList i with
    | some c => Q (.str ⟨#[c]⟩)
    | none => False
  | _, _, _ => False
/-- x[lo:hi] -/
def cutD (xs : List D) (lo hi : Option Int) : List D := (xs.drop (HT.sIx xs.length 0 lo)).take (HT.sIx xs.length xs.length hi - HT.sIx xs.length 0 lo)
abbrev OW := XD → Env → (Option Int → Prop) → Prop
def oNone : OW := fun _ _ Q => Q none
def oSome (a : EW) : OW := fun X ρ Q => a X ρ fun x => match x with
  | .int i => Q (some i)
  | _ => False
def wSl (a : EW) (lo hi : OW) : EW := fun X ρ Q => a X ρ fun x => lo X ρ fun l => hi X ρ fun h => match x with
  | .tup xs => Q (.tup (cutD xs l h))
  | .lst xs => Q (.lst (cutD xs l h))
  | .str s => s.length ≤ 100000 ∧ Q (.str (L2.cutS s l h))
  | _ => False
/-- x[::-1] of a list -/
def bRev : Op1
  | .lst xs, Q => Q (.lst xs.reverse)
  | _, _ => False
/-! ### built-ins -/
def bAbs : OpN
  | [.int i], Q => Q (.int (if i < 0 then -i else i))
  | _, _ => False
def bMax2 : OpN
  | [.int i, .int j], Q => Q (.int (if j > i then j else i))
  | _, _ => False
def bMin2 : OpN
  | [.int i, .int j], Q => Q (.int (if j < i then j else i))
  | _, _ => False
def bInt : OpN
  | [.int i], Q => Q (.int i)
  | [.bl b], Q => Q (.int (if b then 1 else 0))
  | _, _ => False
def bStr : OpN
  | [.int i], Q => i.natAbs.log2 < 1920 ∧ Q (.str (toString i))
  | _, _ => False
def bLen : OpN
  | [.tup xs], Q => Q (.int xs.length)
  | [.lst xs], Q => Q (.int xs.length)
  | [.str s], Q => s.length ≤ 100000 ∧ Q (.int s.length)
  | _, _ => False
def bTuple : OpN
  | [.lst xs], Q => Q (.tup xs)
  | [.tup xs], Q => Q (.tup xs)
  | _, _ => False
def bList : List D → (List D → Prop) → Prop
  | [.lst xs], Q => Q xs
  | [.tup xs], Q => Q xs
  | _, _ => False
def bools : List D → Option (List Bool)
  | [] => some []
  | .bl b :: r => (bools r).map (b :: ·)
  | _ :: _ => none
def bAll : OpN
  | [.lst xs], Q => match bools xs with
    | some bs => Q (.bl (bs.all id))
    | none => False
  | _, _ => False
def bAny : OpN
  | [.lst xs], Q => match bools xs with
    | some bs => Q (.bl (bs.any id))
    | none => False
  | _, _ => False
def intsD : List D → Option (List Int)
  | [] => some []
  | .int b :: r => (intsD r).map (b :: ·)
  | _ :: _ => none
def bSum : OpN
  | [.lst xs], Q => match intsD xs with
    | some ns => Q (.int ns.sum)
    | none => False
  | _, _ => False
def tyOf : D → Option String
  | .non => some "NoneType"
  | .bl _ => some "bool"
  | .int _ => some "int"
  | .str _ => some "str"
  | .tup _ => some "tuple"
  | .lst _ => some "list"
  | .ins _ _ _ => none
/-- isinstance(x, T) of built-in types -/
def isT : String → String → Bool
  | "bool", "bool" => true
  | "bool", "int" => true
  | "int", "int" => true
  | "str", "str" => true
  | "tuple", "tuple" => true
  | "list", "list" => true
  | _, _ => false
def bIsi (T : String) : Op1 := fun x Q => match tyOf x with
  | some t => Q (.bl (isT t T))
  | none => False
def bIsi2 (T U : String) : Op1 := fun x Q => match tyOf x with
  | some t => Q (.bl (isT t T || isT t U))
  | none => False
def bEq : Op2 := fun x y Q => plain 40 x = true ∧ plain 40 y = true ∧ Q (.bl (peq x y))
def bNe : Op2 := fun x y Q => plain 40 x = true ∧ plain 40 y = true ∧ Q (.bl (!peq x y))

/-! ### statements -/
def sNext : SW := fun _ DD ρ => DD.nx ρ
def sSeq (t u : SW) : SW := fun X DD ρ => t X { DD with nx := u X DD } ρ
def sBreak : SW := fun _ DD ρ => DD.bk ρ
def sCont : SW := fun _ DD ρ => DD.ct ρ
def sNever : SW := fun _ _ _ => False
def sDrop (a : EW) : SW := fun X DD ρ => a X ρ fun _ => DD.nx ρ
def sRet (a : EW) : SW := fun X DD ρ => a X ρ fun x => DD.rt (.d x)
def sRetN : SW := fun _ DD _ => DD.rt (.d .non)
/-- return x, x the frame's own list: the caller's own from there on -/
def sRetOwn (i : Nat) : SW := fun _ DD ρ => match ρ[i]? with
  | some (.own xs) => DD.rt (.own xs)
  | _ => False
def sRetL (l : LW) : SW := fun X DD ρ => l X ρ fun xs => DD.rt (.own xs)
def sIf (c : TW) (t u : SW) : SW := fun X DD ρ => c X ρ fun b => if b = true then t X DD ρ else u X DD ρ
def sAsg (a : EW) (g : GW) : SW := fun X DD ρ => a X ρ fun x => g x ρ DD.nx
def gNm (i : Nat) : GW := fun x ρ Q => Q (ρ.set i (.d x))
def gNilW : List D → Env → (Env → Prop) → Prop := fun xs ρ Q => xs = [] ∧ Q ρ
def gConsW (g : GW) (r : List D → Env → (Env → Prop) → Prop) : List D → Env → (Env → Prop) → Prop := fun xs ρ Q => match xs with
  | x :: t => g x ρ fun ρ' => r t ρ' Q
  | [] => False
def gTupW (r : List D → Env → (Env → Prop) → Prop) : GW := fun x ρ Q => match x with
  | .tup xs => r xs ρ Q
  | .lst xs => r xs ρ Q
  | _ => False
def sSetL (i : Nat) (l : LW) : SW := fun X DD ρ => l X ρ fun xs => DD.nx (ρ.set i (.own xs))
/-- arguments that may be fresh lists -/
def wConsL (l : LW) (r : AW) : AW := fun X ρ Q => l X ρ fun xs => r X ρ fun ss => Q (.own xs :: ss)
def setAll : List Nat → List SV → Env → Option Env
  | [], [], ρ => some ρ
  | i :: is, s :: ss, ρ => setAll is ss (ρ.set i s)
  | _, _, _ => none
/-- a, b, .. = x, y, .. -/
def sPar (is : List Nat) (t : AW) : SW := fun X DD ρ => t X ρ fun ss => match setAll is ss ρ with
  | some ρ' => DD.nx ρ'
  | none => False
def sAugI (i : Nat) (f : Int → Int → Int) (a : EW) : SW := fun X DD ρ => match ρ[i]? with
  | some (.d (.int x)) => a X ρ fun y => match y with
    | .int y => DD.nx (ρ.set i (.d (.int (f x y))))
    | _ => False
  | _ => False
/-- x.append(e), x[k] = e, x.pop(), x.pop(k), x.insert(k, e): x the frame's own list -/
def sAppend (i : Nat) (a : EW) : SW := fun X DD ρ => match ρ[i]? with
  | some (.own xs) => a X ρ fun x => xs.length < 100000 ∧ DD.nx (ρ.set i (.own (xs ++ [x])))
  | _ => False
def sSetItem (i : Nat) (k a : EW) : SW := fun X DD ρ => match ρ[i]? with
  | some (.own xs) => a X ρ fun x => k X ρ fun y => match y with
    | .int j => match L2.ixN xs.length j with
      | some n => DD.nx (ρ.set i (.own (xs.set n x)))
      | none => False
    | _ => False
  | _ => False
def sPop (i : Nat) : SW := fun _ DD ρ => match ρ[i]? with
  | some (.own xs) => xs ≠ [] ∧ DD.nx (ρ.set i (.own xs.dropLast))
  | _ => False
/-- from here on the list is data -/
def sFreeze (i : Nat) (t : SW) : SW := fun X DD ρ => match ρ[i]? with
  | some (.own xs) => t X DD (ρ.set i (.d (.lst xs)))
  | some (.d _) => t X DD ρ
  | _ => False
/-- x[k], the list x the frame's own -/
def wIxOwn (i : Nat) (k : EW) : EW := fun X ρ Q => match ρ[i]? with
  | some (.own xs) => k X ρ fun y => match y with
    | .int j => match L2.atI xs j with
      | some d => Q d
      | none => False
    | _ => False
  | _ => False
def scalarD : D → Prop
  | .non => True
  | .bl _ => True
  | .int _ => True
  | .str _ => True
  | _ => False
/-- x read as data in an expression that gives no object -/
def wBorrow (i : Nat) (w : EW) : EW := fun X ρ Q => match ρ[i]? with
  | some (.own xs) => w (fun _ _ => False) (ρ.set i (.d (.lst xs))) fun d => scalarD d ∧ Q d
  | _ => False
def tBorrow (i : Nat) (w : TW) : TW := fun X ρ Q => match ρ[i]? with
  | some (.own xs) => w (fun _ _ => False) (ρ.set i (.d (.lst xs))) Q
  | _ => False

/-! ### what is walked -/
abbrev IW := XD → Env → (List D → Prop) → Prop
def iSeq (a : EW) : IW := fun X ρ Q => a X ρ fun x => match x with
  | .tup xs => Q xs
  | .lst xs => Q xs
  | .str s => Q (s.cps.toList.map fun c => .str ⟨#[c]⟩)
  | _ => False
def rangeD (lo : Int) (n : Nat) : List D := (List.range n).map fun (k : Nat) => D.int (lo + (k : Int))
def iRange1 (a : EW) : IW := fun X ρ Q => a X ρ fun x => match x with
  | .int n => (-(2 ^ 62) ≤ n ∧ n < 2 ^ 62) ∧ Q (rangeD 0 n.toNat)
  | _ => False
def iRange2 (a b : EW) : IW := fun X ρ Q => a X ρ fun x => b X ρ fun y => match x, y with
  | .int m, .int n => (-(2 ^ 62) ≤ m ∧ m < 2 ^ 62 ∧ -(2 ^ 62) ≤ n ∧ n < 2 ^ 62) ∧ Q (rangeD m (n - m).toNat)
  | _, _ => False
def seqD : D → Option (List D)
  | .tup xs => some xs
  | .lst xs => some xs
  | _ => none
def pairD (xs ys : List D) : List D := List.zipWith (fun x y => .tup [x, y]) xs ys
def iZipW (a b : EW) : IW := fun X ρ Q => a X ρ fun x => b X ρ fun y => match x, y with
  | .lst xs, .lst ys => Q (pairD xs ys)
  | .tup xs, .tup ys => Q (pairD xs ys)
  | _, _ => False
def enumD (xs : List D) : List D := pairD (rangeD 0 xs.length) xs
def iEnumW (a : EW) : IW := fun X ρ Q => a X ρ fun x => match x with
  | .lst xs => Q (enumD xs)
  | .tup xs => Q (enumD xs)
  | _ => False
def forGo (g : GW) (b : SW) (X : XD) (DD : DEnds) : List D → Env → Prop
  | [], ρ => DD.nx ρ
  | x :: xs, ρ => g x ρ fun ρ' => b X { DD with nx := forGo g b X DD xs, ct := forGo g b X DD xs, bk := DD.nx } ρ'
def sFor (it : IW) (g : GW) (b : SW) : SW := fun X DD ρ => it X ρ fun xs => forGo g b X DD xs ρ
def sWhile (c : TW) (b : SW) : SW := fun X DD ρ => ∃ I : Nat → Env → Prop, (∃ m, I m ρ) ∧ ∀ m ρ, I m ρ →
  c X ρ fun k => if k = true then b X { DD with nx := fun ρ' => ∃ m', m' < m ∧ I m' ρ', ct := fun ρ' => ∃ m', m' < m ∧ I m' ρ', bk := DD.nx } ρ else DD.nx ρ
def tYesW : TW := fun _ _ Q => Q true
def wipeW (ρ : Env) : List Nat → Env
  | [] => ρ
  | v :: vs => (wipeW ρ vs).set v .un
def X0 : XD := fun _ _ => False
def compGo (g : GW) (t : TW) (a : EW) (ρ : Env) (Q : List D → Prop) : List D → List D → Prop
  | [], acc => Q acc
  | x :: xs, acc => g x ρ fun ρ' => t X0 ρ' fun k => if k = true then a X0 ρ' fun y => acc.length < 100000 ∧ compGo g t a ρ Q xs (acc ++ [y]) else compGo g t a ρ Q xs acc
/-- [a for g in it if t]: vs the comprehension's own slots -/
def lComp (it : IW) (g : GW) (t : TW) (a : EW) (vs : List Nat) : LW := fun X ρ Q => it X ρ fun xs => compGo g t a (wipeW ρ vs) Q xs []

def permL {α : Type} (idx : List Nat) (xs : List α) : List α := idx.filterMap fun i => xs[i]?
/-- f(k = e, ..): the values in the parameters' order -/
def wCallK (sp : Spec) (idx : List Nat) (t : AW) : EW := fun X ρ Q => t X ρ fun ss => ss.length = idx.length ∧ sp (permL idx ss) (fun r => Q r.toD) (X ρ)
end DL
set_option linter.all false
set_option autoImplicit false
set_option maxHeartbeats 2000000
/-! Each rule of the hand layer, lifted to data. -/
namespace DL
open PySem PySem.Spec PyProof.Rows L2

/-- a source of numbers: an object (and what it holds) that calls may change -/
structure SrcK where
  P : Addr → List Addr → Hp → Prop
  loc : ∀ {a : Addr} {fp : List Addr} {H H' : Hp}, P a fp H → (∀ b ∈ fp, H' b = H b) → P a fp H'
  tr : ∀ {a : Addr} {fp : List Addr} {H : Hp}, P a fp H → a ∈ fp ∧ ∀ b ∈ fp, H b ≠ none

section
variable (K : PySem.W.Frag)
mutual
def Rep (F : Hp) : D → V → Prop
  | .non, v => v = .non
  | .bl b, v => v = .bl b
  | .int i, v => v = .int i
  | .str s, v => v = .str s
  | .tup xs, v => ∃ (a : Addr) (vs : List V), v = .ref a ∧ SqT K F a vs ∧ RepL F xs vs
  | .lst xs, v => ∃ (a : Addr) (vs : List V), v = .ref a ∧ SqL K F a vs ∧ RepL F xs vs
  | .ins C ns xs, v => ∃ (a dx : Addr) (fs : List (Str × V)), v = .ref a ∧ F a = some (.ins C dx fs) ∧ fs.map (·.1) = ns ∧ RepL F xs (fs.map (·.2))
def RepL (F : Hp) : List D → List V → Prop
  | [], vs => vs = []
  | x :: xs, vs => ∃ (v : V) (r : List V), vs = v :: r ∧ Rep F x v ∧ RepL F xs r
end
end

section
variable {K : PySem.W.Frag} {F F' H H' : Hp}
theorem rd_same {a : Addr} {u : HO} (e : Same F F') (h : Rd F a u) : Rd F' a u := h.elim (fun z => .inl (e _ _ z)) fun ⟨o, z⟩ => .inr ⟨o, e _ _ z⟩
theorem same_l {a : Addr} {xs : List V} (e : Same F F') (h : SqL K F a xs) : SqL K F' a xs := h.elim (fun z => .inl (rd_same e z)) .inr
theorem same_t {a : Addr} {xs : List V} (e : Same F F') (h : SqT K F a xs) : SqT K F' a xs := by
  rcases h with (h | ⟨o, h⟩) | h
  · exact .inl (.inl (e _ _ h))
  · exact .inl (.inr ⟨o, e _ _ h⟩)
  · exact .inr h
mutual
theorem Rep.mono (e : Same F F') : ∀ (d : D) (v : V), Rep K F d v → Rep K F' d v
  | .non, _, h => h
  | .bl _, _, h => h
  | .int _, _, h => h
  | .str _, _, h => h
  | .tup xs, v, h => by
    obtain ⟨a, vs, e1, e2, e3⟩ := h
    exact ⟨a, vs, e1, same_t e e2, RepL.mono e xs vs e3⟩
  | .lst xs, v, h => by
    obtain ⟨a, vs, e1, e2, e3⟩ := h
    exact ⟨a, vs, e1, same_l e e2, RepL.mono e xs vs e3⟩
  | .ins C ns xs, v, h => by
    obtain ⟨a, dx, fs, e1, e2, e3, e4⟩ := h
    exact ⟨a, dx, fs, e1, e _ _ e2, e3, RepL.mono e xs _ e4⟩
theorem RepL.mono (e : Same F F') : ∀ (ds : List D) (vs : List V), RepL K F ds vs → RepL K F' ds vs
  | [], _, h => h
  | x :: xs, vs, h => by
    obtain ⟨v, r, e1, e2, e3⟩ := h
    exact ⟨v, r, e1, Rep.mono e x v e2, RepL.mono e xs r e3⟩
end
theorem RepL.len : ∀ {ds : List D} {vs : List V}, RepL K F ds vs → vs.length = ds.length
  | [], _, h => by
    have h : _ = [] := h
    rw [h] <;> rfl
  | x :: xs, vs, h => by
    obtain ⟨v, r, rfl, _, e3⟩ := h
    rw [List.length_cons, List.length_cons, RepL.len e3]
theorem RepL.get : ∀ {ds : List D} {vs : List V} {i : Nat} {d : D}, RepL K F ds vs → ds[i]? = some d → ∃ v, vs[i]? = some v ∧ Rep K F d v
  | [], _, _, _, _, e => by simp at e
  | x :: xs, vs, 0, d, h, e => by
    obtain ⟨v, r, rfl, e2, _⟩ := h
    have e : x = d := by simpa using e
    subst e
    exact ⟨v, rfl, e2⟩
  | x :: xs, vs, i + 1, d, h, e => by
    obtain ⟨v, r, rfl, _, e3⟩ := h
    have e : xs[i]? = some d := by simpa using e
    obtain ⟨u, h1, h2⟩ := RepL.get e3 e
    exact ⟨u, by simpa using h1, h2⟩
theorem RepL.app : ∀ {xs ys : List D} {vs ws : List V}, RepL K F xs vs → RepL K F ys ws → RepL K F (xs ++ ys) (vs ++ ws)
  | [], _, _, _, h, k => by
    have h : _ = [] := h
    subst h
    exact k
  | x :: xs, ys, vs, ws, h, k => by
    obtain ⟨v, r, rfl, e2, e3⟩ := h
    exact ⟨v, r ++ ws, rfl, e2, RepL.app e3 k⟩
theorem RepL.one {d : D} {v : V} (h : Rep K F d v) : RepL K F [d] [v] := ⟨v, [], rfl, h, rfl⟩
theorem RepL.take : ∀ {xs : List D} {vs : List V} (n : Nat), RepL K F xs vs → RepL K F (xs.take n) (vs.take n)
  | [], _, n, h => by
    have h : _ = [] := h
    subst h
    simp
    rfl
  | x :: xs, _, 0, h => rfl
  | x :: xs, _, n + 1, h => by
    obtain ⟨v, r, rfl, e2, e3⟩ := h
    exact ⟨v, r.take n, rfl, e2, RepL.take n e3⟩
theorem RepL.drop : ∀ {xs : List D} {vs : List V} (n : Nat), RepL K F xs vs → RepL K F (xs.drop n) (vs.drop n)
  | [], _, n, h => by
    have h : _ = [] := h
    subst h
    simp
    rfl
  | x :: xs, _, 0, h => h
  | x :: xs, _, n + 1, h => by
    obtain ⟨v, r, rfl, e2, e3⟩ := h
    exact RepL.drop n e3
theorem RepL.set : ∀ {xs : List D} {vs : List V} {d : D} {v : V} (n : Nat), RepL K F xs vs → Rep K F d v → RepL K F (xs.set n d) (vs.set n v)
  | [], _, _, _, n, h, k => by
    have h : _ = [] := h
    subst h
    rfl
  | x :: xs, _, d, v, 0, h, k => by
    obtain ⟨u, r, rfl, e2, e3⟩ := h
    exact ⟨v, r, rfl, k, e3⟩
  | x :: xs, _, d, v, n + 1, h, k => by
    obtain ⟨u, r, rfl, e2, e3⟩ := h
    exact ⟨u, r.set n v, rfl, e2, RepL.set n e3 k⟩
theorem RepL.erase : ∀ {xs : List D} {vs : List V} (n : Nat), RepL K F xs vs → RepL K F (xs.eraseIdx n) (vs.eraseIdx n)
  | [], _, n, h => by
    have h : _ = [] := h
    subst h
    rfl
  | x :: xs, _, 0, h => by
    obtain ⟨u, r, rfl, e2, e3⟩ := h
    exact e3
  | x :: xs, _, n + 1, h => by
    obtain ⟨u, r, rfl, e2, e3⟩ := h
    exact ⟨u, r.eraseIdx n, rfl, e2, RepL.erase n e3⟩
theorem RepL.rev : ∀ {xs : List D} {vs : List V}, RepL K F xs vs → RepL K F xs.reverse vs.reverse
  | [], _, h => by
    have h : _ = [] := h
    subst h
    rfl
  | x :: xs, _, h => by
    obtain ⟨u, r, rfl, e2, e3⟩ := h
    rw [List.reverse_cons, List.reverse_cons]
    exact RepL.app (RepL.rev e3) (RepL.one e2)
theorem RepL.dropLast {xs : List D} {vs : List V} (h : RepL K F xs vs) : RepL K F xs.dropLast vs.dropLast := by
  rw [List.dropLast_eq_take, List.dropLast_eq_take, h.len]
  exact h.take _
end

/-! ### what a frame holds -/
structure Cfg where
  src : Option (Addr × List Addr)
  F0 : Hp
  H0 : Hp
def Cfg.fp (c : Cfg) : List Addr := match c.src with
  | some p => p.2
  | none => []
def SlotOk (K : PySem.W.Frag) (c : Cfg) (F H : Hp) : SV → Option V → Prop
  | .un, _ => True
  | .d x, o => ∃ v, o = some v ∧ Rep K F x v
  | .own xs, o => ∃ (a : Addr) (vs : List V), o = some (.ref a) ∧ F a = none ∧ c.H0 a = none ∧ H a = some (.lst vs) ∧ RepL K F xs vs
  | .src, o => ∃ (a : Addr) (fp : List Addr), c.src = some (a, fp) ∧ o = some (.ref a)
structure EnvOk (Z : SrcK) (K : PySem.W.Frag) (c : Cfg) (F H : Hp) (σ : L2.St) (ρ : Env) : Prop where
  len : σ.length = ρ.length
  slot : ∀ (i : Nat) s, ρ[i]? = some s → ∃ o, σ[i]? = some o ∧ SlotOk K c F H s o
  sep : ∀ (i j : Nat) xs ys, i ≠ j → ρ[i]? = some (SV.own xs) → ρ[j]? = some (SV.own ys) → σ[i]? ≠ σ[j]?
  fh : Same F H
  f0 : Same c.F0 F
  new : ∀ b, F b ≠ none → c.F0 b ≠ none ∨ c.H0 b = none
  keep : ∀ b o, c.H0 b = some o → b ∉ c.fp → H b = some o
  all : ∀ b, c.H0 b ≠ none → H b ≠ none
  src : ∀ a fp, c.src = some (a, fp) → Z.P a fp H ∧ ∀ b ∈ fp, F b = none ∧ c.H0 b ≠ none
/-- all is kept, some is new -/
structure Ext (F H F' H' : Hp) : Prop where
  ff : Same F F'
  hh : Same H H'
  fh : Same F' H'
  new : ∀ b, F' b ≠ none → F b ≠ none ∨ H b = none
def Nx (H H' : Hp) : Prop := ∀ b, H b ≠ none → H' b ≠ none
theorem Nx.refl (H : Hp) : Nx H H := fun _ h => h
theorem Nx.trans {H H1 H2 : Hp} (a : Nx H H1) (b : Nx H1 H2) : Nx H H2 := fun x h => b x (a x h)
theorem Nx.free {H H' : Hp} (n : Nx H H') {a : Addr} (h : H' a = none) : H a = none := by
  cases q : H a with
  | none => rfl
  | some o => exact absurd h (n a (by rw [q]; simp))
theorem Same.nx {H H' : Hp} (e : Same H H') : Nx H H' := fun b h => by
  cases q : H b with
  | none => exact absurd q h
  | some o => rw [e b o q]; simp
/-- all that is tracked stays so; and stays as it is, but for the source; what is data from now on was so, or is new -/
structure Kx (fp : List Addr) (F H F' H' : Hp) : Prop where
  nx : Nx H H'
  kp : ∀ b o, H b = some o → b ∉ fp → H' b = some o
  new : ∀ b, F' b ≠ none → F b ≠ none ∨ H b = none
theorem Kx.refl (fp : List Addr) (F H : Hp) : Kx fp F H F H := ⟨Nx.refl H, fun _ _ h _ => h, fun _ h => .inl h⟩
theorem Kx.trans {fp : List Addr} {F H F1 H1 F2 H2 : Hp} (a : Kx fp F H F1 H1) (b : Kx fp F1 H1 F2 H2) : Kx fp F H F2 H2 :=
  ⟨a.nx.trans b.nx, fun x o h n => b.kp x o (a.kp x o h n) n, fun x h => (b.new x h).elim (a.new x) fun n => .inr (a.nx.free n)⟩
theorem Kx.free {fp : List Addr} {F H F' H' : Hp} (n : Kx fp F H F' H') {a : Addr} (h : H' a = none) : H a = none := n.nx.free h
theorem Ext.kx {fp : List Addr} {F H F' H' : Hp} (x : Ext F H F' H') : Kx fp F H F' H' := ⟨Same.nx x.hh, fun b o h _ => x.hh b o h, x.new⟩
theorem Kx.lay {fp : List Addr} {F H : Hp} {p : Addr} {o : HO} (h : H p = none) : Kx fp F H F (upd H p o) := ⟨fun b q => by
  by_cases hb : b = p
  · subst hb
    rw [upd_same]
    simp
  · rw [upd_ne hb]
    exact q, fun b u q _ => by
  rw [upd_ne (ne_of_none q h)]
  exact q, fun _ h => .inl h⟩
theorem ne_some {H : Hp} {b : Addr} (h : H b ≠ none) : ∃ o, H b = some o := by
  cases q : H b with
  | none => exact absurd q h
  | some o => exact ⟨o, rfl⟩
theorem Ext.refl {F H : Hp} (h : Same F H) : Ext F H F H := ⟨Same.refl _, Same.refl _, h, fun _ h => .inl h⟩
theorem Ext.trans {F H F1 H1 F2 H2 : Hp} (a : Ext F H F1 H1) (b : Ext F1 H1 F2 H2) : Ext F H F2 H2 :=
  ⟨a.ff.trans b.ff, a.hh.trans b.hh, b.fh, fun x h => (b.new x h).elim (a.new x) fun n => .inr ((Same.nx a.hh).free n)⟩
/-- a new object laid, frozen at once -/
theorem Ext.lay {F H : Hp} {p : Addr} {o : HO} (h : Same F H) (n : H p = none) : Ext F H (upd F p o) (upd H p o) := by
  have nf : F p = none := h.free n
  refine ⟨fun b u e => ?_, fun b u e => ?_, fun b u e => ?_, fun b e => ?_⟩
  · rw [upd_ne (ne_of_none e nf)]
    exact e
  · rw [upd_ne (ne_of_none e n)]
    exact e
  · by_cases hb : b = p
    · subst hb
      rw [upd_same] at e ⊢
      exact e
    · rw [upd_ne hb] at e ⊢
      exact h b u e
  · by_cases hb : b = p
    · subst hb
      exact .inr n
    · rw [upd_ne hb] at e
      exact .inl e
section
variable {Z : SrcK} {K : PySem.W.Frag} {c : Cfg} {F H F' H' : Hp} {σ : L2.St} {ρ : Env}
theorem Cfg.fp_of {a : Addr} {fp : List Addr} (h : c.src = some (a, fp)) : c.fp = fp := by
  unfold Cfg.fp
  rw [h]
theorem Cfg.of_fp {b : Addr} (h : b ∈ c.fp) : ∃ a fp, c.src = some (a, fp) ∧ b ∈ fp := by
  unfold Cfg.fp at h
  cases q : c.src with
  | none =>
    rw [q] at h
    cases h
  | some p =>
    rw [q] at h
    exact ⟨p.1, p.2, rfl, h⟩
theorem EnvOk.ext (e : EnvOk Z K c F H σ ρ) (x : Ext F H F' H') : EnvOk Z K c F' H' σ ρ where
  len := e.len
  slot := fun i s h => by
    obtain ⟨o, h1, h2⟩ := e.slot i s h
    refine ⟨o, h1, ?_⟩
    cases s with
    | un => trivial
    | d y =>
      obtain ⟨v, r1, r2⟩ := h2
      exact ⟨v, r1, Rep.mono x.ff _ _ r2⟩
    | own ys =>
      obtain ⟨a, vs, r1, r2, r3, r4, r5⟩ := h2
      refine ⟨a, vs, r1, ?_, r3, x.hh _ _ r4, RepL.mono x.ff _ _ r5⟩
      cases q : F' a with
      | none => rfl
      | some u =>
        rcases x.new a (by rw [q]; simp) with z | z
        · exact absurd r2 z
        · rw [r4] at z
          cases z
    | src => exact h2
  sep := e.sep
  fh := x.fh
  f0 := e.f0.trans x.ff
  new := fun b h => (x.new b h).elim (e.new b) fun n => .inr (by
    cases q : c.H0 b with
    | none => rfl
    | some o => exact absurd n (e.all b (by rw [q]; simp)))
  keep := fun b o h hb => x.hh _ _ (e.keep b o h hb)
  all := fun b h => Same.nx x.hh b (e.all b h)
  src := fun a fp h => by
    obtain ⟨p, q⟩ := e.src a fp h
    have t := (Z.tr p).2
    refine ⟨Z.loc p fun b hb => ?_, fun b hb => ⟨?_, (q b hb).2⟩⟩
    · obtain ⟨o, ho⟩ := ne_some (t b hb)
      rw [ho, x.hh _ _ ho]
    · cases z : F' b with
      | none => rfl
      | some u =>
        rcases x.new b (by rw [z]; simp) with k | k
        · exact absurd (q b hb).1 k
        · exact absurd k (t b hb)
end

/-! ### exceptions -/
def ExRep (K : PySem.W.Frag) (F H : Hp) (ex : Exc) (cls : Value) (dd : Option Addr) : Prop :=
  cls = .ref ex.cls ∧ match ex.fld with
    | none => dd = none
    | some (f, x) => ∃ (dx : Addr) (v : V), dd = some dx ∧ H dx = some (.xd [(f, v)]) ∧ Rep K F x v
def ELk (Z : SrcK) (K : PySem.W.Frag) (c : Cfg) (F : Hp) (E : L2.St → XK) (Xd : XD) : Prop :=
  ∀ (σ : L2.St) (ρ : Env) (ex : Exc) (F' H' : Hp) (cls : Value) (dd : Option Addr), Xd ρ ex → EnvOk Z K c F' H' σ ρ → Same F F' → ExRep K F' H' ex cls dd → E σ cls dd H'
theorem ELk.mono {Z : SrcK} {K : PySem.W.Frag} {c : Cfg} {F F1 : Hp} {E : L2.St → XK} {Xd : XD} (h : ELk Z K c F E Xd) (e : Same F F1) : ELk Z K c F1 E Xd :=
  fun σ ρ ex F' H' cls dd x o s r => h σ ρ ex F' H' cls dd x o (e.trans s) r

/-! ### what a reading does to data -/
def LE (Z : SrcK) (K : PySem.W.Frag) (E : L2.St → XK) (t : TE) (w : EW) : Prop :=
  ∀ (c : Cfg) (F H : Hp) (σ : L2.St) (ρ : Env) (Xd : XD) (Qd : D → Prop) (Qv : VK), EnvOk Z K c F H σ ρ → ELk Z K c F E Xd → w Xd ρ Qd →
    (∀ d v F' H', Qd d → EnvOk Z K c F' H' σ ρ → Same F F' → Kx c.fp F H F' H' → Rep K F' d v → Qv v H') → t σ H Qv
def LL (Z : SrcK) (K : PySem.W.Frag) (E : L2.St → XK) (t : TE) (w : LW) : Prop :=
  ∀ (c : Cfg) (F H : Hp) (σ : L2.St) (ρ : Env) (Xd : XD) (Qd : List D → Prop) (Qv : VK), EnvOk Z K c F H σ ρ → ELk Z K c F E Xd → w Xd ρ Qd →
    (∀ xs (a : Addr) vs F' H', Qd xs → EnvOk Z K c F' H' σ ρ → Same F F' → Kx c.fp F H F' H' → H a = none → F' a = none → H' a = some (.lst vs) → RepL K F' xs vs → Qv (.ref a) H') → t σ H Qv
def LT (Z : SrcK) (K : PySem.W.Frag) (E : L2.St → XK) (t : TT) (w : TW) : Prop :=
  ∀ (c : Cfg) (F H : Hp) (σ : L2.St) (ρ : Env) (Xd : XD) (Qd : Bool → Prop) (Qv : Bool → Hp → Prop), EnvOk Z K c F H σ ρ → ELk Z K c F E Xd → w Xd ρ Qd →
    (∀ b F' H', Qd b → EnvOk Z K c F' H' σ ρ → Same F F' → Kx c.fp F H F' H' → Qv b H') → t σ H Qv
def ArgOk (K : PySem.W.Frag) (src : Option (Addr × List Addr)) (F : Hp) : SV → V → Prop
  | .un, _ => False
  | .d x, v => Rep K F x v
  | .own _, _ => False
  | .src, v => ∃ (a : Addr) (fp : List Addr), src = some (a, fp) ∧ v = .ref a
def ArgsOk (K : PySem.W.Frag) (src : Option (Addr × List Addr)) (F : Hp) : List SV → List V → Prop
  | [], vs => vs = []
  | s :: r, vs => ∃ (v : V) (t : List V), vs = v :: t ∧ ArgOk K src F s v ∧ ArgsOk K src F r t
def LA (Z : SrcK) (K : PySem.W.Frag) (E : L2.St → XK) (t : TA) (w : AW) : Prop :=
  ∀ (c : Cfg) (F H : Hp) (σ : L2.St) (ρ : Env) (Xd : XD) (Qd : List SV → Prop) (Qv : List V → Hp → Prop), EnvOk Z K c F H σ ρ → ELk Z K c F E Xd → w Xd ρ Qd →
    (∀ ss vs F' H', Qd ss → EnvOk Z K c F' H' σ ρ → Same F F' → Kx c.fp F H F' H' → ArgsOk K c.src F' ss vs → Qv vs H') → t σ H Qv
def RepR (K : PySem.W.Frag) (F H0 H : Hp) : RV → V → Prop
  | .d x, v => Rep K F x v
  | .own xs, v => ∃ (a : Addr) (vs : List V), v = .ref a ∧ F a = none ∧ H0 a = none ∧ H a = some (.lst vs) ∧ RepL K F xs vs
structure EndsOk (Z : SrcK) (K : PySem.W.Frag) (c : Cfg) (F H : Hp) (DD : DEnds) (D : Ends) : Prop where
  nx : ∀ (σ : L2.St) (ρ : Env) (F' H' : Hp), DD.nx ρ → EnvOk Z K c F' H' σ ρ → Same F F' → Nx H H' → D.nx σ H'
  rt : ∀ (r : RV) (v : V) (σ : L2.St) (ρ : Env) (F' H' : Hp), DD.rt r → EnvOk Z K c F' H' σ ρ → Same F F' → RepR K F' c.H0 H' r v → D.rt v H'
  bk : ∀ (σ : L2.St) (ρ : Env) (F' H' : Hp), DD.bk ρ → EnvOk Z K c F' H' σ ρ → Same F F' → Nx H H' → D.bk σ H'
  ct : ∀ (σ : L2.St) (ρ : Env) (F' H' : Hp), DD.ct ρ → EnvOk Z K c F' H' σ ρ → Same F F' → Nx H H' → D.ct σ H'
theorem EndsOk.mono {Z : SrcK} {K : PySem.W.Frag} {c : Cfg} {F H F1 H1 : Hp} {DD : DEnds} {D : Ends} (h : EndsOk Z K c F H DD D) (e : Same F F1) (n : Nx H H1) : EndsOk Z K c F1 H1 DD D :=
  ⟨fun σ ρ F' H' a b s m => h.nx σ ρ F' H' a b (e.trans s) (n.trans m), fun r v σ ρ F' H' a b s m => h.rt r v σ ρ F' H' a b (e.trans s) m,
   fun σ ρ F' H' a b s m => h.bk σ ρ F' H' a b (e.trans s) (n.trans m), fun σ ρ F' H' a b s m => h.ct σ ρ F' H' a b (e.trans s) (n.trans m)⟩
def LS (Z : SrcK) (K : PySem.W.Frag) (E : L2.St → XK) (t : TS) (w : SW) : Prop :=
  ∀ (c : Cfg) (F H : Hp) (σ : L2.St) (ρ : Env) (Xd : XD) (DD : DEnds) (D : Ends), EnvOk Z K c F H σ ρ → ELk Z K c F E Xd → w Xd DD ρ → EndsOk Z K c F H DD D → t D σ H

/-! ### the judgements -/
def DE (Z : SrcK) (X : Cx) (E : L2.St → XK) (e : Expr) (w : EW) : Prop := ∃ t, PE X e t ∧ LE Z X.K E t w
def DLs (Z : SrcK) (X : Cx) (E : L2.St → XK) (e : Expr) (w : LW) : Prop := ∃ t, PE X e t ∧ LL Z X.K E t w
def DT (Z : SrcK) (X : Cx) (E : L2.St → XK) (e : Expr) (w : TW) : Prop := ∃ t, PT X e t ∧ LT Z X.K E t w
def DA (Z : SrcK) (X : Cx) (E : L2.St → XK) (es : List Expr) (w : AW) : Prop := ∃ t, PA X es t ∧ LA Z X.K E t w
def DS (Z : SrcK) (X : Cx) (E : L2.St → XK) (st : Stmt) (w : SW) : Prop := ∃ t, PS X st t ∧ LS Z X.K E t w
def DSs (Z : SrcK) (X : Cx) (E : L2.St → XK) (st : List Stmt) (w : SW) : Prop := ∃ t, PSs X st t ∧ LS Z X.K E t w

section
variable {Z : SrcK} {X : Cx} {E : L2.St → XK} {K : PySem.W.Frag} {a b e : Expr} {wa wb wc : EW} {pos : Pos}
/-! ### expressions -/
theorem le_var {i : Nat} : LE Z K E (tVar i) (wVar i) := fun c F H σ ρ Xd Qd Qv e _ h q => by
  unfold wVar at h
  cases q1 : ρ[i]? with
  | none =>
    rw [q1] at h
    exact h.elim
  | some s =>
    rw [q1] at h
    cases s with
    | d x =>
      obtain ⟨o, h1, v, h2, h3⟩ := e.slot i _ q1
      subst h2
      exact ⟨v, h1, q x v F H h e (Same.refl _) (Kx.refl _ _ _) h3⟩
    | un => exact h.elim
    | own _ => exact h.elim
    | src => exact h.elim
theorem de_var (i : Nat) {x : Str} (hN : X.N[i]? = some x := by rfl) (hv : Vis X.env.scope x := by first | exact Or.inl rfl | exact Or.inr (Or.inl rfl) | exact Or.inr (Or.inr rfl)) (hd : (x == ("__debug__" : Str)) = false := by decide)
    (hcd : (x == ("__classdict__" : Str)) = false := by decide) : DE Z X E (.Name x pos) (wVar i) := ⟨_, pe_var hN hv hd hcd, le_var⟩
theorem le_c {x : D} {v : V} (h : ∀ F, Rep K F x v) : LE Z K E (tC v) (wC x) := fun c F H σ ρ Xd Qd Qv e _ k q => q x v F H k e (Same.refl _) (Kx.refl _ _ _) (h F)
theorem de_int {i : Int} {j : Nat} : DE Z X E (.Constant (.int i) j pos) (wC (.int i)) := ⟨_, pe_int, le_c fun _ => rfl⟩
theorem de_bl {i : Bool} {j : Nat} : DE Z X E (.Constant (.bool i) j pos) (wC (.bl i)) := ⟨_, pe_bl, le_c fun _ => rfl⟩
theorem de_non {j : Nat} : DE Z X E (.Constant .none j pos) (wC .non) := ⟨_, pe_non, le_c fun _ => rfl⟩
theorem de_str {s : Str} {j : Nat} : DE Z X E (.Constant (.str s) j pos) (wC (.str s)) := ⟨_, pe_str, le_c fun _ => rfl⟩
/-- a constant of the module -/
theorem de_glob {x : Str} {d : D} {v : V} {u : Value} (r0 : ∀ F, Rep X.K F d v) (hm : X.mg x = some u) (r : RelV v u) (hg : Gl X x := by rfl) (hd : (x == ("__debug__" : Str)) = false := by decide) : DE Z X E (.Name x pos) (wC d) :=
  ⟨_, pe_glob hg hm r hd, le_c r0⟩
/-- two operands -/
def LOp (K : PySem.W.Frag) (r : R2) (o : Op2) : Prop := ∀ (F H : Hp) (dx dy : D) (vx vy : V) (Qd : D → Prop) (Qv : VK), Same F H → Rep K F dx vx → Rep K F dy vy → o dx dy Qd →
  (∀ d v F' H', Qd d → Ext F H F' H' → Rep K F' d v → Qv v H') → r vx vy H Qv
def LUn (K : PySem.W.Frag) (r : V → Hp → VK → Prop) (o : Op1) : Prop := ∀ (F H : Hp) (dx : D) (vx : V) (Qd : D → Prop) (Qv : VK), Same F H → Rep K F dx vx → o dx Qd →
  (∀ d v F' H', Qd d → Ext F H F' H' → Rep K F' d v → Qv v H') → r vx H Qv
theorem le_bin {r : R2} {o : Op2} {ta tb : TE} (ho : LOp K r o) (ha : LE Z K E ta wa) (hb : LE Z K E tb wb) : LE Z K E (tOp r ta tb) (wBin o wa wb) := fun c F H σ ρ Xd Qd Qv e l h q => by
  refine ha c F H σ ρ Xd _ _ e l h fun dx vx F1 H1 h1 e1 s1 n1 r1 => ?_
  refine hb c F1 H1 σ ρ Xd _ _ e1 (l.mono s1) h1 fun dy vy F2 H2 h2 e2 s2 n2 r2 => ?_
  refine ho F2 H2 dx dy vx vy _ _ e2.fh (Rep.mono s2 _ _ r1) r2 h2 fun d v F3 H3 h3 x3 r3 => ?_
  exact q d v F3 H3 h3 (e2.ext x3) ((s1.trans s2).trans x3.ff) ((n1.trans n2).trans x3.kx) r3
theorem le_un {r : V → Hp → VK → Prop} {o : Op1} {ta : TE} (ho : LUn K r o) (ha : LE Z K E ta wa) : LE Z K E (tUn r ta) (wUn o wa) := fun c F H σ ρ Xd Qd Qv e l h q => by
  refine ha c F H σ ρ Xd _ _ e l h fun dx vx F1 H1 h1 e1 s1 n1 r1 => ?_
  refine ho F1 H1 dx vx _ _ e1.fh r1 h1 fun d v F3 H3 h3 x3 r3 => ?_
  exact q d v F3 H3 h3 (e1.ext x3) (s1.trans x3.ff) (n1.trans x3.kx) r3
theorem LOp.or {r r' : R2} {o o' : Op2} (h : LOp K r o) (h' : LOp K r' o') : LOp K (fun x y H Q => r x y H Q ∨ r' x y H Q) (fun x y Q => o x y Q ∨ o' x y Q) := fun F H dx dy vx vy Qd Qv s rx ry z q =>
  z.elim (fun z => .inl (h F H dx dy vx vy Qd Qv s rx ry z q)) fun z => .inr (h' F H dx dy vx vy Qd Qv s rx ry z q)
theorem LOp.imp {r : R2} {o o' : Op2} (h : LOp K r o) (i : ∀ x y Q, o' x y Q → o x y Q) : LOp K r o' := fun F H dx dy vx vy Qd Qv s rx ry z q => h F H dx dy vx vy Qd Qv s rx ry (i _ _ _ z) q
theorem de_bin {op : Operator} {r : R2} {o : Op2} (ho : OpR X (binaryOp op) r) (hl : LOp X.K r o) (ha : DE Z X E a wa) (hb : DE Z X E b wb) : DE Z X E (.BinOp a op b pos) (wBin o wa wb) := by
  obtain ⟨ta, pa, la⟩ := ha
  obtain ⟨tb, pb, lb⟩ := hb
  exact ⟨_, pe_op ho pa pb, le_bin hl la lb⟩
theorem de_un {op : UnaryOp} {r : V → Hp → VK → Prop} {o : Op1} (ho : UnR X (unaryOp op) r) (hl : LUn X.K r o) (ha : DE Z X E a wa) : DE Z X E (.UnaryOp op a pos) (wUn o wa) := by
  obtain ⟨ta, pa, la⟩ := ha
  exact ⟨_, pe_un ho pa, le_un hl la⟩
theorem de_cmp {op : CmpOp} {r : R2} {o : Op2} (ho : OpR X (compareOp op) r) (hl : LOp X.K r o) (ha : DE Z X E a wa) (hb : DE Z X E b wb) (hm : behindInMarks op b = false) : DE Z X E (.Compare a [op] [b] pos) (wBin o wa wb) := by
  obtain ⟨ta, pa, la⟩ := ha
  obtain ⟨tb, pb, lb⟩ := hb
  exact ⟨_, pe_cmpR ho pa pb hm, le_bin hl la lb⟩
theorem lt_test {t : TE} {w : EW} (h : LE Z K E t w) : LT Z K E (tTest t) (tB w) := fun c F H σ ρ Xd Qd Qv e l k q => by
  refine h c F H σ ρ Xd _ _ e l k fun d v F1 H1 h1 e1 s1 n1 r1 => ?_
  cases d with
  | bl y =>
    have r1 : v = .bl y := r1
    exact ⟨y, r1, q y F1 H1 h1 e1 s1 n1⟩
  | non => exact h1.elim
  | int _ => exact h1.elim
  | str _ => exact h1.elim
  | tup _ => exact h1.elim
  | lst _ => exact h1.elim
  | ins _ _ _ => exact h1.elim
theorem dt_cmp {op : CmpOp} {r : R2} {o : Op2} (ho : OpR X (compareOp op) r) (hl : LOp X.K r o) (ha : DE Z X E a wa) (hb : DE Z X E b wb) (hm : behindInMarks op b = false) : DT Z X E (.Compare a [op] [b] pos) (tB (wBin o wa wb)) := by
  obtain ⟨ta, pa, la⟩ := ha
  obtain ⟨tb, pb, lb⟩ := hb
  exact ⟨_, pt_cmpR ho pa pb hm, lt_test (le_bin hl la lb)⟩
theorem dt_val {w : EW} (h : DE Z X E e w) (he : ∀ whole, isTrue e X.env whole = (do let v ← whole; standAt e.pos; holding [v] (truthy v)) := by intro _; rfl) : DT Z X E e (tB w) := by
  obtain ⟨t, p, l⟩ := h
  exact ⟨_, pt_val p he, lt_test l⟩
theorem dt_not {w : TW} (h : DT Z X E a w) : DT Z X E (.UnaryOp .Not a pos) (tNotW w) := by
  obtain ⟨t, p, l⟩ := h
  exact ⟨_, pt_not p, fun c F H σ ρ Xd Qd Qv e k z q => l c F H σ ρ Xd _ _ e k z fun b F1 H1 h1 e1 s1 n1 => q _ F1 H1 h1 e1 s1 n1⟩
/-- chains of and, or -/
def DW (Z : SrcK) (X : Cx) (E : L2.St → XK) (e : Expr) (w : TW) : Prop := ∃ t, PW X e t ∧ LT Z X.K E t w
theorem DW.dt {w : TW} (h : DW Z X E e w) : DT Z X E e w := by
  obtain ⟨t, p, l⟩ := h
  exact ⟨t, p.pt, l⟩
theorem lt_and {t u : TT} {w v : TW} (h : LT Z K E t w) (k : LT Z K E u v) : LT Z K E (tAnd t u) (tAndW w v) := fun c F H σ ρ Xd Qd Qv e l z q => by
  refine h c F H σ ρ Xd _ _ e l z fun b F1 H1 h1 e1 s1 n1 => ?_
  cases b with
  | true => exact k c F1 H1 σ ρ Xd _ _ e1 (l.mono s1) h1 fun b F2 H2 h2 e2 s2 n2 => q b F2 H2 h2 e2 (s1.trans s2) (n1.trans n2)
  | false => exact q false F1 H1 h1 e1 s1 n1
theorem lt_or {t u : TT} {w v : TW} (h : LT Z K E t w) (k : LT Z K E u v) : LT Z K E (tOr t u) (tOrW w v) := fun c F H σ ρ Xd Qd Qv e l z q => by
  refine h c F H σ ρ Xd _ _ e l z fun b F1 H1 h1 e1 s1 n1 => ?_
  cases b with
  | false => exact k c F1 H1 σ ρ Xd _ _ e1 (l.mono s1) h1 fun b F2 H2 h2 e2 s2 n2 => q b F2 H2 h2 e2 (s1.trans s2) (n1.trans n2)
  | true => exact q true F1 H1 h1 e1 s1 n1
variable {rest : List Expr}
theorem dw_and1 {w : TW} (h : DT Z X E a w) : DW Z X E (.BoolOp .And [a] pos) w := by
  obtain ⟨t, p, l⟩ := h
  exact ⟨t, pw_and1 p, l⟩
theorem dw_or1 {w : TW} (h : DT Z X E a w) : DW Z X E (.BoolOp .Or [a] pos) w := by
  obtain ⟨t, p, l⟩ := h
  exact ⟨t, pw_or1 p, l⟩
theorem dw_and {w v : TW} (h : DT Z X E a w) (k : DW Z X E (.BoolOp .And (b :: rest) pos) v) : DW Z X E (.BoolOp .And (a :: b :: rest) pos) (tAndW w v) := by
  obtain ⟨t, p, l⟩ := h
  obtain ⟨u, p', l'⟩ := k
  exact ⟨_, pw_and p p', lt_and l l'⟩
theorem dw_or {w v : TW} (h : DT Z X E a w) (k : DW Z X E (.BoolOp .Or (b :: rest) pos) v) : DW Z X E (.BoolOp .Or (a :: b :: rest) pos) (tOrW w v) := by
  obtain ⟨t, p, l⟩ := h
  obtain ⟨u, p', l'⟩ := k
  exact ⟨_, pw_or p p', lt_or l l'⟩
/-- as values -/
theorem de_one {op : BoolOp} {w : EW} (h : DE Z X E a w) : DE Z X E (.BoolOp op [a] pos) w := by
  obtain ⟨t, p, l⟩ := h
  exact ⟨t, pe_one p, l⟩
theorem le_and {ta tb : TE} (h : LE Z K E ta wa) (k : LE Z K E tb wb) : LE Z K E (tAndV ta tb) (wAnd wa wb) := fun c F H σ ρ Xd Qd Qv e l z q => by
  refine h c F H σ ρ Xd _ _ e l z fun d v F1 H1 h1 e1 s1 n1 r1 => ?_
  cases d with
  | bl y =>
    have r1 : v = .bl y := r1
    refine ⟨y, r1, ?_⟩
    cases y with
    | true => exact k c F1 H1 σ ρ Xd _ _ e1 (l.mono s1) h1 fun b v F2 H2 h2 e2 s2 n2 r2 => q b v F2 H2 h2 e2 (s1.trans s2) (n1.trans n2) r2
    | false => exact q (.bl false) _ F1 H1 h1 e1 s1 n1 rfl
  | non => exact h1.elim
  | int _ => exact h1.elim
  | str _ => exact h1.elim
  | tup _ => exact h1.elim
  | lst _ => exact h1.elim
  | ins _ _ _ => exact h1.elim
theorem le_or {ta tb : TE} (h : LE Z K E ta wa) (k : LE Z K E tb wb) : LE Z K E (tOrV ta tb) (wOr wa wb) := fun c F H σ ρ Xd Qd Qv e l z q => by
  refine h c F H σ ρ Xd _ _ e l z fun d v F1 H1 h1 e1 s1 n1 r1 => ?_
  cases d with
  | bl y =>
    have r1 : v = .bl y := r1
    refine ⟨y, r1, ?_⟩
    cases y with
    | false => exact k c F1 H1 σ ρ Xd _ _ e1 (l.mono s1) h1 fun b v F2 H2 h2 e2 s2 n2 r2 => q b v F2 H2 h2 e2 (s1.trans s2) (n1.trans n2) r2
    | true => exact q (.bl true) _ F1 H1 h1 e1 s1 n1 rfl
  | non => exact h1.elim
  | int _ => exact h1.elim
  | str _ => exact h1.elim
  | tup _ => exact h1.elim
  | lst _ => exact h1.elim
  | ins _ _ _ => exact h1.elim
theorem de_and (h : DE Z X E a wa) (k : DE Z X E (.BoolOp .And (b :: rest) pos) wb) : DE Z X E (.BoolOp .And (a :: b :: rest) pos) (wAnd wa wb) := by
  obtain ⟨t, p, l⟩ := h
  obtain ⟨u, p', l'⟩ := k
  exact ⟨_, pe_and p p', le_and l l'⟩
theorem de_or (h : DE Z X E a wa) (k : DE Z X E (.BoolOp .Or (b :: rest) pos) wb) : DE Z X E (.BoolOp .Or (a :: b :: rest) pos) (wOr wa wb) := by
  obtain ⟨t, p, l⟩ := h
  obtain ⟨u, p', l'⟩ := k
  exact ⟨_, pe_or p p', le_or l l'⟩
theorem de_not (h : DE Z X E a wa) : DE Z X E (.UnaryOp .Not a pos) (wNot wa) := by
  obtain ⟨t, p, l⟩ := h
  refine ⟨_, pe_not p, fun c F H σ ρ Xd Qd Qv e k z q => ?_⟩
  refine l c F H σ ρ Xd _ _ e k z fun d v F1 H1 h1 e1 s1 n1 r1 => ?_
  cases d with
  | bl y =>
    have r1 : v = .bl y := r1
    exact ⟨y, r1, q _ _ F1 H1 h1 e1 s1 n1 rfl⟩
  | non => exact h1.elim
  | int _ => exact h1.elim
  | str _ => exact h1.elim
  | tup _ => exact h1.elim
  | lst _ => exact h1.elim
  | ins _ _ _ => exact h1.elim
theorem de_if {c : Expr} {w : TW} (hc : DT Z X E c w) (ha : DE Z X E a wa) (hb : DE Z X E b wb) : DE Z X E (.IfExp c a b pos) (wIf w wa wb) := by
  obtain ⟨t, p, l⟩ := hc
  obtain ⟨ta, p1, l1⟩ := ha
  obtain ⟨tb, p2, l2⟩ := hb
  refine ⟨_, pe_ifExp p p1 p2, fun c F H σ ρ Xd Qd Qv e k z q => ?_⟩
  refine l c F H σ ρ Xd _ _ e k z fun b F1 H1 h1 e1 s1 n1 => ?_
  cases b with
  | true => exact l1 c F1 H1 σ ρ Xd _ _ e1 (k.mono s1) h1 fun b v F2 H2 h2 e2 s2 n2 r2 => q b v F2 H2 h2 e2 (s1.trans s2) (n1.trans n2) r2
  | false => exact l2 c F1 H1 σ ρ Xd _ _ e1 (k.mono s1) h1 fun b v F2 H2 h2 e2 s2 n2 r2 => q b v F2 H2 h2 e2 (s1.trans s2) (n1.trans n2) r2
theorem le_is {t : TE} {w : EW} : LE Z K E t w → LE Z K E t w := id
end
end DL
set_option linter.all false
set_option autoImplicit false
set_option maxHeartbeats 2000000
/-! Operators, displays, subscripts, calls. -/
namespace DL
open PySem PySem.Spec PyProof.Rows L2

theorem sz {n : Nat} (h : n ≤ 100000) : n ≤ sizeLine := Nat.le_trans h (by decide)
theorem szlt {n : Nat} (h : n < 100000) : n < sizeLine := Nat.lt_of_lt_of_le h (by decide)
/-! ### what a reading of a value gives back -/
section
variable {K : PySem.W.Frag} {F H : Hp} {v : V}
theorem rep_tup {xs : List D} {a : Addr} {vs : List V} (h : SqT K F a vs) (r : RepL K F xs vs) : Rep K F (.tup xs) (.ref a) := ⟨a, vs, rfl, h, r⟩
theorem rep_lst {xs : List D} {a : Addr} {vs : List V} (h : SqL K F a vs) (r : RepL K F xs vs) : Rep K F (.lst xs) (.ref a) := ⟨a, vs, rfl, h, r⟩
/-- a new tuple | list of what is represented -/
theorem lay_tup {xs : List D} {vs : List V} {p : Addr} (h : Same F H) (r : RepL K F xs vs) (n : H p = none) : Ext F H (upd F p (.tup vs)) (upd H p (.tup vs)) ∧ Rep K (upd F p (.tup vs)) (.tup xs) (.ref p) := by
  have x := Ext.lay (o := .tup vs) h n
  exact ⟨x, p, vs, rfl, SqT.of upd_same, RepL.mono x.ff _ _ r⟩
theorem lay_lst {xs : List D} {vs : List V} {p : Addr} (h : Same F H) (r : RepL K F xs vs) (n : H p = none) : Ext F H (upd F p (.lst vs)) (upd H p (.lst vs)) ∧ Rep K (upd F p (.lst vs)) (.lst xs) (.ref p) := by
  have x := Ext.lay (o := .lst vs) h n
  exact ⟨x, p, vs, rfl, SqL.of upd_same, RepL.mono x.ff _ _ r⟩
end

/-! ### operators -/
section
variable {X : Cx} {K : PySem.W.Frag}
theorem lop_I {C : Int → Int → Prop} {g : Int → Int → Int} {o : Op2} (h : ∀ x y Q, o x y Q → ∃ i j, x = .int i ∧ y = .int j ∧ C i j ∧ Q (.int (g i j))) : LOp K (rI C fun i j => .int (g i j)) o := fun F H dx dy vx vy Qd Qv s rx ry z q => by
  obtain ⟨i, j, rfl, rfl, hc, hq⟩ := h _ _ _ z
  exact ⟨i, j, rx, ry, hc, q _ _ F H hq (Ext.refl s) rfl⟩
theorem lop_I0 {g : Int → Int → Int} {o : Op2} (h : ∀ x y Q, o x y Q → ∃ i j, x = .int i ∧ y = .int j ∧ Q (.int (g i j))) : LOp K (rI0 fun i j => .int (g i j)) o := fun F H dx dy vx vy Qd Qv s rx ry z q => by
  obtain ⟨i, j, rfl, rfl, hq⟩ := h _ _ _ z
  exact ⟨i, j, rx, ry, q _ _ F H hq (Ext.refl s) rfl⟩
theorem lop_B0 {g : Int → Int → Bool} {o : Op2} (h : ∀ x y Q, o x y Q → ∃ i j, x = .int i ∧ y = .int j ∧ Q (.bl (g i j))) : LOp K (rI0 fun i j => .bl (g i j)) o := fun F H dx dy vx vy Qd Qv s rx ry z q => by
  obtain ⟨i, j, rfl, rfl, hq⟩ := h _ _ _ z
  exact ⟨i, j, rx, ry, q _ _ F H hq (Ext.refl s) rfl⟩
theorem lop_sub : LOp K (rI0 fun i j => .int (i - j)) bSub := lop_I0 fun x y Q h => by
  unfold bSub at h
  split at h
  · exact ⟨_, _, rfl, rfl, h⟩
  · exact h.elim
theorem intBits_log (x : Int) : Builtin.Int.intBits x ≤ x.natAbs.log2 + 1 := by
  unfold Builtin.Int.intBits
  split <;> omega
theorem intBits_small {x : Int} (h : x.natAbs < 2 ^ 63) : Builtin.Int.intBits x ≤ 64 := by
  have a := intBits_log x
  have b : x.natAbs.log2 < 63 := PySem.Flt.log2_lt_of (by decide) h
  omega
theorem IMul.ok {i j : Int} (h : IMul i j) : IntMulOk i j := by
  rcases h with h | h | h
  · exact .of_left (intBits_small h)
  · exact .of_right (intBits_small h)
  · exact CMulW.ok h
theorem op_mulD : OpR X (binaryOp .Mult) (rI IMul fun i j => .int (i * j)) := opI fun _ _ _ _ _ _ _ hc q => mul_int q hc.ok
theorem lop_mul : LOp K (rI IMul fun i j => .int (i * j)) bMul := lop_I fun x y Q h => by
  unfold bMul at h
  split at h
  · exact ⟨_, _, rfl, rfl, h.1, h.2⟩
  · exact h.elim
theorem lop_fdiv : LOp K (rI CDivW fun i j => .int (i / j)) bFdiv := lop_I fun x y Q h => by
  unfold bFdiv at h
  split at h
  · exact ⟨_, _, rfl, rfl, h.1, h.2⟩
  · exact h.elim
theorem op_fdivNW : OpR X (binaryOp .FloorDiv) (rI (fun _ j => j ≠ 0 ∧ j.natAbs.log2 < 9000) fun i j => .int (i.fdiv j)) := opI fun i j _ _ _ _ _ hc q =>
  floordiv_int hc.1 q (.inl (PyProof.noPylong_of_log2 hc.2))
theorem lop_fdivN : LOp K (rI (fun _ j => j ≠ 0 ∧ j.natAbs.log2 < 9000) fun i j => .int (i.fdiv j)) bFdivN := lop_I fun x y Q h => by
  unfold bFdivN at h
  split at h
  · exact ⟨_, _, rfl, rfl, h.1, h.2⟩
  · exact h.elim
theorem lop_mod : LOp K (rI (fun _ j => 0 < j) fun i j => .int (i % j)) bMod := lop_I (C := fun _ j => 0 < j) fun x y Q h => by
  unfold bMod at h
  split at h
  · exact ⟨_, _, rfl, rfl, h.1, h.2⟩
  · exact h.elim
theorem lop_pow : LOp K (rI CPow fun i j => .int (i ^ j.toNat)) bPow := lop_I fun x y Q h => by
  unfold bPow at h
  split at h
  · exact ⟨_, _, rfl, rfl, h.1, h.2⟩
  · exact h.elim
theorem lop_lt : LOp K (rI0 fun i j => .bl (decide (i < j))) bLt := lop_B0 fun x y Q h => by
  unfold bLt at h
  split at h
  · exact ⟨_, _, rfl, rfl, h⟩
  · exact h.elim
theorem lop_le : LOp K (rI0 fun i j => .bl (decide (i ≤ j))) bLe := lop_B0 fun x y Q h => by
  unfold bLe at h
  split at h
  · exact ⟨_, _, rfl, rfl, h⟩
  · exact h.elim
theorem lop_gt : LOp K (rI0 fun i j => .bl (decide (j < i))) bGt := lop_B0 fun x y Q h => by
  unfold bGt at h
  split at h
  · exact ⟨_, _, rfl, rfl, h⟩
  · exact h.elim
theorem lop_ge : LOp K (rI0 fun i j => .bl (decide (j ≤ i))) bGe := lop_B0 fun x y Q h => by
  unfold bGe at h
  split at h
  · exact ⟨_, _, rfl, rfl, h⟩
  · exact h.elim
theorem lun_neg : LUn K (rU fun i => .int (-i)) bNeg := fun F H dx vx Qd Qv s rx z q => by
  unfold bNeg at z
  split at z
  · exact ⟨_, rx, q _ _ F H z (Ext.refl s) rfl⟩
  · exact z.elim
/-- + of ints, texts, tuples, lists -/
def rAddS : R2 := fun x y H Q => ∃ i j, x = .str i ∧ y = .str j ∧ i.length + j.length ≤ sizeLine ∧ Q (.str (i ++ j)) H
theorem op_addS : OpR X (binaryOp .Add) rAddS := op_add_str
def rCatR (K : PySem.W.Frag) : R2 := fun x y H Q => ∃ l b xs zs, x = .ref l ∧ y = .ref b ∧ SqL K H l xs ∧ SqL K H b zs ∧ xs.length + zs.length ≤ sizeLine ∧ ∀ p, H p = none → Q (.ref p) (upd H p (.lst (xs ++ zs)))
section
variable {l b : Addr} {us ws : Array Value} {n m : Nat} {s1 s2 : Array (Option Value)}
/-- two lists as they stand -/
def Two (l b : Addr) (us ws : Array Value) (n m : Nat) (s1 s2 : Array (Option Value)) (h : Heap) : Prop := h.get? l = some ⟨.type "list", none, .seq us n, s1⟩ ∧ h.get? b = some ⟨.type "list", none, .seq ws m, s2⟩
theorem meets_cat (hz : us.size + ws.size ≤ sizeLine) : Meets (Builtin.«list.__add__» ⟨[.ref l, .ref b], []⟩) (fun _ R s => Two l b us ws n m s1 s2 s.heap ∧ R (.ok (.ret (Value.ref s.heap.objs.size))) { s with heap := s.heap.push { cls := Value.type "list", data := Data.seq (us ++ ws) } }) :=
  .of_wp fun prog w A R s h => by
    obtain ⟨hp, g, d, tk, os⟩ := s
    obtain ⟨⟨hl, hb⟩, h⟩ := h
    have f3 := sub_list_list
    have f5 := sub_list_tuple
    wp_walk using wpAny_loadPart' hl, wpAny_loadPart' hb
    exact ⟨_, rfl, h⟩
end
theorem plain_obj {h : Heap} {a : Addr} {its : Array Value} (p : PlainL h a its) : ∃ n sl, h.get? a = some ⟨.type "list", none, .seq its n, sl⟩ := by
  obtain ⟨o, n, e, e1, e2, e3⟩ := p
  obtain ⟨oc, od, oda, osl⟩ := o
  cases e1
  cases e2
  cases e3
  exact ⟨n, osl, e⟩
theorem op_catR : OpR X (binaryOp .Add) (rCatR X.K) := by
  intro pins s σ H x y v u Q I rx ry h
  obtain ⟨l, b, xs, zs, rfl, rfl, hH, hB, hz, q⟩ := h
  cases rx
  cases ry
  obtain ⟨its, r, pl, z⟩ := I.list hH
  obtain ⟨its2, r2, pl2, z2⟩ := I.list hB
  obtain ⟨n, sl, e⟩ := plain_obj pl
  obtain ⟨n2, sl2, e2⟩ := plain_obj pl2
  have hl := r.length
  have hl2 := r2.length
  have hzz : its.toArray.size + its2.toArray.size ≤ sizeLine := by rw [List.size_toArray, List.size_toArray]; omega
  refine PySem.concat_meets ⟨_, e, rfl⟩ ⟨_, e2, rfl⟩ PySem.noFill_list_add PySem.seq_list_add F.slot_list_add F.entry_list_add (F.args_list_add_2 _ _) (meets_cat hzz) ⟨⟨e, e2⟩, ?_⟩
  have ea : its.toArray ++ its2.toArray = (its ++ its2).toArray := by simp
  rw [ea]
  exact ⟨.ref _, _, I.lnew (t' := s.toks) (r.append r2) (by rw [List.length_append]; omega), rfl, q _ I.fresh⟩
def rAddD (K : PySem.W.Frag) : R2 := fun x y H Q => (rI0 fun i j => .int (i + j)) x y H Q ∨ rAddS x y H Q ∨ rCatA K x y H Q ∨ rCatR K x y H Q
theorem op_addD : OpR X (binaryOp .Add) (rAddD X.K) := op_add.or (op_addS.or (op_catA.or op_catR))
theorem lop_add : LOp K (rAddD K) bAdd := fun F H dx dy vx vy Qd Qv s rx ry z q => by
  unfold bAdd at z
  split at z
  · exact .inl ⟨_, _, rx, ry, q _ _ F H z (Ext.refl s) rfl⟩
  · exact .inr (.inl ⟨_, _, rx, ry, sz z.1, q _ _ F H z.2 (Ext.refl s) rfl⟩)
  · rename_i xs ys
    obtain ⟨a, vs, rfl, ha, ra⟩ := rx
    obtain ⟨b, ws, rfl, hb, rb⟩ := ry
    have hl : vs.length + ws.length ≤ sizeLine := by rw [ra.len, rb.len]; exact sz z.1
    refine .inr (.inr (.inl ⟨a, b, vs, ws, rfl, rfl, same_t s ha, same_t s hb, hl, fun e => ?_, fun _ e => ?_, fun _ _ p hp => ?_⟩))
    · subst e
      have e2 : xs = [] := List.eq_nil_of_length_eq_zero (by rw [← ra.len]; rfl)
      subst e2
      exact q _ _ F H z.2 (Ext.refl s) (rep_tup hb rb)
    · subst e
      have e2 : ys = [] := List.eq_nil_of_length_eq_zero (by rw [← rb.len]; rfl)
      subst e2
      refine q _ _ F H z.2 (Ext.refl s) ?_
      rw [List.append_nil]
      exact rep_tup ha ra
    · obtain ⟨x, r⟩ := lay_tup s (ra.app rb) hp
      exact q _ _ _ _ z.2 x r
  · rename_i xs ys
    obtain ⟨a, vs, rfl, ha, ra⟩ := rx
    obtain ⟨b, ws, rfl, hb, rb⟩ := ry
    refine .inr (.inr (.inr ⟨a, b, vs, ws, rfl, rfl, same_l s ha, same_l s hb, by rw [ra.len, rb.len]; exact sz z.1, fun p hp => ?_⟩))
    obtain ⟨x, r⟩ := lay_lst s (ra.app rb) hp
    exact q _ _ _ _ z.2 x r
  · exact z.elim

/-! ### == -/
mutual
theorem rep_dp {F H : Hp} (e : Same F H) : ∀ (n : Nat) (d : D) (v : V), plain n d = true → Rep K F d v → Dp K H v (toPy d)
  | 0, _, _, h, _ => by
    simp [plain] at h
  | n + 1, .non, v, _, r => by
    have r : v = .non := r
    subst r
    exact .non
  | n + 1, .bl b, v, _, r => by
    have r : v = .bl b := r
    subst r
    exact .bl b
  | n + 1, .int b, v, _, r => by
    have r : v = .int b := r
    subst r
    exact .int b
  | n + 1, .str b, v, _, r => by
    have r : v = .str b := r
    subst r
    exact .str b
  | n + 1, .tup xs, v, h, r => by
    obtain ⟨a, vs, e1, e2, e3⟩ := r
    subst e1
    have h : plainL n xs = true := by
      simp only [plain] at h
      exact h
    exact .tup (same_t e e2) (repL_dp e n xs vs h e3)
  | n + 1, .lst xs, v, h, r => by
    obtain ⟨a, vs, e1, e2, e3⟩ := r
    subst e1
    have h : plainL n xs = true := by
      simp only [plain] at h
      exact h
    exact .lst (same_l e e2) (repL_dp e n xs vs h e3)
  | n + 1, .ins C ns xs, _, h, _ => by
    simp [plain] at h
theorem repL_dp {F H : Hp} (e : Same F H) : ∀ (n : Nat) (ds : List D) (vs : List V), plainL n ds = true → RepL K F ds vs → DpAll K H vs (toPyL ds)
  | _, [], vs, _, r => by
    have r : vs = [] := r
    subst r
    exact .nil
  | n, x :: xs, vs, h, r => by
    obtain ⟨v, t, e1, e2, e3⟩ := r
    subst e1
    simp only [plainL, Bool.and_eq_true] at h
    exact .cons (rep_dp e n x v h.1 e2) (repL_dp e n xs t h.2 e3)
end
mutual
theorem plain_lay : ∀ (n : Nat) (d : D), plain n d = true → (toPy d).canLay0 = true ∧ (toPy d).depth ≤ n
  | 0, _, h => by
    simp [plain] at h
  | n + 1, .non, _ => by simp [toPy, PyData.canLay0, PyData.depth]
  | n + 1, .bl b, _ => by simp [toPy, PyData.canLay0, PyData.depth]
  | n + 1, .int b, _ => by simp [toPy, PyData.canLay0, PyData.depth]
  | n + 1, .str b, h => by
    simp only [plain] at h
    simp [toPy, PyData.canLay0, PyData.depth, h]
  | n + 1, .tup xs, h => by
    simp only [plain] at h
    have q := plainL_lay n xs h
    simp only [toPy, PyData.canLay0, PyData.depth]
    exact ⟨q.1, by omega⟩
  | n + 1, .lst xs, h => by
    simp only [plain] at h
    have q := plainL_lay n xs h
    simp only [toPy, PyData.canLay0, PyData.depth]
    exact ⟨q.1, by omega⟩
  | n + 1, .ins C ns xs, h => by
    simp [plain] at h
theorem plainL_lay : ∀ (n : Nat) (ds : List D), plainL n ds = true → PyData.canLayAll0 (toPyL ds) = true ∧ PyData.depthAll (toPyL ds) ≤ n
  | n, [], _ => by simp [toPyL, PyData.canLayAll0, PyData.depthAll]
  | n, x :: xs, h => by
    simp only [plainL, Bool.and_eq_true] at h
    have q1 := plain_lay n x h.1
    have q2 := plainL_lay n xs h.2
    simp only [toPyL, PyData.canLayAll0, PyData.depthAll, Bool.and_eq_true]
    exact ⟨⟨q1.1, q2.1⟩, by omega⟩
end
theorem plain_shaped {d : D} (h : plain 40 d = true) : SeqAt.shaped (toPy d) = true := by
  obtain ⟨a, b⟩ := plain_lay 40 d h
  unfold SeqAt.shaped
  rw [a, decide_eq_true (Nat.le_trans b (by decide))]
  rfl
mutual
theorem eqv_peq : ∀ (n : Nat) (d e : D), plain n d = true → plain n e = true → PyData.eqv (toPy d) (toPy e) = peq d e
  | 0, _, _, h, _ => by simp [plain] at h
  | n + 1, .tup xs, .tup ys, h, k => by
    simp only [plain] at h k
    simp only [toPy, PyData.eqv, peq]
    exact eqv_peqL n xs ys h k
  | n + 1, .lst xs, .lst ys, h, k => by
    simp only [plain] at h k
    simp only [toPy, PyData.eqv, peq]
    exact eqv_peqL n xs ys h k
  | n + 1, .ins _ _ _, _, h, _ => by simp [plain] at h
  | n + 1, .non, e, h, k => by cases e <;> simp_all [toPy, PyData.eqv, peq, plain]
  | n + 1, .bl b, e, h, k => by cases e <;> simp_all [toPy, PyData.eqv, peq, plain]
  | n + 1, .int b, e, h, k => by cases e <;> simp_all [toPy, PyData.eqv, peq, plain]
  | n + 1, .str b, e, h, k => by cases e <;> simp_all [toPy, PyData.eqv, peq, plain]
  | n + 1, .tup xs, .non, h, k => by simp [toPy, PyData.eqv, peq]
  | n + 1, .tup xs, .bl _, h, k => by simp [toPy, PyData.eqv, peq]
  | n + 1, .tup xs, .int _, h, k => by simp [toPy, PyData.eqv, peq]
  | n + 1, .tup xs, .str _, h, k => by simp [toPy, PyData.eqv, peq]
  | n + 1, .tup xs, .lst _, h, k => by simp [toPy, PyData.eqv, peq]
  | n + 1, .tup xs, .ins _ _ _, h, k => by simp [plain] at k
  | n + 1, .lst xs, .non, h, k => by simp [toPy, PyData.eqv, peq]
  | n + 1, .lst xs, .bl _, h, k => by simp [toPy, PyData.eqv, peq]
  | n + 1, .lst xs, .int _, h, k => by simp [toPy, PyData.eqv, peq]
  | n + 1, .lst xs, .str _, h, k => by simp [toPy, PyData.eqv, peq]
  | n + 1, .lst xs, .tup _, h, k => by simp [toPy, PyData.eqv, peq]
  | n + 1, .lst xs, .ins _ _ _, h, k => by simp [plain] at k
theorem eqv_peqL : ∀ (n : Nat) (d e : List D), plainL n d = true → plainL n e = true → PyData.eqvAll (toPyL d) (toPyL e) = peqL d e
  | n, [], [], _, _ => by simp [toPyL, PyData.eqvAll, peqL]
  | n, [], y :: ys, _, _ => by simp [toPyL, PyData.eqvAll, peqL]
  | n, x :: xs, [], _, _ => by simp [toPyL, PyData.eqvAll, peqL]
  | n, x :: xs, y :: ys, h, k => by
    simp only [plainL, Bool.and_eq_true] at h k
    simp only [toPyL, PyData.eqvAll, peqL]
    rw [eqv_peq n x y h.1 k.1, eqv_peqL n xs ys h.2 k.2]
end
theorem lop_eq : LOp K (rEqD K) bEq := fun F H dx dy vx vy Qd Qv s rx ry z q => by
  obtain ⟨h1, h2, h3⟩ := z
  refine ⟨toPy dx, toPy dy, rep_dp s _ _ _ h1 rx, rep_dp s _ _ _ h2 ry, plain_shaped h1, plain_shaped h2, ?_⟩
  rw [eqv_peq _ _ _ h1 h2]
  exact q _ _ F H h3 (Ext.refl s) rfl
theorem lop_ne : LOp K (rNeD K) bNe := fun F H dx dy vx vy Qd Qv s rx ry z q => by
  obtain ⟨h1, h2, h3⟩ := z
  refine ⟨toPy dx, toPy dy, rep_dp s _ _ _ h1 rx, rep_dp s _ _ _ h2 ry, plain_shaped h1, plain_shaped h2, ?_⟩
  rw [eqv_peq _ _ _ h1 h2]
  exact q _ _ F H h3 (Ext.refl s) rfl
end
end DL
set_option linter.all false
set_option autoImplicit false
set_option maxHeartbeats 2000000
/-! Subscripts, arguments, displays, built-ins, calls. -/
namespace DL
open PySem PySem.Spec PyProof.Rows L2

section
variable {Z : SrcK} {X : Cx} {E : L2.St → XK} {K : PySem.W.Frag} {a b e : Expr} {wa wb wc : EW} {pos : Pos}
/-! ### is None, is True -/
theorem lun_isN {ta : TE} (ha : LE Z K E ta wa) : LE Z K E (tOp (fun x y H Q => y = .non ∧ Q (.bl (decide (x = .non))) H) ta (tC .non)) (wUn bIsN wa) := fun c F H σ ρ Xd Qd Qv e l h q => by
  refine ha c F H σ ρ Xd _ _ e l h fun d v F1 H1 h1 e1 s1 n1 r1 => ⟨rfl, ?_⟩
  cases d with
  | non =>
    have r1 : v = .non := r1
    subst r1
    exact q _ _ F1 H1 h1 e1 s1 n1 rfl
  | bl _ => (have r1 : v = _ := r1); subst r1; exact q _ _ F1 H1 h1 e1 s1 n1 rfl
  | int _ => (have r1 : v = _ := r1); subst r1; exact q _ _ F1 H1 h1 e1 s1 n1 rfl
  | str _ => (have r1 : v = _ := r1); subst r1; exact q _ _ F1 H1 h1 e1 s1 n1 rfl
  | tup _ => obtain ⟨_, _, r1, _⟩ := r1; subst r1; exact q _ _ F1 H1 h1 e1 s1 n1 rfl
  | lst _ => obtain ⟨_, _, r1, _⟩ := r1; subst r1; exact q _ _ F1 H1 h1 e1 s1 n1 rfl
  | ins _ _ _ => obtain ⟨_, _, _, r1, _⟩ := r1; subst r1; exact q _ _ F1 H1 h1 e1 s1 n1 rfl
theorem lun_notN {ta : TE} (ha : LE Z K E ta wa) : LE Z K E (tOp (fun x y H Q => y = .non ∧ Q (.bl (!decide (x = .non))) H) ta (tC .non)) (wUn bNotN wa) := fun c F H σ ρ Xd Qd Qv e l h q => by
  refine ha c F H σ ρ Xd _ _ e l h fun d v F1 H1 h1 e1 s1 n1 r1 => ⟨rfl, ?_⟩
  cases d with
  | non =>
    have r1 : v = .non := r1
    subst r1
    exact q _ _ F1 H1 h1 e1 s1 n1 rfl
  | bl _ => (have r1 : v = _ := r1); subst r1; exact q _ _ F1 H1 h1 e1 s1 n1 rfl
  | int _ => (have r1 : v = _ := r1); subst r1; exact q _ _ F1 H1 h1 e1 s1 n1 rfl
  | str _ => (have r1 : v = _ := r1); subst r1; exact q _ _ F1 H1 h1 e1 s1 n1 rfl
  | tup _ => obtain ⟨_, _, r1, _⟩ := r1; subst r1; exact q _ _ F1 H1 h1 e1 s1 n1 rfl
  | lst _ => obtain ⟨_, _, r1, _⟩ := r1; subst r1; exact q _ _ F1 H1 h1 e1 s1 n1 rfl
  | ins _ _ _ => obtain ⟨_, _, _, r1, _⟩ := r1; subst r1; exact q _ _ F1 H1 h1 e1 s1 n1 rfl
theorem de_isN {j : Nat} {p : Pos} (ha : DE Z X E a wa) : DE Z X E (.Compare a [.Is] [.Constant .none j p] pos) (wUn bIsN wa) := by
  obtain ⟨t, p, l⟩ := ha
  exact ⟨_, pe_cmpR op_isN p pe_non (nomark _), lun_isN l⟩
theorem de_notN {j : Nat} {p : Pos} (ha : DE Z X E a wa) : DE Z X E (.Compare a [.IsNot] [.Constant .none j p] pos) (wUn bNotN wa) := by
  obtain ⟨t, p, l⟩ := ha
  exact ⟨_, pe_cmpR op_notN p pe_non (nomark _), lun_notN l⟩
theorem dt_isN {j : Nat} {p : Pos} (ha : DE Z X E a wa) : DT Z X E (.Compare a [.Is] [.Constant .none j p] pos) (tB (wUn bIsN wa)) := by
  obtain ⟨t, p, l⟩ := ha
  exact ⟨_, pt_cmpR op_isN p pe_non (nomark _), lt_test (lun_isN l)⟩
theorem dt_notN {j : Nat} {p : Pos} (ha : DE Z X E a wa) : DT Z X E (.Compare a [.IsNot] [.Constant .none j p] pos) (tB (wUn bNotN wa)) := by
  obtain ⟨t, p, l⟩ := ha
  exact ⟨_, pt_cmpR op_notN p pe_non (nomark _), lt_test (lun_notN l)⟩
theorem lop_is : LOp K (fun x y H Q => ∃ a b, x = .bl a ∧ y = .bl b ∧ Q (.bl (decide (a = b))) H) bIs := fun F H dx dy vx vy Qd Qv s rx ry z q => by
  unfold bIs at z
  split at z
  · exact ⟨_, _, rx, ry, q _ _ F H z (Ext.refl s) rfl⟩
  · exact z.elim
theorem lop_isNot : LOp K (fun x y H Q => ∃ a b, x = .bl a ∧ y = .bl b ∧ Q (.bl (!decide (a = b))) H) bIsNot := fun F H dx dy vx vy Qd Qv s rx ry z q => by
  unfold bIsNot at z
  split at z
  · exact ⟨_, _, rx, ry, q _ _ F H z (Ext.refl s) rfl⟩
  · exact z.elim

/-! ### chains -/
theorem le_chain {r r' : R2} {o o' : Op2} {ta tb tc : TE} (ho : LOp K r o) (ho' : LOp K r' o') (ha : LE Z K E ta wa) (hb : LE Z K E tb wb) (hc : LE Z K E tc wc) : LE Z K E (tChain r r' ta tb tc) (wChain o o' wa wb wc) := fun c F H σ ρ Xd Qd Qv e l h q => by
  refine ha c F H σ ρ Xd _ _ e l h fun dx vx F1 H1 h1 e1 s1 n1 r1 => ?_
  refine hb c F1 H1 σ ρ Xd _ _ e1 (l.mono s1) h1 fun dy vy F2 H2 h2 e2 s2 n2 r2 => ?_
  refine ho F2 H2 dx dy vx vy _ _ e2.fh (Rep.mono s2 _ _ r1) r2 h2 fun d v F3 H3 h3 x3 r3 => ?_
  cases d with
  | bl k =>
    refine ⟨k, r3, ?_⟩
    have e3 := e2.ext x3
    have s3 := (s1.trans s2).trans x3.ff
    have n3 := (n1.trans n2).trans x3.kx
    cases k with
    | true =>
      have h3 : wc Xd ρ fun u => o' dy u Qd := h3
      rw [if_pos rfl]
      refine hc c F3 H3 σ ρ Xd _ _ e3 (l.mono s3) h3 fun dz vz F4 H4 h4 e4 s4 n4 r4 => ?_
      refine ho' F4 H4 dy dz vy vz _ _ e4.fh (Rep.mono (x3.ff.trans s4) _ _ r2) r4 h4 fun d v F5 H5 h5 x5 r5 => ?_
      exact q d v F5 H5 h5 (e4.ext x5) ((s3.trans s4).trans x5.ff) ((n3.trans n4).trans x5.kx) r5
    | false =>
      exact q _ _ F3 H3 h3 e3 s3 n3 rfl
  | non => exact h3.elim
  | int _ => exact h3.elim
  | str _ => exact h3.elim
  | tup _ => exact h3.elim
  | lst _ => exact h3.elim
  | ins _ _ _ => exact h3.elim
theorem lt_chain {r r' : R2} {o o' : Op2} {ta tb tc : TE} (ho : LOp K r o) (ho' : LOp K r' o') (ha : LE Z K E ta wa) (hb : LE Z K E tb wb) (hc : LE Z K E tc wc) : LT Z K E (tTest (tChain r r' ta tb tc)) (tB (wChain o o' wa wb wc)) := lt_test (le_chain ho ho' ha hb hc)
theorem dt_chain {c : Expr} {op op' : CmpOp} {r r' : R2} {o o' : Op2} (ho : OpR X (compareOp op) r) (ho' : OpR X (compareOp op') r') (hl : LOp X.K r o) (hl' : LOp X.K r' o') (ha : DE Z X E a wa) (hb : DE Z X E b wb) (hc : DE Z X E c wc)
    (hm : lastMarks [op, op'] [b, c] = false := by with_unfolding_all rfl) : DT Z X E (.Compare a [op, op'] [b, c] pos) (tB (wChain o o' wa wb wc)) := by
  obtain ⟨ta, pa, la⟩ := ha
  obtain ⟨tb, pb, lb⟩ := hb
  obtain ⟨tc, pc, lc⟩ := hc
  exact ⟨_, pt_chain ho ho' pa pb pc hm, lt_chain hl hl' la lb lc⟩
theorem de_chain {c : Expr} {op op' : CmpOp} {r r' : R2} {o o' : Op2} (ho : OpR X (compareOp op) r) (ho' : OpR X (compareOp op') r') (hl : LOp X.K r o) (hl' : LOp X.K r' o') (ha : DE Z X E a wa) (hb : DE Z X E b wb) (hc : DE Z X E c wc)
    (hm : lastMarks [op, op'] [b, c] = false := by with_unfolding_all rfl) : DE Z X E (.Compare a [op, op'] [b, c] pos) (wChain o o' wa wb wc) := by
  obtain ⟨ta, pa, la⟩ := ha
  obtain ⟨tb, pb, lb⟩ := hb
  obtain ⟨tc, pc, lc⟩ := hc
  exact ⟨_, pe_chain ho ho' pa pb pc hm, le_chain hl hl' la lb lc⟩

/-! ### subscripts -/
theorem atI_rep {F : Hp} {xs : List D} {vs : List V} {i : Int} {d : D} (r : RepL K F xs vs) (h : atI xs i = some d) : ∃ v, atI vs i = some v ∧ Rep K F d v := by
  unfold atI at h ⊢
  rw [r.len]
  cases q : ixN xs.length i with
  | none =>
    rw [q] at h
    cases h
  | some j =>
    rw [q] at h
    exact r.get h
theorem lop_ix : LOp K (rIx K) bIx := fun F H dx dy vx vy Qd Qv s rx ry z q => by
  unfold bIx at z
  split at z
  · rename_i xs i
    obtain ⟨p, vs, rfl, h1, h2⟩ := rx
    cases k : atI xs i with
    | none => rw [k] at z; exact z.elim
    | some d =>
      rw [k] at z
      obtain ⟨v, h3, h4⟩ := atI_rep h2 k
      exact .inr (.inl ⟨p, vs, i, v, rfl, ry, same_t s h1, h3, q d v F H z (Ext.refl s) h4⟩)
  · rename_i xs i
    obtain ⟨p, vs, rfl, h1, h2⟩ := rx
    cases k : atI xs i with
    | none => rw [k] at z; exact z.elim
    | some d =>
      rw [k] at z
      obtain ⟨v, h3, h4⟩ := atI_rep h2 k
      exact .inl ⟨p, vs, i, v, rfl, ry, same_l s h1, h3, q d v F H z (Ext.refl s) h4⟩
  · rename_i t i
    obtain ⟨z1, z⟩ := z
    cases k : atI t.cps.toList i with
    | none => rw [k] at z; exact z.elim
    | some c =>
      rw [k] at z
      exact .inr (.inr ⟨t, i, c, rx, ry, sz z1, k, q _ _ F H z (Ext.refl s) rfl⟩)
  · exact z.elim
theorem de_ix (ha : DE Z X E a wa) (hb : DE Z X E b wb) (hs : PlainIx b := by exact fun _ _ => rfl) : DE Z X E (.Subscript a b pos) (wBin bIx wa wb) := by
  obtain ⟨ta, pa, la⟩ := ha
  obtain ⟨tb, pb, lb⟩ := hb
  exact ⟨_, pe_ix ix_seq pa pb hs, le_bin lop_ix la lb⟩
/-! ### slices -/
def LO (Z : SrcK) (K : PySem.W.Frag) (E : L2.St → XK) (t : TO) (w : OW) : Prop :=
  ∀ (c : Cfg) (F H : Hp) (σ : L2.St) (ρ : Env) (Xd : XD) (Qd : Option Int → Prop) (Qv : Option Int → Hp → Prop), EnvOk Z K c F H σ ρ → ELk Z K c F E Xd → w Xd ρ Qd →
    (∀ o F' H', Qd o → EnvOk Z K c F' H' σ ρ → Same F F' → Kx c.fp F H F' H' → Qv o H') → t σ H Qv
def DO (Z : SrcK) (X : Cx) (E : L2.St → XK) (e : Option Expr) (w : OW) : Prop := ∃ t, PO X e t ∧ LO Z X.K E t w
theorem do_none : DO Z X E none oNone := ⟨_, po_none, fun c F H σ ρ Xd Qd Qv e _ h q => q none F H h e (Same.refl _) (Kx.refl _ _ _)⟩
theorem do_some (h : DE Z X E e wa) : DO Z X E (some e) (oSome wa) := by
  obtain ⟨t, p, l⟩ := h
  refine ⟨_, po_some p, fun c F H σ ρ Xd Qd Qv e k h q => ?_⟩
  refine l c F H σ ρ Xd _ _ e k h fun d v F1 H1 h1 e1 s1 n1 r1 => ?_
  cases d with
  | int i => exact ⟨i, r1, q _ F1 H1 h1 e1 s1 n1⟩
  | non => exact h1.elim
  | bl _ => exact h1.elim
  | str _ => exact h1.elim
  | tup _ => exact h1.elim
  | lst _ => exact h1.elim
  | ins _ _ _ => exact h1.elim
theorem cut_rep {F : Hp} {xs : List D} {vs : List V} {lo hi : Option Int} (r : RepL K F xs vs) : RepL K F (cutD xs lo hi) (cutV vs lo hi) := by
  unfold cutD cutV
  rw [r.len]
  exact (r.drop _).take _
theorem cut_whole {xs : List D} {lo hi : Option Int} (h : HT.sIx xs.length 0 lo = 0 ∧ HT.sIx xs.length xs.length hi = xs.length) : cutD xs lo hi = xs := by
  unfold cutD
  rw [h.1, h.2, List.drop_zero, Nat.sub_zero, List.take_length]
def rSlD (K : PySem.W.Frag) : V → Option Int → Option Int → Hp → VK → Prop := fun x lo hi H Q => rSlA K x lo hi H Q ∨ rSlL K x lo hi H Q ∨ rSlS x lo hi H Q
theorem de_slice {lo hi : Option Expr} {wl wh : OW} {p2 : Pos} (ha : DE Z X E a wa) (hl : DO Z X E lo wl) (hh : DO Z X E hi wh) : DE Z X E (.Subscript a (.Slice lo hi none p2) pos) (wSl wa wl wh) := by
  obtain ⟨t, p, l⟩ := ha
  obtain ⟨t1, p1, l1⟩ := hl
  obtain ⟨t2, p3, l2⟩ := hh
  refine ⟨_, pe_slice (sl_tupA.or (sl_list.or sl_str)) p p1 p3, fun c F H σ ρ Xd Qd Qv e k h q => ?_⟩
  refine l c F H σ ρ Xd _ _ e k h fun d v F1 H1 h1 e1 s1 n1 r1 => ?_
  refine l1 c F1 H1 σ ρ Xd _ _ e1 (k.mono s1) h1 fun o1 F2 H2 h2 e2 s2 n2 => ?_
  refine l2 c F2 H2 σ ρ Xd _ _ e2 (k.mono (s1.trans s2)) h2 fun o2 F3 H3 h3 e3 s3 n3 => ?_
  have r3 := Rep.mono (s2.trans s3) _ _ r1
  have sF := (s1.trans s2).trans s3
  have nF := (n1.trans n2).trans n3
  cases d with
  | tup xs =>
    obtain ⟨a, vs, rfl, h4, h5⟩ := r3
    refine .inl ⟨a, vs, rfl, same_t e3.fh h4, fun w => ?_, fun _ p hp => ?_⟩
    · rw [h5.len] at w
      have w2 := cut_whole w
      have h3 : Qd (.tup (cutD xs o1 o2)) := h3
      rw [w2] at h3
      exact q _ _ F3 H3 h3 e3 sF nF ⟨a, vs, rfl, h4, h5⟩
    · obtain ⟨x, r⟩ := lay_tup e3.fh (cut_rep (lo := o1) (hi := o2) h5) hp
      exact q _ _ _ _ h3 (e3.ext x) (sF.trans x.ff) (nF.trans x.kx) r
  | lst xs =>
    obtain ⟨a, vs, rfl, h4, h5⟩ := r3
    refine .inr (.inl ⟨a, vs, rfl, same_l e3.fh h4, fun p hp => ?_⟩)
    obtain ⟨x, r⟩ := lay_lst e3.fh (cut_rep (lo := o1) (hi := o2) h5) hp
    exact q _ _ _ _ h3 (e3.ext x) (sF.trans x.ff) (nF.trans x.kx) r
  | str s => exact .inr (.inr ⟨s, r3, sz h3.1, q _ _ F3 H3 h3.2 e3 sF nF rfl⟩)
  | non => exact h3.elim
  | bl _ => exact h3.elim
  | int _ => exact h3.elim
  | ins _ _ _ => exact h3.elim
theorem de_rev {k : Nat} {p1 p2 p3 : Pos} (ha : DE Z X E a wa) : DE Z X E (.Subscript a (.Slice none none (some (.UnaryOp .USub (.Constant (.int 1) k p1) p2)) p3) pos) (wUn bRev wa) := by
  obtain ⟨t, p, l⟩ := ha
  refine ⟨_, pe_revL p, fun c F H σ ρ Xd Qd Qv e k h q => ?_⟩
  refine l c F H σ ρ Xd _ _ e k h fun d v F1 H1 h1 e1 s1 n1 r1 => ?_
  cases d with
  | lst xs =>
    obtain ⟨a, vs, rfl, h4, h5⟩ := r1
    refine ⟨a, vs, rfl, same_l e1.fh h4, fun p hp => ?_⟩
    obtain ⟨x, r⟩ := lay_lst e1.fh h5.rev hp
    exact q _ _ _ _ h1 (e1.ext x) (s1.trans x.ff) (n1.trans x.kx) r
  | non => exact h1.elim
  | bl _ => exact h1.elim
  | int _ => exact h1.elim
  | str _ => exact h1.elim
  | tup _ => exact h1.elim
  | ins _ _ _ => exact h1.elim

/-! ### arguments, displays -/
theorem ArgsOk.mono {src : Option (Addr × List Addr)} {F F' : Hp} (e : Same F F') : ∀ {ss : List SV} {vs : List V}, ArgsOk K src F ss vs → ArgsOk K src F' ss vs
  | [], _, h => h
  | s :: r, vs, h => by
    obtain ⟨v, t, e1, e2, e3⟩ := h
    refine ⟨v, t, e1, ?_, ArgsOk.mono e e3⟩
    cases s with
    | d x => exact Rep.mono e _ _ e2
    | un => exact e2
    | own _ => exact e2
    | src => exact e2
theorem ArgsOk.datas {src : Option (Addr × List Addr)} {F : Hp} : ∀ {ss : List SV} {vs : List V} {xs : List D}, ArgsOk K src F ss vs → datas ss = some xs → RepL K F xs vs
  | [], _, xs, h, e => by
    have e : some [] = some xs := e
    cases e
    exact h
  | .d x :: r, vs, xs, h, e => by
    obtain ⟨v, t, e1, e2, e3⟩ := h
    cases q : DL.datas r with
    | none => rw [DL.datas, q] at e; cases e
    | some ys =>
      rw [DL.datas, q] at e
      cases e
      exact ⟨v, t, e1, e2, ArgsOk.datas e3 q⟩
  | .un :: r, _, _, h, e => by cases e
  | .own _ :: r, _, _, h, e => by cases e
  | .src :: r, _, _, h, e => by cases e
variable {es : List Expr} {ws : AW}
theorem da_nil : DA Z X E [] wNil := ⟨_, pa_nil, fun c F H σ ρ Xd Qd Qv e _ h q => q [] [] F H h e (Same.refl _) (Kx.refl _ _ _) rfl⟩
theorem da_cons (ha : DE Z X E e wa) (hr : DA Z X E es ws) (hs : starEach (e :: es) X.env = (false, eval e X.env) :: starEach es X.env := by rfl) : DA Z X E (e :: es) (wCons wa ws) := by
  obtain ⟨t, p, l⟩ := ha
  obtain ⟨t1, p1, l1⟩ := hr
  refine ⟨_, pa_cons p p1 hs, fun c F H σ ρ Xd Qd Qv e k h q => ?_⟩
  refine l c F H σ ρ Xd _ _ e k h fun d v F1 H1 h1 e1 s1 n1 r1 => ?_
  refine l1 c F1 H1 σ ρ Xd _ _ e1 (k.mono s1) h1 fun ss vs F2 H2 h2 e2 s2 n2 r2 => ?_
  exact q _ _ F2 H2 h2 e2 (s1.trans s2) (n1.trans n2) ⟨v, vs, rfl, Rep.mono s2 _ _ r1, r2⟩
/-- the source handed on -/
theorem da_src {x : Str} {p : Pos} (i : Nat) (hr : DA Z X E es ws) (hN : X.N[i]? = some x := by rfl) (hv : Vis X.env.scope x := by first | exact Or.inl rfl | exact Or.inr (Or.inl rfl) | exact Or.inr (Or.inr rfl)) (hd : (x == ("__debug__" : Str)) = false := by decide)
    (hcd : (x == ("__classdict__" : Str)) = false := by decide) (hs : starEach (.Name x p :: es) X.env = (false, eval (.Name x p) X.env) :: starEach es X.env := by rfl) : DA Z X E (.Name x p :: es) (wConsS i ws) := by
  obtain ⟨t1, p1, l1⟩ := hr
  refine ⟨_, pa_cons (pe_var hN hv hd hcd) p1 hs, fun c F H σ ρ Xd Qd Qv e k h q => ?_⟩
  unfold wConsS at h
  cases q1 : ρ[i]? with
  | none => rw [q1] at h; exact h.elim
  | some s =>
    rw [q1] at h
    cases s with
    | src =>
      obtain ⟨o, h1, a, fp, h2, h3⟩ := e.slot i _ q1
      subst h3
      refine ⟨.ref a, h1, ?_⟩
      exact l1 c F H σ ρ Xd _ _ e k h fun ss vs F2 H2 h2' e2 s2 n2 r2 => q _ _ F2 H2 h2' e2 s2 n2 ⟨.ref a, vs, rfl, ⟨a, fp, h2, rfl⟩, r2⟩
    | un => exact h.elim
    | own _ => exact h.elim
    | d _ => exact h.elim
theorem de_tup {x1 : Nat} (h : DA Z X E es ws) : DE Z X E (.Tuple es x1 pos) (wTup ws) := by
  obtain ⟨t, p, l⟩ := h
  refine ⟨_, pe_tup p, fun c F H σ ρ Xd Qd Qv e k h q => ?_⟩
  refine l c F H σ ρ Xd _ _ e k h fun ss vs F1 H1 h1 e1 s1 n1 r1 => ?_
  cases q1 : datas ss with
  | none => rw [q1] at h1; exact h1.elim
  | some xs =>
    rw [q1] at h1
    have rr := r1.datas q1
    refine ⟨by rw [rr.len]; exact sz h1.1, fun p hp => ?_⟩
    obtain ⟨x, r⟩ := lay_tup e1.fh rr hp
    exact q _ _ _ _ h1.2 (e1.ext x) (s1.trans x.ff) (n1.trans x.kx) r
theorem de_lst (h : DA Z X E es ws) : DE Z X E (.List es pos) (wLst ws) := by
  obtain ⟨t, p, l⟩ := h
  refine ⟨_, pe_lst p, fun c F H σ ρ Xd Qd Qv e k h q => ?_⟩
  refine l c F H σ ρ Xd _ _ e k h fun ss vs F1 H1 h1 e1 s1 n1 r1 => ?_
  cases q1 : datas ss with
  | none => rw [q1] at h1; exact h1.elim
  | some xs =>
    rw [q1] at h1
    have rr := r1.datas q1
    refine ⟨by rw [rr.len]; exact sz h1.1, fun p hp => ?_⟩
    obtain ⟨x, r⟩ := lay_lst e1.fh rr hp
    exact q _ _ _ _ h1.2 (e1.ext x) (s1.trans x.ff) (n1.trans x.kx) r
/-- a list that is the frame's own from here on -/
theorem EnvOk.lay {c : Cfg} {F H : Hp} {σ : L2.St} {ρ : Env} (e : EnvOk Z K c F H σ ρ) {vs : List V} {p : Addr} (hp : H p = none) : EnvOk Z K c F (upd H p (.lst vs)) σ ρ where
  len := e.len
  slot := fun i s h => by
    obtain ⟨o, h1, h2⟩ := e.slot i s h
    refine ⟨o, h1, ?_⟩
    cases s with
    | own ys =>
      obtain ⟨a, ws, r1, r2, r3, r4, r5⟩ := h2
      refine ⟨a, ws, r1, r2, r3, ?_, r5⟩
      rw [upd_ne (ne_of_none r4 hp)]
      exact r4
    | un => trivial
    | d y => exact h2
    | src => exact h2
  sep := e.sep
  fh := fun b o h => by
    have h2 := e.fh b o h
    rw [upd_ne (ne_of_none h2 hp)]
    exact h2
  f0 := e.f0
  new := e.new
  keep := fun b o h hb => by
    have h2 := e.keep b o h hb
    rw [upd_ne (ne_of_none h2 hp)]
    exact h2
  all := fun b h => by
    obtain ⟨o, h2⟩ := ne_some (e.all b h)
    rw [upd_ne (ne_of_none h2 hp), h2]
    simp
  src := fun a fp h => by
    obtain ⟨p1, q⟩ := e.src a fp h
    refine ⟨Z.loc p1 fun b hb => ?_, q⟩
    obtain ⟨o, h2⟩ := ne_some ((Z.tr p1).2 b hb)
    rw [upd_ne (ne_of_none h2 hp)]
/-- an own list that is data from here on -/
theorem EnvOk.freeze {c : Cfg} {F H : Hp} {σ : L2.St} {ρ : Env} (e : EnvOk Z K c F H σ ρ) {vs : List V} {a : Addr} (hf : F a = none) (h0 : c.H0 a = none) (hh : H a = some (.lst vs)) (na : ∀ (i : Nat) ys, ρ[i]? = some (SV.own ys) → σ[i]? ≠ some (some (.ref a))) :
    EnvOk Z K c (upd F a (.lst vs)) H σ ρ := by
  have sF : Same F (upd F a (.lst vs)) := fun b u hb => by
    rw [upd_ne (ne_of_none hb hf)]
    exact hb
  refine ⟨e.len, fun i s h => ?_, e.sep, fun b u hb => ?_, e.f0.trans sF, fun b hb => ?_, e.keep, e.all, fun x fp h => ?_⟩
  · obtain ⟨o, h1, h2⟩ := e.slot i s h
    refine ⟨o, h1, ?_⟩
    cases s with
    | own ys =>
      obtain ⟨b, ws, r1, r2, r3, r4, r5⟩ := h2
      refine ⟨b, ws, r1, ?_, r3, r4, RepL.mono sF _ _ r5⟩
      have hb : b ≠ a := fun z => na i ys h (by rw [h1, r1, z])
      rw [upd_ne hb]
      exact r2
    | un => trivial
    | d y =>
      obtain ⟨v, r1, r2⟩ := h2
      exact ⟨v, r1, Rep.mono sF _ _ r2⟩
    | src => exact h2
  · by_cases hba : b = a
    · subst hba
      rw [upd_same] at hb
      cases hb
      exact hh
    · rw [upd_ne hba] at hb
      exact e.fh b u hb
  · by_cases hba : b = a
    · subst hba
      exact .inr h0
    · rw [upd_ne hba] at hb
      exact e.new b hb
  · obtain ⟨p1, q⟩ := e.src x fp h
    refine ⟨p1, fun b hb => ⟨?_, (q b hb).2⟩⟩
    have hba : b ≠ a := fun z => (q b hb).2 (by rw [z]; exact h0)
    rw [upd_ne hba]
    exact (q b hb).1
theorem dl_lst (h : DA Z X E es ws) : DLs Z X E (.List es pos) (lLst ws) := by
  obtain ⟨t, p, l⟩ := h
  refine ⟨_, pe_lst p, fun c F H σ ρ Xd Qd Qv e k h q => ?_⟩
  refine l c F H σ ρ Xd _ _ e k h fun ss vs F1 H1 h1 e1 s1 n1 r1 => ?_
  cases q1 : datas ss with
  | none => rw [q1] at h1; exact h1.elim
  | some xs =>
    rw [q1] at h1
    have rr := r1.datas q1
    refine ⟨by rw [rr.len]; exact sz h1.1, fun p hp => ?_⟩
    exact q xs p vs F1 _ h1.2 (e1.lay hp) s1 (n1.trans (Kx.lay hp)) (n1.free hp) (e1.fh.free hp) upd_same rr
/-- a fresh list as data -/
theorem de_ofL {w : LW} (h : DLs Z X E e w) : DE Z X E e (wOfL w) := by
  obtain ⟨t, p, l⟩ := h
  refine ⟨t, p, fun c F H σ ρ Xd Qd Qv e k h q => ?_⟩
  refine l c F H σ ρ Xd _ _ e k h fun xs a vs F1 H1 h1 e1 s1 n1 f1 f2 f3 r1 => ?_
  have na : ∀ (i : Nat) ys, ρ[i]? = some (SV.own ys) → σ[i]? ≠ some (some (V.ref a)) := fun i ys hi z => by
    obtain ⟨o, o1, b, ws, o2, o3, o4, o5, o6⟩ := e.slot i _ hi
    rw [o1, o2] at z
    have z : b = a := by simpa using z
    rw [z, f1] at o5
    cases o5
  have h0 : c.H0 a = none := by
    cases q1 : c.H0 a with
    | none => rfl
    | some u => exact absurd f1 (e.all a (by rw [q1]; simp))
  have sF : Same F1 (upd F1 a (.lst vs)) := fun b u hb => by
    rw [upd_ne (ne_of_none hb f2)]
    exact hb
  exact q _ _ _ H1 h1 (e1.freeze f2 h0 f3 na) (s1.trans sF) ⟨n1.nx, n1.kp, fun b hb => by
    by_cases hba : b = a
    · exact .inr (by rw [hba]; exact f1)
    · rw [upd_ne hba] at hb
      exact n1.new b hb⟩ ⟨a, vs, rfl, SqL.of upd_same, RepL.mono sF _ _ r1⟩

/-! ### built-ins -/
def LCB (K : PySem.W.Frag) (r : List V → Hp → VK → Prop) (o : OpN) : Prop := ∀ (F H : Hp) (ds : List D) (vs : List V) (Qd : D → Prop) (Qv : VK), Same F H → RepL K F ds vs → o ds Qd →
  (∀ d v F' H', Qd d → Ext F H F' H' → Rep K F' d v → Qv v H') → r vs H Qv
theorem le_cb {r : List V → Hp → VK → Prop} {o : OpN} {ta : TA} (ho : LCB K r o) (ha : LA Z K E ta ws) : LE Z K E (tCB r ta) (wCB o ws) := fun c F H σ ρ Xd Qd Qv e l h q => by
  refine ha c F H σ ρ Xd _ _ e l h fun ss vs F1 H1 h1 e1 s1 n1 r1 => ?_
  cases q1 : datas ss with
  | none => rw [q1] at h1; exact h1.elim
  | some xs =>
    rw [q1] at h1
    refine ho F1 H1 xs vs _ _ e1.fh (r1.datas q1) h1 fun d v F3 H3 h3 x3 r3 => ?_
    exact q d v F3 H3 h3 (e1.ext x3) (s1.trans x3.ff) (n1.trans x3.kx) r3
theorem de_cb {id : String} {x : Str} {p : Pos} {r : List V → Hp → VK → Prop} {o : OpN} (hc : CallR X (.builtin id) r) (ho : LCB X.K r o) (hm : X.mg x = none) (hv : bootBuiltins x = some (.builtin id)) (ha : DA Z X E (e :: es) ws) (hg : Gl X x := by rfl)
    (hn : x ≠ "__name__" := by decide) (hdb : (x == ("__debug__" : Str)) = false := by decide)
    (he : starEach (e :: es) X.env = (false, eval e X.env) :: starEach es X.env := by rfl) (hpl : (backTo pos (starEach es X.env)).any (·.1) = false := by rfl) : DE Z X E (.Call (.Name x p) (e :: es) [] pos) (wCB o ws) := by
  obtain ⟨t, pa, la⟩ := ha
  exact ⟨_, pe_callB hc hg hm hv pa hn hdb he hpl, le_cb ho la⟩
theorem de_cty {T : String} {x : Str} {p : Pos} {r : List V → Hp → VK → Prop} {o : OpN} (hc : CallR X (.type T) r) (ho : LCB X.K r o) (hm : X.mg x = none) (hv : bootBuiltins x = some (.type T)) (ha : DA Z X E (e :: es) ws) (hg : Gl X x := by rfl)
    (hn : x ≠ "__name__" := by decide) (hdb : (x == ("__debug__" : Str)) = false := by decide)
    (he : starEach (e :: es) X.env = (false, eval e X.env) :: starEach es X.env := by rfl) (hpl : (backTo pos (starEach es X.env)).any (·.1) = false := by rfl) : DE Z X E (.Call (.Name x p) (e :: es) [] pos) (wCB o ws) := by
  obtain ⟨t, pa, la⟩ := ha
  exact ⟨_, pe_callTy hc hg hm hv pa hn hdb he hpl, le_cb ho la⟩
theorem repL_1 {F : Hp} {d : D} {vs : List V} (h : RepL K F [d] vs) : ∃ v, vs = [v] ∧ Rep K F d v := by
  obtain ⟨v, r, rfl, h1, h2⟩ := h
  have h2 : r = [] := h2
  subst h2
  exact ⟨v, rfl, h1⟩
theorem repL_2 {F : Hp} {d d' : D} {vs : List V} (h : RepL K F [d, d'] vs) : ∃ v v', vs = [v, v'] ∧ Rep K F d v ∧ Rep K F d' v' := by
  obtain ⟨v, r, rfl, h1, h2⟩ := h
  obtain ⟨v', rfl, h3⟩ := repL_1 h2
  exact ⟨v, v', rfl, h1, h3⟩
theorem lcb_abs : LCB K (fun xs H Q => ∃ i, xs = [.int i] ∧ Q (.int (if i < 0 then -i else i)) H) bAbs := fun F H ds vs Qd Qv s r z q => by
  unfold bAbs at z
  split at z
  · obtain ⟨v, rfl, h1⟩ := repL_1 r
    have h1 : v = _ := h1
    subst h1
    exact ⟨_, rfl, q _ _ F H z (Ext.refl s) rfl⟩
  · exact z.elim
theorem lcb_max2 : LCB K (fun xs H Q => ∃ i j, xs = [.int i, .int j] ∧ Q (.int (if j > i then j else i)) H) bMax2 := fun F H ds vs Qd Qv s r z q => by
  unfold bMax2 at z
  split at z
  · obtain ⟨v, v', rfl, h1, h2⟩ := repL_2 r
    have h1 : v = _ := h1
    have h2 : v' = _ := h2
    subst h1 h2
    exact ⟨_, _, rfl, q _ _ F H z (Ext.refl s) rfl⟩
  · exact z.elim
theorem lcb_min2 : LCB K (fun xs H Q => ∃ i j, xs = [.int i, .int j] ∧ Q (.int (if j < i then j else i)) H) bMin2 := fun F H ds vs Qd Qv s r z q => by
  unfold bMin2 at z
  split at z
  · obtain ⟨v, v', rfl, h1, h2⟩ := repL_2 r
    have h1 : v = _ := h1
    have h2 : v' = _ := h2
    subst h1 h2
    exact ⟨_, _, rfl, q _ _ F H z (Ext.refl s) rfl⟩
  · exact z.elim
theorem lcb_int : LCB K (fun xs H Q => (∃ i, xs = [.int i] ∧ Q (.int i) H) ∨ ∃ k, xs = [.bl k] ∧ Q (.int (if k then 1 else 0)) H) bInt := fun F H ds vs Qd Qv s r z q => by
  unfold bInt at z
  split at z
  · obtain ⟨v, rfl, h1⟩ := repL_1 r
    have h1 : v = _ := h1
    subst h1
    exact .inl ⟨_, rfl, q _ _ F H z (Ext.refl s) rfl⟩
  · obtain ⟨v, rfl, h1⟩ := repL_1 r
    have h1 : v = _ := h1
    subst h1
    exact .inr ⟨_, rfl, q _ _ F H z (Ext.refl s) rfl⟩
  · exact z.elim
theorem lcb_str : LCB K (fun xs H Q => ∃ i, xs = [.int i] ∧ i.natAbs.log2 < 1920 ∧ Q (.str (toString i)) H) bStr := fun F H ds vs Qd Qv s r z q => by
  unfold bStr at z
  split at z
  · obtain ⟨v, rfl, h1⟩ := repL_1 r
    have h1 : v = _ := h1
    subst h1
    exact ⟨_, rfl, z.1, q _ _ F H z.2 (Ext.refl s) rfl⟩
  · exact z.elim
def rLenE (K : PySem.W.Frag) : List V → Hp → VK → Prop := fun xs H Q => (∃ p ys, xs = [.ref p] ∧ (SqL K H p ys ∨ SqT K H p ys) ∧ Q (.int ys.length) H) ∨ ∃ z, xs = [.str z] ∧ z.length ≤ sizeLine ∧ Q (.int z.length) H
theorem call_lenE : CallR X (.builtin "len") (rLenE X.K) := call_len_seq.or call_len_str
theorem lcb_len : LCB K (rLenE K) bLen := fun F H ds vs Qd Qv s r z q => by
  unfold bLen at z
  split at z
  · obtain ⟨v, rfl, a, ws, rfl, h2, h3⟩ := repL_1 r
    refine .inl ⟨a, ws, rfl, .inr (same_t s h2), ?_⟩
    rw [h3.len]
    exact q _ _ F H z (Ext.refl s) rfl
  · obtain ⟨v, rfl, a, ws, rfl, h2, h3⟩ := repL_1 r
    refine .inl ⟨a, ws, rfl, .inl (same_l s h2), ?_⟩
    rw [h3.len]
    exact q _ _ F H z (Ext.refl s) rfl
  · obtain ⟨v, rfl, h1⟩ := repL_1 r
    have h1 : v = _ := h1
    subst h1
    exact .inr ⟨_, rfl, sz z.1, q _ _ F H z.2 (Ext.refl s) rfl⟩
  · exact z.elim
theorem lcb_tuple : LCB K (fun xs H Q => ∃ p ys, xs = [.ref p] ∧ ((SqL K H p ys ∧ ∀ l, H l = none → Q (.ref l) (upd H l (.tup ys))) ∨ (SqT K H p ys ∧ Q (.ref p) H))) bTuple := fun F H ds vs Qd Qv s r z q => by
  unfold bTuple at z
  split at z
  · obtain ⟨v, rfl, a, ws, rfl, h2, h3⟩ := repL_1 r
    refine ⟨a, ws, rfl, .inl ⟨same_l s h2, fun p hp => ?_⟩⟩
    obtain ⟨x, r⟩ := lay_tup s h3 hp
    exact q _ _ _ _ z x r
  · obtain ⟨v, rfl, a, ws, rfl, h2, h3⟩ := repL_1 r
    exact ⟨a, ws, rfl, .inr ⟨same_t s h2, q _ _ F H z (Ext.refl s) ⟨a, ws, rfl, h2, h3⟩⟩⟩
  · exact z.elim
/-- built-ins that give a fresh list -/
def LCL (K : PySem.W.Frag) (r : List V → Hp → VK → Prop) (o : List D → (List D → Prop) → Prop) : Prop := ∀ (F H : Hp) (ds : List D) (vs : List V) (Qd : List D → Prop) (Qv : VK), Same F H → RepL K F ds vs → o ds Qd →
  (∀ xs p ws, Qd xs → H p = none → RepL K F xs ws → Qv (.ref p) (upd H p (.lst ws))) → r vs H Qv
theorem lcl_list : LCL K (fun xs H Q => ∃ p ys, xs = [.ref p] ∧ (SqL K H p ys ∨ SqT K H p ys) ∧ ∀ l, H l = none → Q (.ref l) (upd H l (.lst ys))) bList := fun F H ds vs Qd Qv s r z q => by
  unfold bList at z
  split at z
  · obtain ⟨v, rfl, a, ws, rfl, h2, h3⟩ := repL_1 r
    exact ⟨a, ws, rfl, .inl (same_l s h2), fun p hp => q _ p ws z hp h3⟩
  · obtain ⟨v, rfl, a, ws, rfl, h2, h3⟩ := repL_1 r
    exact ⟨a, ws, rfl, .inr (same_t s h2), fun p hp => q _ p ws z hp h3⟩
  · exact z.elim
theorem ll_cb {r : List V → Hp → VK → Prop} {o : List D → (List D → Prop) → Prop} {ta : TA} (ho : LCL K r o) (ha : LA Z K E ta ws) : LL Z K E (tCB r ta) (lCB o ws) := fun c F H σ ρ Xd Qd Qv e l h q => by
  refine ha c F H σ ρ Xd _ _ e l h fun ss vs F1 H1 h1 e1 s1 n1 r1 => ?_
  cases q1 : datas ss with
  | none => rw [q1] at h1; exact h1.elim
  | some xs =>
    rw [q1] at h1
    refine ho F1 H1 xs vs _ _ e1.fh (r1.datas q1) h1 fun ys p us h2 hp r2 => ?_
    exact q ys p us F1 _ h2 (e1.lay hp) s1 (n1.trans (Kx.lay hp)) (n1.free hp) (e1.fh.free hp) upd_same r2
theorem dl_cty {T : String} {x : Str} {p : Pos} {r : List V → Hp → VK → Prop} {o : List D → (List D → Prop) → Prop} (hc : CallR X (.type T) r) (ho : LCL X.K r o) (hm : X.mg x = none) (hv : bootBuiltins x = some (.type T)) (ha : DA Z X E (e :: es) ws) (hg : Gl X x := by rfl)
    (hn : x ≠ "__name__" := by decide) (hdb : (x == ("__debug__" : Str)) = false := by decide)
    (he : starEach (e :: es) X.env = (false, eval e X.env) :: starEach es X.env := by rfl) (hpl : (backTo pos (starEach es X.env)).any (·.1) = false := by rfl) : DLs Z X E (.Call (.Name x p) (e :: es) [] pos) (lCB o ws) := by
  obtain ⟨t, pa, la⟩ := ha
  exact ⟨_, pe_callTy hc hg hm hv pa hn hdb he hpl, ll_cb ho la⟩
theorem bools_rep {F : Hp} : ∀ {ds : List D} {vs : List V} {bs : List Bool}, RepL K F ds vs → bools ds = some bs → vs = bs.map V.bl
  | [], vs, bs, h, e => by
    have h : vs = [] := h
    have e : some [] = some bs := e
    cases e
    rw [h]
    rfl
  | .bl b :: r, vs, bs, h, e => by
    obtain ⟨v, t, e1, e2, e3⟩ := h
    cases q : bools r with
    | none => rw [bools, q] at e; cases e
    | some cs =>
      rw [bools, q] at e
      cases e
      have e2 : v = .bl b := e2
      rw [e1, e2, bools_rep e3 q]
      rfl
  | .non :: _, _, _, _, e => by cases e
  | .int _ :: _, _, _, _, e => by cases e
  | .str _ :: _, _, _, _, e => by cases e
  | .tup _ :: _, _, _, _, e => by cases e
  | .lst _ :: _, _, _, _, e => by cases e
  | .ins _ _ _ :: _, _, _, _, e => by cases e
theorem intsD_rep {F : Hp} : ∀ {ds : List D} {vs : List V} {bs : List Int}, RepL K F ds vs → intsD ds = some bs → vs = bs.map V.int
  | [], vs, bs, h, e => by
    have h : vs = [] := h
    have e : some [] = some bs := e
    cases e
    rw [h]
    rfl
  | .int b :: r, vs, bs, h, e => by
    obtain ⟨v, t, e1, e2, e3⟩ := h
    cases q : intsD r with
    | none => rw [intsD, q] at e; cases e
    | some cs =>
      rw [intsD, q] at e
      cases e
      have e2 : v = .int b := e2
      rw [e1, e2, intsD_rep e3 q]
      rfl
  | .non :: _, _, _, _, e => by cases e
  | .bl _ :: _, _, _, _, e => by cases e
  | .str _ :: _, _, _, _, e => by cases e
  | .tup _ :: _, _, _, _, e => by cases e
  | .lst _ :: _, _, _, _, e => by cases e
  | .ins _ _ _ :: _, _, _, _, e => by cases e
theorem lcb_all : LCB K (rAll K) bAll := fun F H ds vs Qd Qv s r z q => by
  unfold bAll at z
  split at z
  · obtain ⟨v, rfl, a, ws, rfl, h2, h3⟩ := repL_1 r
    split at z
    · rename_i bs hb
      have e := bools_rep h3 hb
      subst e
      exact ⟨a, bs, rfl, same_l s h2, q _ _ F H z (Ext.refl s) rfl⟩
    · exact z.elim
  · exact z.elim
theorem lcb_any : LCB K (rAny K) bAny := fun F H ds vs Qd Qv s r z q => by
  unfold bAny at z
  split at z
  · obtain ⟨v, rfl, a, ws, rfl, h2, h3⟩ := repL_1 r
    split at z
    · rename_i bs hb
      have e := bools_rep h3 hb
      subst e
      exact ⟨a, bs, rfl, same_l s h2, q _ _ F H z (Ext.refl s) rfl⟩
    · exact z.elim
  · exact z.elim
theorem lcb_sum : LCB K (rSum K) bSum := fun F H ds vs Qd Qv s r z q => by
  unfold bSum at z
  split at z
  · obtain ⟨v, rfl, a, ws, rfl, h2, h3⟩ := repL_1 r
    split at z
    · rename_i bs hb
      have e := intsD_rep h3 hb
      subst e
      exact ⟨a, bs, rfl, same_l s h2, q _ _ F H z (Ext.refl s) rfl⟩
    · exact z.elim
  · exact z.elim
/-- isinstance(e, T), T a built-in type -/
theorem tyx {F H : Hp} (s : Same F H) {d : D} {v : V} {t : String} (r : Rep K F d v) (h : tyOf d = some t) : TyX K H v (.type t) := by
  cases d with
  | non => (have r : v = _ := r); subst r; cases h; exact .base .non
  | bl _ => (have r : v = _ := r); subst r; cases h; exact .base (.bl _)
  | int _ => (have r : v = _ := r); subst r; cases h; exact .base (.int _)
  | str _ => (have r : v = _ := r); subst r; cases h; exact .base (.str _)
  | tup _ =>
    obtain ⟨a, vs, rfl, h1, _⟩ := r
    cases h
    rcases h1 with (h1 | ⟨o, h1⟩) | ⟨o, its, n, h1, h2, _⟩
    · exact .base (.tup (s _ _ h1))
    · exact .fTuple (s _ _ h1)
    · exact .kTuple h1 h2
  | lst _ =>
    obtain ⟨a, vs, rfl, h1, _⟩ := r
    cases h
    rcases h1 with (h1 | ⟨o, h1⟩) | ⟨o, its, n, h1, h2, _⟩
    · exact .base (.lst (s _ _ h1))
    · exact .base (.frz (s _ _ h1))
    · exact .kList h1 h2
  | ins _ _ _ => cases h
def goodTy (T : String) : Prop := ∀ d t, tyOf d = some t → kitB t T = some (isT t T)
theorem good_ty {T : String} (h1 : kitB "NoneType" T = some (isT "NoneType" T)) (h2 : kitB "bool" T = some (isT "bool" T)) (h3 : kitB "int" T = some (isT "int" T)) (h4 : kitB "str" T = some (isT "str" T)) (h5 : kitB "tuple" T = some (isT "tuple" T)) (h6 : kitB "list" T = some (isT "list" T)) : goodTy T := fun d t h => by
  cases d <;> cases h <;> assumption
theorem good_bool : goodTy "bool" := good_ty (by decide +kernel) (by decide +kernel) (by decide +kernel) (by decide +kernel) (by decide +kernel) (by decide +kernel)
theorem good_int : goodTy "int" := good_ty (by decide +kernel) (by decide +kernel) (by decide +kernel) (by decide +kernel) (by decide +kernel) (by decide +kernel)
theorem good_str : goodTy "str" := good_ty (by decide +kernel) (by decide +kernel) (by decide +kernel) (by decide +kernel) (by decide +kernel) (by decide +kernel)
theorem good_tuple : goodTy "tuple" := good_ty (by decide +kernel) (by decide +kernel) (by decide +kernel) (by decide +kernel) (by decide +kernel) (by decide +kernel)
theorem good_list : goodTy "list" := good_ty (by decide +kernel) (by decide +kernel) (by decide +kernel) (by decide +kernel) (by decide +kernel) (by decide +kernel)
theorem pe_bltTy {T : String} {x : Str} {p : Pos} (hm : X.mg x = none) (hv : bootBuiltins x = some (.type T)) (hg : Gl X x := by rfl) (hn : x ≠ "__name__" := by decide) (hd : (x == ("__debug__" : Str)) = false := by decide) : PE X (.Name x p) (tC (.ty T)) := pe_bltn hg hm hv rfl hn hd
theorem de_isi {T : String} {x : Str} {p p2 : Pos} (g : goodTy T) (hm : X.mg "isinstance" = none) (hmT : X.mg x = none) (hvT : bootBuiltins x = some (.type T)) (ha : DE Z X E a wa) (hg : Gl X "isinstance" := by rfl) (hgT : Gl X x := by rfl) (hn : x ≠ "__name__" := by decide) (hd : (x == ("__debug__" : Str)) = false := by decide)
    (hv : bootBuiltins "isinstance" = some (.builtin "isinstance") := by decide +kernel)
    (h1 : starEach [a, .Name x p2] X.env = (false, eval a X.env) :: starEach [.Name x p2] X.env := by rfl) (h2 : starEach [.Name x p2] X.env = (false, eval (.Name x p2) X.env) :: starEach [] X.env := by rfl)
    (hpl : (backTo pos (starEach [.Name x p2] X.env)).any (·.1) = false := by rfl) : DE Z X E (.Call (.Name "isinstance" p) [a, .Name x p2] [] pos) (wUn (bIsi T) wa) := by
  obtain ⟨t, pa, la⟩ := ha
  refine ⟨_, pe_callB call_isi hg hm hv (pa_cons pa (pa_cons (pe_bltTy hmT hvT hgT hn hd) pa_nil h2) h1) (by decide) (by decide) h1 hpl, fun c F H σ ρ Xd Qd Qv e l h q => ?_⟩
  refine la c F H σ ρ Xd _ _ e l h fun d v F1 H1 h1 e1 s1 n1 r1 => ?_
  unfold bIsi at h1
  split at h1
  · rename_i t ht
    exact ⟨v, .ty T, .type t, .type T, isT t T, rfl, .ty T, tyx e1.fh r1 ht, kit_ty (g d t ht), q _ _ F1 H1 h1 e1 s1 n1 rfl⟩
  · exact h1.elim
theorem de_isi2 {T U : String} {x y : Str} {p p2 p3 p4 : Pos} {kk : Nat} (g : goodTy T) (g' : goodTy U) (hm : X.mg "isinstance" = none) (hmT : X.mg x = none) (hvT : bootBuiltins x = some (.type T)) (hmU : X.mg y = none) (hvU : bootBuiltins y = some (.type U)) (ha : DE Z X E a wa) (hg : Gl X "isinstance" := by rfl) (hgT : Gl X x := by rfl) (hgU : Gl X y := by rfl)
    (hn : x ≠ "__name__" := by decide) (hd : (x == ("__debug__" : Str)) = false := by decide) (hn' : y ≠ "__name__" := by decide) (hd' : (y == ("__debug__" : Str)) = false := by decide)
    (hv : bootBuiltins "isinstance" = some (.builtin "isinstance") := by decide +kernel)
    (h1 : starEach [a, .Tuple [.Name x p2, .Name y p3] kk p4] X.env = (false, eval a X.env) :: starEach [.Tuple [.Name x p2, .Name y p3] kk p4] X.env := by rfl) (h2 : starEach [.Tuple [.Name x p2, .Name y p3] kk p4] X.env = (false, eval (.Tuple [.Name x p2, .Name y p3] kk p4) X.env) :: starEach [] X.env := by rfl)
    (h3 : starEach [.Name x p2, .Name y p3] X.env = (false, eval (.Name x p2) X.env) :: starEach [.Name y p3] X.env := by rfl) (h4 : starEach [.Name y p3] X.env = (false, eval (.Name y p3) X.env) :: starEach [] X.env := by rfl)
    (hpl : (backTo pos (starEach [.Tuple [.Name x p2, .Name y p3] kk p4] X.env)).any (·.1) = false := by rfl) : DE Z X E (.Call (.Name "isinstance" p) [a, .Tuple [.Name x p2, .Name y p3] kk p4] [] pos) (wUn (bIsi2 T U) wa) := by
  obtain ⟨t, pa, la⟩ := ha
  refine ⟨_, pe_callB call_isiT hg hm hv (pa_cons pa (pa_cons (pe_tup (pa_cons (pe_bltTy hmT hvT hgT hn hd) (pa_cons (pe_bltTy hmU hvU hgU hn' hd') pa_nil h4) h3)) pa_nil h2) h1) (by decide) (by decide) h1 hpl, fun c F H σ ρ Xd Qd Qv e l h q => ?_⟩
  refine la c F H σ ρ Xd _ _ e l h fun d v F1 H1 h1 e1 s1 n1 r1 => ?_
  unfold bIsi2 at h1
  split at h1
  · rename_i t ht
    refine ⟨by show 2 ≤ sizeLine; decide, fun p hp => ?_⟩
    have x := Ext.lay (o := .tup [V.ty T, V.ty U]) e1.fh hp
    refine ⟨v, p, [V.ty T, V.ty U], .type t, [.type T, .type U], isT t T || isT t U, rfl, upd_same, .cons (.ty T) (.cons (.ty U) .nil), tyx (e1.fh.trans x.hh) r1 ht, ?_, q _ _ _ _ h1 (e1.ext x) (s1.trans x.ff) (n1.trans x.kx) rfl⟩
    refine kitAny_cons (kit_ty (g d t ht)) (fun z => ?_) fun z => by rw [z]; rfl
    rw [z]
    refine kitAny_cons (kit_ty (g' d t ht)) (fun z => ?_) fun z => by rw [z]; rfl
    rw [z]
    exact kitAny_nil
  · exact h1.elim
end
end DL
set_option linter.all false
set_option autoImplicit false
set_option maxHeartbeats 2000000
/-! Statements, loops, comprehensions. -/
namespace DL
open PySem PySem.Spec PyProof.Rows L2

section
variable {Z : SrcK} {X : Cx} {E : L2.St → XK} {K : PySem.W.Frag} {a b e : Expr} {wa wb wc : EW} {pos : Pos} {c : Cfg} {F H : Hp} {σ : L2.St} {ρ : Env}
/-! ### a slot is stored -/
theorem EnvOk.setS {i : Nat} {s : SV} {v : V} (e : EnvOk Z K c F H σ ρ) (h : SlotOk K c F H s (some v)) (na : ∀ xs a, s = SV.own xs → v = V.ref a → ∀ (j : Nat) ys, j ≠ i → ρ[j]? = some (SV.own ys) → σ[j]? ≠ some (some (V.ref a))) :
    EnvOk Z K c F H (σ.set i (some v)) (ρ.set i s) := by
  refine ⟨by rw [List.length_set, List.length_set]; exact e.len, fun j t h1 => ?_, fun j k xs ys hjk h1 h2 => ?_, e.fh, e.f0, e.new, e.keep, e.all, e.src⟩
  · by_cases hj : j = i
    · subst hj
      by_cases hl : j < ρ.length
      · rw [List.getElem?_set_self hl] at h1
        cases h1
        exact ⟨some v, List.getElem?_set_self (by rw [e.len]; exact hl), h⟩
      · rw [List.getElem?_eq_none_iff.mpr (by rw [List.length_set]; omega)] at h1
        cases h1
    · rw [List.getElem?_set_ne (Ne.symm hj)] at h1 ⊢
      exact e.slot j t h1
  · by_cases hj : j = i
    · subst hj
      have hl : j < ρ.length := by
        by_cases hl : j < ρ.length
        · exact hl
        · rw [List.getElem?_eq_none_iff.mpr (by rw [List.length_set]; omega)] at h1
          cases h1
      rw [List.getElem?_set_self hl] at h1
      rw [List.getElem?_set_ne hjk] at h2
      rw [List.getElem?_set_self (by rw [e.len]; exact hl), List.getElem?_set_ne hjk]
      have h1 : s = SV.own xs := by simpa using h1
      subst h1
      obtain ⟨a, vs, r1, _⟩ := h
      have r1 : v = V.ref a := by simpa using r1
      rw [r1]
      exact fun z => na xs a rfl r1 k ys (Ne.symm hjk) h2 z.symm
    · by_cases hk : k = i
      · subst hk
        have hl : k < ρ.length := by
          by_cases hl : k < ρ.length
          · exact hl
          · rw [List.getElem?_eq_none_iff.mpr (by rw [List.length_set]; omega)] at h2
            cases h2
        rw [List.getElem?_set_self hl] at h2
        rw [List.getElem?_set_ne (Ne.symm hjk)] at h1
        rw [List.getElem?_set_self (by rw [e.len]; exact hl), List.getElem?_set_ne (Ne.symm hjk)]
        have h2 : s = SV.own ys := by simpa using h2
        subst h2
        obtain ⟨a, vs, r1, _⟩ := h
        have r1 : v = V.ref a := by simpa using r1
        rw [r1]
        exact na ys a rfl r1 j xs hjk h1
      · rw [List.getElem?_set_ne (Ne.symm hj)] at h1 ⊢
        rw [List.getElem?_set_ne (Ne.symm hk)] at h2 ⊢
        exact e.sep j k xs ys hjk h1 h2
theorem EnvOk.setD {i : Nat} {x : D} {v : V} (e : EnvOk Z K c F H σ ρ) (h : Rep K F x v) : EnvOk Z K c F H (σ.set i (some v)) (ρ.set i (.d x)) :=
  e.setS (s := .d x) ⟨v, rfl, h⟩ fun _ _ z => nomatch z
theorem EnvOk.notOwn {xs : List V} {p : Addr} {j : Nat} {ys : List D} (e : EnvOk Z K c F H σ ρ) (hp : H p = none) (h : ρ[j]? = some (SV.own ys)) : σ[j]? ≠ some (some (V.ref p)) := fun z => by
  obtain ⟨o, o1, b, ws, o2, o3, o4, o5, o6⟩ := e.slot j _ h
  rw [o1, o2] at z
  have z : b = p := by simpa using z
  rw [z, hp] at o5
  cases o5
theorem EnvOk.h0 {p : Addr} (e : EnvOk Z K c F H σ ρ) (hp : H p = none) : c.H0 p = none := by
  cases q1 : c.H0 p with
  | none => rfl
  | some u => exact absurd hp (e.all p (by rw [q1]; simp))
/-! ### targets -/
def LG (Z : SrcK) (K : PySem.W.Frag) (t : TG) (g : GW) : Prop := ∀ (c : Cfg) (F H : Hp) (σ : L2.St) (ρ : Env) (d : D) (v : V) (Qd : Env → Prop) (Qv : L2.St → Hp → Prop), EnvOk Z K c F H σ ρ → Rep K F d v → g d ρ Qd →
  (∀ σ' ρ' F' H', Qd ρ' → EnvOk Z K c F' H' σ' ρ' → Same F F' → Kx c.fp F H F' H' → Qv σ' H') → t v σ H Qv
def LGs (Z : SrcK) (K : PySem.W.Frag) (t : TGs) (g : List D → Env → (Env → Prop) → Prop) : Prop := ∀ (c : Cfg) (F H : Hp) (σ : L2.St) (ρ : Env) (ds : List D) (vs : List V) (Qd : Env → Prop) (Qv : L2.St → Hp → Prop), EnvOk Z K c F H σ ρ → RepL K F ds vs → g ds ρ Qd →
  (∀ σ' ρ' F' H', Qd ρ' → EnvOk Z K c F' H' σ' ρ' → Same F F' → Kx c.fp F H F' H' → Qv σ' H') → t vs σ H Qv
def DG (Z : SrcK) (X : Cx) (tg : Expr) (g : GW) : Prop := ∃ t, PG X tg t ∧ LG Z X.K t g
def DGs (Z : SrcK) (X : Cx) (n : Nat) (tgs : List Expr) (g : List D → Env → (Env → Prop) → Prop) : Prop := (∃ t, PGs X tgs t ∧ LGs Z X.K t g) ∧ ∀ ds ρ Q, g ds ρ Q → ds.length = n
theorem lg_name {i : Nat} : LG Z K (gName i) (gNm i) := fun c F H σ ρ d v Qd Qv e r h q => q _ _ F H h (e.setD r) (Same.refl _) (Kx.refl _ _ _)
theorem dg_name {x : Str} {p : Pos} (i : Nat) (hN : X.N.Nodup) (hi : X.N[i]? = some x := by rfl) (hx : Loc X.env.scope x := by first | exact Or.inl rfl | exact Or.inr rfl) (hf : X.fn x = true ∨ X.env.scope.names.lookup x = some .local := by first | exact .inl rfl | exact .inr rfl) : DG Z X (.Name x p) (gNm i) :=
  ⟨_, pg_name hN hi hx hf, lg_name⟩
theorem dgs_nil : DGs Z X 0 [] gNilW := ⟨⟨_, pgs_nil, fun c F H σ ρ ds vs Qd Qv e r h q => by
  obtain ⟨h1, h2⟩ := h
  subst h1
  have r : vs = [] := r
  exact ⟨r, q _ _ F H h2 e (Same.refl _) (Kx.refl _ _ _)⟩⟩, fun ds ρ Q h => by rw [h.1]; rfl⟩
theorem gConsW_len {g : GW} {r : List D → Env → (Env → Prop) → Prop} {n : Nat} (hg : ∀ d ρ Q, g d ρ Q → ∃ ρ', Q ρ') (hr : ∀ ds ρ Q, r ds ρ Q → ds.length = n) : ∀ ds ρ Q, gConsW g r ds ρ Q → ds.length = n + 1 := fun ds ρ Q h => by
  cases ds with
  | nil => exact h.elim
  | cons x t =>
    obtain ⟨ρ', h⟩ := hg _ _ _ h
    rw [List.length_cons, hr _ _ _ h]
theorem dgs_cons {t : Expr} {ts : List Expr} {g : GW} {r : List D → Env → (Env → Prop) → Prop} {n : Nat} (h1 : DG Z X t g) (h2 : DGs Z X n ts r) (hg : ∀ d ρ Q, g d ρ Q → ∃ ρ', Q ρ' := by exact fun _ _ _ h => ⟨_, h⟩) (hs : (assignEach (t :: ts) X.env).map (·.2) = assign t X.env :: (assignEach ts X.env).map (·.2) := by rfl) : DGs Z X (n + 1) (t :: ts) (gConsW g r) := by
  obtain ⟨u, p, l⟩ := h1
  obtain ⟨⟨u1, p1, l1⟩, hl⟩ := h2
  refine ⟨⟨_, pgs_cons p p1 hs, fun c F H σ ρ ds vs Qd Qv e rr h q => ?_⟩, gConsW_len hg hl⟩
  cases ds with
  | nil => exact h.elim
  | cons x t =>
    obtain ⟨v, vr, e1, r1, r2⟩ := rr
    refine ⟨v, vr, e1, ?_⟩
    refine l c F H σ ρ x v _ _ e r1 h fun σ' ρ' F1 H1 h1 e1 s1 n1 => ?_
    exact l1 c F1 H1 σ' ρ' t vr _ _ e1 (RepL.mono s1 _ _ r2) h1 fun σ2 ρ2 F2 H2 h2 e2 s2 n2 => q _ _ F2 H2 h2 e2 (s1.trans s2) (n1.trans n2)
theorem pg_or {t u : TG} (h : PG X e t) (k : PG X e u) : PG X e (fun v σ H Q => t v σ H Q ∨ u v σ H Q) :=
  ⟨fun pins s σ H v w Q I r z => z.elim (fun z => h.run pins s σ H v w Q I r z) fun z => k.run pins s σ H v w Q I r z⟩
theorem dg_tup {es : List Expr} {k n : Nat} {r : List D → Env → (Env → Prop) → Prop} (h : DGs Z X n es r) (hc : X.calm = true := by rfl) (hn : (assignEach es X.env).length = n := by rfl) (hst : (assignEach es X.env).findIdx? (·.1) = none := by rfl) : DG Z X (.Tuple es k pos) (gTupW r) := by
  obtain ⟨⟨u, p, l⟩, hl⟩ := h
  refine ⟨_, pg_or (pg_tup hc p hn hst) (pg_unl hc p hn hst), fun c F H σ ρ d v Qd Qv e rr h q => ?_⟩
  cases d with
  | tup xs =>
    obtain ⟨a, vs, e1, r1, r2⟩ := rr
    exact .inl ⟨a, vs, e1, same_t e.fh r1, by rw [r2.len]; exact hl _ _ _ h, l c F H σ ρ xs vs _ _ e r2 h q⟩
  | lst xs =>
    obtain ⟨a, vs, e1, r1, r2⟩ := rr
    exact .inr ⟨a, vs, e1, same_l e.fh r1, by rw [r2.len]; exact hl _ _ _ h, l c F H σ ρ xs vs _ _ e r2 h q⟩
  | non => exact h.elim
  | bl _ => exact h.elim
  | int _ => exact h.elim
  | str _ => exact h.elim
  | ins _ _ _ => exact h.elim

/-! ### blocks -/
variable {st : Stmt} {rest : List Stmt} {t u : SW} {w : EW}
theorem dss_nil : DSs Z X E [] sNext := ⟨_, pss_nil, fun c F H σ ρ Xd DD D e l h q => q.nx σ ρ F H h e (Same.refl _) (Nx.refl _)⟩
theorem ls_seq {t u : TS} {w v : SW} (h1 : LS Z K E t w) (h2 : LS Z K E u v) : LS Z K E (tSeq t u) (sSeq w v) := fun c F H σ ρ Xd DD D e l h q => by
  refine h1 c F H σ ρ Xd _ _ e l h ⟨fun σ' ρ' F' H' k e' s n => ?_, q.rt, q.bk, q.ct⟩
  exact h2 c F' H' σ' ρ' Xd DD D e' (l.mono s) k (q.mono s n)
theorem dss_cons (h1 : DS Z X E st t) (h2 : DSs Z X E rest u) : DSs Z X E (st :: rest) (sSeq t u) := by
  obtain ⟨x, p, l⟩ := h1
  obtain ⟨y, p1, l1⟩ := h2
  exact ⟨_, pss_cons p p1, ls_seq l l1⟩
theorem dss_one (h1 : DS Z X E st t) : DSs Z X E [st] t := by
  obtain ⟨x, p, l⟩ := h1
  exact ⟨_, pss_one p, l⟩
theorem ds_pass : DS Z X E (.Pass pos) sNext := ⟨_, ps_pass, fun c F H σ ρ Xd DD D e l h q => q.nx σ ρ F H h e (Same.refl _) (Nx.refl _)⟩
theorem ds_break : DS Z X E (.Break pos) sBreak := ⟨_, ps_break, fun c F H σ ρ Xd DD D e l h q => q.bk σ ρ F H h e (Same.refl _) (Nx.refl _)⟩
theorem ds_continue : DS Z X E (.Continue pos) sCont := ⟨_, ps_continue, fun c F H σ ρ Xd DD D e l h q => q.ct σ ρ F H h e (Same.refl _) (Nx.refl _)⟩
theorem ds_never : DS Z X E st sNever := ⟨_, ps_never, fun c F H σ ρ Xd DD D e l h q => h.elim⟩
theorem dss_never {sts : List Stmt} : DSs Z X E sts sNever := ⟨_, pss_never, fun c F H σ ρ Xd DD D e l h q => h.elim⟩
theorem ds_drop (h : DE Z X E e w) (hs : swapsWith e none pos.line X.env = pure false := by rfl) : DS Z X E (.Expr e pos) (sDrop w) := by
  obtain ⟨x, p, l⟩ := h
  exact ⟨_, ps_expr p hs, fun c F H σ ρ Xd DD D e k h q => l c F H σ ρ Xd _ _ e k h fun d v F1 H1 h1 e1 s1 n1 _ => q.nx σ ρ F1 H1 h1 e1 s1 n1.nx⟩
theorem ds_ret (h : DE Z X E e w) : DS Z X E (.Return (some e) pos) (sRet w) := by
  obtain ⟨x, p, l⟩ := h
  exact ⟨_, ps_ret p, fun c F H σ ρ Xd DD D e k h q => l c F H σ ρ Xd _ _ e k h fun d v F1 H1 h1 e1 s1 n1 r1 => q.rt (.d d) v σ ρ F1 H1 h1 e1 s1 r1⟩
theorem ds_retN : DS Z X E (.Return none pos) sRetN := ⟨_, ps_retN, fun c F H σ ρ Xd DD D e k h q => q.rt (.d .non) .non σ ρ F H h e (Same.refl _) rfl⟩
theorem ds_retOwn {x : Str} {p : Pos} (i : Nat) (hN : X.N[i]? = some x := by rfl) (hv : Vis X.env.scope x := by first | exact Or.inl rfl | exact Or.inr (Or.inl rfl) | exact Or.inr (Or.inr rfl)) (hd : (x == ("__debug__" : Str)) = false := by decide)
    (hcd : (x == ("__classdict__" : Str)) = false := by decide) : DS Z X E (.Return (some (.Name x p)) pos) (sRetOwn i) := by
  refine ⟨_, ps_ret (pe_var hN hv hd hcd), fun c F H σ ρ Xd DD D e k h q => ?_⟩
  unfold sRetOwn at h
  cases q1 : ρ[i]? with
  | none => rw [q1] at h; exact h.elim
  | some s =>
    rw [q1] at h
    cases s with
    | own xs =>
      obtain ⟨o, h1, a, vs, h2, h3, h4, h5, h6⟩ := e.slot i _ q1
      subst h2
      exact ⟨.ref a, h1, q.rt (.own xs) (.ref a) σ ρ F H h e (Same.refl _) ⟨a, vs, rfl, h3, h4, h5, h6⟩⟩
    | un => exact h.elim
    | src => exact h.elim
    | d _ => exact h.elim
theorem ds_retL {w : LW} (h : DLs Z X E e w) : DS Z X E (.Return (some e) pos) (sRetL w) := by
  obtain ⟨x, p, l⟩ := h
  exact ⟨_, ps_ret p, fun c F H σ ρ Xd DD D e k h q => l c F H σ ρ Xd _ _ e k h fun xs a vs F1 H1 h1 e1 s1 n1 f1 f2 f3 r1 => q.rt (.own xs) (.ref a) σ ρ F1 H1 h1 e1 s1 ⟨a, vs, rfl, f2, e.h0 f1, f3, r1⟩⟩
theorem ds_if {cnd : Expr} {p q : List Stmt} {wt : TW} (hc : DT Z X E cnd wt) (h1 : DSs Z X E p t) (h2 : DSs Z X E q u) : DS Z X E (.If cnd p q pos) (sIf wt t u) := by
  obtain ⟨x, px, lx⟩ := hc
  obtain ⟨y, py, ly⟩ := h1
  obtain ⟨z, pz, lz⟩ := h2
  refine ⟨_, ps_if px py pz, fun c F H σ ρ Xd DD D e k h q => lx c F H σ ρ Xd _ _ e k h fun b F1 H1 h1 e1 s1 n1 => ?_⟩
  cases b with
  | true => exact ly c F1 H1 σ ρ Xd DD D e1 (k.mono s1) h1 (q.mono s1 n1.nx)
  | false => exact lz c F1 H1 σ ρ Xd DD D e1 (k.mono s1) h1 (q.mono s1 n1.nx)
theorem ds_asg {tg : Expr} {g : GW} (h : DE Z X E e w) (hg : DG Z X tg g) (hs : swapsWithSole [tg] e pos.line X.env = pure false := by rfl) (hw : swappedStores [tg] e X.env = pure none := by rfl)
    (h1 : (assignEach [tg] X.env).map (·.2) = [assign tg X.env] := by rfl) : DS Z X E (.Assign [tg] e pos) (sAsg w g) := by
  obtain ⟨x, p, l⟩ := h
  obtain ⟨y, p1, l1⟩ := hg
  refine ⟨_, ps_asg p p1 hs hw h1, fun c F H σ ρ Xd DD D e k h q => l c F H σ ρ Xd _ _ e k h fun d v F1 H1 h1 e1 s1 n1 r1 => ?_⟩
  exact l1 c F1 H1 σ ρ d v _ _ e1 r1 h1 fun σ2 ρ2 F2 H2 h2 e2 s2 n2 => q.nx _ _ F2 H2 h2 e2 (s1.trans s2) (n1.nx.trans n2.nx)
theorem ds_set {x : Str} {pos' : Pos} (i : Nat) (hN : X.N.Nodup) (h : DE Z X E e w) (hi : X.N[i]? = some x := by rfl) (hx : Loc X.env.scope x := by first | exact Or.inl rfl | exact Or.inr rfl) (hs : swapsWith e (some (.Name x pos')) pos.line X.env = pure false := by rfl)
    (hf : X.fn x = true ∨ X.env.scope.names.lookup x = some .local := by first | exact .inl rfl | exact .inr rfl) : DS Z X E (.Assign [.Name x pos'] e pos) (sAsg w (gNm i)) := by
  obtain ⟨y, p, l⟩ := h
  refine ⟨_, ps_set hN hi hx p hs hf, fun c F H σ ρ Xd DD D e k h q => l c F H σ ρ Xd _ _ e k h fun d v F1 H1 h1 e1 s1 n1 r1 => ?_⟩
  exact q.nx _ _ F1 H1 h1 (e1.setD r1) s1 n1.nx
theorem EnvOk.setOwn {i : Nat} {xs : List D} {p : Addr} {vs : List V} {F1 H1 : Hp} (e : EnvOk Z K c F H σ ρ) (e1 : EnvOk Z K c F1 H1 σ ρ) (f1 : H p = none) (f2 : F1 p = none) (f3 : H1 p = some (.lst vs)) (r : RepL K F1 xs vs) : EnvOk Z K c F1 H1 (σ.set i (some (.ref p))) (ρ.set i (.own xs)) :=
  e1.setS (s := .own xs) ⟨p, vs, rfl, f2, e.h0 f1, f3, r⟩ fun ys a _ z j zs _ hj => by
    have z : p = a := by simpa using z
    subst z
    exact e.notOwn (xs := vs) f1 hj
theorem ds_setL {x : Str} {pos' : Pos} {w : LW} (i : Nat) (hN : X.N.Nodup) (h : DLs Z X E e w) (hi : X.N[i]? = some x := by rfl) (hx : Loc X.env.scope x := by first | exact Or.inl rfl | exact Or.inr rfl) (hs : swapsWith e (some (.Name x pos')) pos.line X.env = pure false := by rfl)
    (hf : X.fn x = true ∨ X.env.scope.names.lookup x = some .local := by first | exact .inl rfl | exact .inr rfl) : DS Z X E (.Assign [.Name x pos'] e pos) (sSetL i w) := by
  obtain ⟨y, p, l⟩ := h
  refine ⟨_, ps_set hN hi hx p hs hf, fun c F H σ ρ Xd DD D e k h q => l c F H σ ρ Xd _ _ e k h fun xs a vs F1 H1 h1 e1 s1 n1 f1 f2 f3 r1 => ?_⟩
  exact q.nx _ _ F1 H1 h1 (e.setOwn e1 f1 f2 f3 r1) s1 n1.nx
theorem ds_augI {x : Str} {pos' : Pos} {op : Operator} {f : Int → Int → Int} (i : Nat) (hN : X.N.Nodup) (ho : PIp X op (ipI f)) (h : DE Z X E e w) (hi : X.N[i]? = some x := by rfl) (hx : Loc X.env.scope x := by first | exact Or.inl rfl | exact Or.inr rfl)
    (hf : X.fn x = true ∨ X.env.scope.names.lookup x = some .local := by first | exact .inl rfl | exact .inr rfl) : DS Z X E (.AugAssign (.Name x pos') op e pos) (sAugI i f w) := by
  obtain ⟨y, p, l⟩ := h
  refine ⟨_, ps_aug hN hi hx p ho hf, fun c F H σ ρ Xd DD D e k h q => ?_⟩
  unfold sAugI at h
  cases q1 : ρ[i]? with
  | none => rw [q1] at h; exact h.elim
  | some s =>
    rw [q1] at h
    cases s with
    | d x0 =>
      cases x0 with
      | int n =>
        obtain ⟨o, o1, v, o2, o3⟩ := e.slot i _ q1
        have o3 : v = V.int n := o3
        subst o2 o3
        refine ⟨V.int n, o1, l c F H σ ρ Xd _ _ e k h fun d v F1 H1 h1 e1 s1 n1 r1 => ?_⟩
        cases d with
        | int m =>
          have r1 : v = V.int m := r1
          exact ⟨n, m, rfl, r1, q.nx _ _ F1 H1 h1 (e1.setD (x := .int (f n m)) rfl) s1 n1.nx⟩
        | non => exact h1.elim
        | bl _ => exact h1.elim
        | str _ => exact h1.elim
        | tup _ => exact h1.elim
        | lst _ => exact h1.elim
        | ins _ _ _ => exact h1.elim
      | non => exact h.elim
      | bl _ => exact h.elim
      | str _ => exact h.elim
      | tup _ => exact h.elim
      | lst _ => exact h.elim
      | ins _ _ _ => exact h.elim
    | un => exact h.elim
    | own _ => exact h.elim
    | src => exact h.elim
/-! ### the frame's own lists -/
theorem EnvOk.mutate {i : Nat} {xs ys : List D} {p : Addr} {vs ws : List V} (e : EnvOk Z K c F H σ ρ) (h : ρ[i]? = some (SV.own xs)) (hs : σ[i]? = some (some (V.ref p))) (hp : H p = some (.lst vs)) (hf : F p = none) (h0 : c.H0 p = none) (r : RepL K F ys ws) : EnvOk Z K c F (upd H p (.lst ws)) σ (ρ.set i (.own ys)) := by
  have hl : i < ρ.length := by
    rcases Nat.lt_or_ge i ρ.length with z | z
    · exact z
    · rw [List.getElem?_eq_none_iff.mpr z] at h
      cases h
  have nF : ∀ b o, F b = some o → b ≠ p := fun b o q z => by
    rw [z, hf] at q
    cases q
  refine ⟨by rw [List.length_set]; exact e.len, fun j t h1 => ?_, fun j k us zs hjk h1 h2 => ?_, fun b o q => ?_, e.f0, e.new, fun b o q hb => ?_, fun b q => ?_, fun a fp q => ?_⟩
  · by_cases hj : j = i
    · subst hj
      rw [List.getElem?_set_self hl] at h1
      cases h1
      exact ⟨_, hs, p, ws, rfl, hf, h0, upd_same, r⟩
    · rw [List.getElem?_set_ne (Ne.symm hj)] at h1
      obtain ⟨o, o1, o2⟩ := e.slot j t h1
      refine ⟨o, o1, ?_⟩
      cases t with
      | own us =>
        obtain ⟨a, us', r1, r2, r3, r4, r5⟩ := o2
        refine ⟨a, us', r1, r2, r3, ?_, r5⟩
        have ha : a ≠ p := fun z => e.sep j i us xs hj h1 h (by rw [o1, hs, r1, z])
        rw [upd_ne ha]
        exact r4
      | un => trivial
      | d y => exact o2
      | src => exact o2
  · have f : ∀ (j : Nat) us, (ρ.set i (SV.own ys))[j]? = some (SV.own us) → ∃ us', ρ[j]? = some (SV.own us') := fun j us h1 => by
      by_cases hj : j = i
      · subst hj
        exact ⟨xs, h⟩
      · rw [List.getElem?_set_ne (Ne.symm hj)] at h1
        exact ⟨us, h1⟩
    obtain ⟨u1, h1⟩ := f j us h1
    obtain ⟨u2, h2⟩ := f k zs h2
    exact e.sep j k u1 u2 hjk h1 h2
  · rw [upd_ne (nF b o q)]
    exact e.fh b o q
  · have hb2 : b ≠ p := fun z => by rw [z, h0] at q; cases q
    rw [upd_ne hb2]
    exact e.keep b o q hb
  · have hb2 : b ≠ p := fun z => by rw [z, h0] at q; exact q rfl
    rw [upd_ne hb2]
    exact e.all b q
  · obtain ⟨q1, q2⟩ := e.src a fp q
    refine ⟨Z.loc q1 fun b hb => ?_, q2⟩
    have hb2 : b ≠ p := fun z => (q2 b hb).2 (by rw [z]; exact h0)
    rw [upd_ne hb2]
theorem EnvOk.own_at {i : Nat} {xs : List D} (e : EnvOk Z K c F H σ ρ) (h : ρ[i]? = some (SV.own xs)) : ∃ p vs, σ[i]? = some (some (V.ref p)) ∧ F p = none ∧ c.H0 p = none ∧ H p = some (.lst vs) ∧ RepL K F xs vs := by
  obtain ⟨o, o1, a, vs, r1, r2, r3, r4, r5⟩ := e.slot i _ h
  exact ⟨a, vs, by rw [o1, r1], r2, r3, r4, r5⟩
theorem nx_mut {H : Hp} {p : Addr} {o : HO} : Nx H (upd H p o) := fun b h => by
  by_cases hb : b = p
  · subst hb
    rw [upd_same]
    simp
  · rw [upd_ne hb]
    exact h
theorem own_cases {i : Nat} {P : List D → Prop} (h : match ρ[i]? with
  | some (SV.own xs) => P xs
  | _ => False) : ∃ xs, ρ[i]? = some (SV.own xs) ∧ P xs := by
  cases q1 : ρ[i]? with
  | none => rw [q1] at h; exact h.elim
  | some s =>
    rw [q1] at h
    cases s with
    | own xs => exact ⟨xs, rfl, h⟩
    | un => exact h.elim
    | src => exact h.elim
    | d _ => exact h.elim
theorem ds_append {x : Str} {p p1 p2 p3 : Pos} (i : Nat) (h : DE Z X E e w) (hN : X.N[i]? = some x := by rfl) (hv : Vis X.env.scope x := by first | exact Or.inl rfl | exact Or.inr (Or.inl rfl) | exact Or.inr (Or.inr rfl)) (hd : (x == ("__debug__" : Str)) = false := by decide)
    (hcd : (x == ("__classdict__" : Str)) = false := by decide) (hpe : ∀ {ta te : TE}, PE X (.Name x p) ta → PE X e te → PE X (.Call (.Attribute (.Name x p) "append" p1) [e] [] p2) (tBM X.K "list" rAppend ta (tCons te tNil)) := by
      exact fun ha he => pe_bm PySem.F.plainAttrs_list PySem.F.slot_list_append PySem.F.type_list_append mt_append ha (pa_cons he pa_nil)) (hs : swapsWith (.Call (.Attribute (.Name x p) "append" p1) [e] [] p2) none p3.line X.env = pure false := by rfl) :
    DS Z X E (.Expr (.Call (.Attribute (.Name x p) "append" p1) [e] [] p2) p3) (sAppend i w) := by
  obtain ⟨y, py, l⟩ := h
  refine ⟨_, ps_expr (hpe (pe_var hN hv hd hcd) py) hs, fun c F H σ ρ Xd DD D e k h q => ?_⟩
  obtain ⟨xs, q1, h⟩ := own_cases h
  obtain ⟨a, vs, h2, h3, h4, h5, h6⟩ := e.own_at q1
  refine ⟨.ref a, h2, .inl ⟨rfl, vs, SqL.of h5⟩, ?_⟩
  refine l c F H σ ρ Xd _ _ e k h fun d v F1 H1 h1 e1 s1 n1 r1 => ?_
  obtain ⟨a', ws, h2', h3', h4', h5', h6'⟩ := e1.own_at q1
  rw [h2] at h2'
  cases h2'
  exact ⟨a, ws, v, rfl, rfl, h5', by rw [h6'.len]; exact szlt h1.1, q.nx _ _ F1 _ h1.2 (e1.mutate q1 h2 h5' h3' h4' (h6'.app (RepL.one r1))) s1 (n1.nx.trans nx_mut)⟩
theorem ixN_len {n : Nat} {k : Int} {j : Nat} (h : ixN n k = some j) : j < n := (ixN_seq h).2.1
theorem ds_setItem {x : Str} {p p1 : Pos} {ke : Expr} {wk : EW} (i : Nat) (h : DE Z X E e w) (hk : DE Z X E ke wk) (hN : X.N[i]? = some x := by rfl) (hv : Vis X.env.scope x := by first | exact Or.inl rfl | exact Or.inr (Or.inl rfl) | exact Or.inr (Or.inr rfl)) (hd : (x == ("__debug__" : Str)) = false := by decide)
    (hcd : (x == ("__classdict__" : Str)) = false := by decide)
    (hps : ∀ {to ti te : TE}, PE X (.Name x p) to → PE X ke ti → PE X e te → PS X (.Assign [.Subscript (.Name x p) ke p1] e pos) (tAsg te (gSub to ti rSetL)) := by exact fun h1 h2 h3 => ps_asg h3 (pg_sub h1 h2 set_list)) :
    DS Z X E (.Assign [.Subscript (.Name x p) ke p1] e pos) (sSetItem i wk w) := by
  obtain ⟨y, py, l⟩ := h
  obtain ⟨y2, py2, l2⟩ := hk
  refine ⟨_, hps (pe_var hN hv hd hcd) py2 py, fun c F H σ ρ Xd DD D e k h q => ?_⟩
  obtain ⟨xs, q1, h⟩ := own_cases h
  refine l c F H σ ρ Xd _ _ e k h fun d v F1 H1 h1 e1 s1 n1 r1 => ?_
  obtain ⟨a, ws, h2, h3, h4, h5, h6⟩ := e1.own_at q1
  refine ⟨.ref a, h2, ?_⟩
  refine l2 c F1 H1 σ ρ Xd _ _ e1 (k.mono s1) h1 fun d2 v2 F2 H2 h1 e2 s2 n2 r2 => ?_
  obtain ⟨a', ws, h2', h3, h4, h5, h6⟩ := e2.own_at q1
  rw [h2] at h2'
  cases h2'
  cases d2 with
  | int m =>
    have r2 : v2 = V.int m := r2
    cases q3 : ixN xs.length m with
    | none =>
      have h1 : (match ixN xs.length m with
        | some n => DD.nx (ρ.set i (.own (xs.set n d)))
        | none => False) := h1
      rw [q3] at h1
      exact h1.elim
    | some j =>
      have h1 : (match ixN xs.length m with
        | some n => DD.nx (ρ.set i (.own (xs.set n d)))
        | none => False) := h1
      rw [q3] at h1
      exact ⟨a, ws, m, j, rfl, r2, h5, by rw [h6.len]; exact q3, q.nx _ _ F2 _ h1 (e2.mutate q1 h2 h5 h3 h4 (h6.set j (Rep.mono s2 _ _ r1))) (s1.trans s2) ((n1.nx.trans n2.nx).trans nx_mut)⟩
  | non => exact h1.elim
  | bl _ => exact h1.elim
  | str _ => exact h1.elim
  | tup _ => exact h1.elim
  | lst _ => exact h1.elim
  | ins _ _ _ => exact h1.elim
theorem ds_pop {x : Str} {p p1 p2 p3 : Pos} (i : Nat) (hN : X.N[i]? = some x := by rfl) (hv : Vis X.env.scope x := by first | exact Or.inl rfl | exact Or.inr (Or.inl rfl) | exact Or.inr (Or.inr rfl)) (hd : (x == ("__debug__" : Str)) = false := by decide)
    (hcd : (x == ("__classdict__" : Str)) = false := by decide) (hpe : ∀ {ta : TE}, PE X (.Name x p) ta → PE X (.Call (.Attribute (.Name x p) "pop" p1) [] [] p2) (tBM0 X.K "list" rPop ta) := by
      exact fun ha => pe_bm0 PySem.F.plainAttrs_list PySem.F.slot_list_pop PySem.F.type_list_pop mt_pop ha) (hs : swapsWith (.Call (.Attribute (.Name x p) "pop" p1) [] [] p2) none p3.line X.env = pure false := by rfl) :
    DS Z X E (.Expr (.Call (.Attribute (.Name x p) "pop" p1) [] [] p2) p3) (sPop i) := by
  refine ⟨_, ps_expr (hpe (pe_var hN hv hd hcd)) hs, fun c F H σ ρ Xd DD D e k h q => ?_⟩
  obtain ⟨xs, q1, h⟩ := own_cases h
  obtain ⟨a, vs, h2, h3, h4, h5, h6⟩ := e.own_at q1
  have hl : 0 < vs.length := by
    rw [h6.len]
    exact List.length_pos_iff.mpr h.1
  exact ⟨.ref a, h2, .inl ⟨rfl, vs, SqL.of h5⟩, a, vs, vs[vs.length - 1]'(by omega), rfl, rfl, h5, List.getElem?_eq_getElem (by omega), q.nx _ _ F _ h.2 (e.mutate q1 h2 h5 h3 h4 h6.dropLast) (Same.refl _) nx_mut⟩
/-- the own list is data from here on -/
theorem EnvOk.freezeS {i : Nat} {xs : List D} (e : EnvOk Z K c F H σ ρ) (h : ρ[i]? = some (SV.own xs)) : ∃ F', Same F F' ∧ EnvOk Z K c F' H σ (ρ.set i (.d (.lst xs))) := by
  obtain ⟨a, vs, h2, h3, h4, h5, h6⟩ := e.own_at h
  have sF : Same F (upd F a (.lst vs)) := fun b u hb => by
    rw [upd_ne (ne_of_none hb h3)]
    exact hb
  have w : EnvOk Z K c F H σ (ρ.set i .un) := by
    refine ⟨by rw [List.length_set]; exact e.len, fun j t h1 => ?_, fun j k us zs hjk h1 h2 => ?_, e.fh, e.f0, e.new, e.keep, e.all, e.src⟩
    · by_cases hj : j = i
      · subst hj
        have hl : j < ρ.length := by
          rcases Nat.lt_or_ge j ρ.length with z | z
          · exact z
          · rw [List.getElem?_eq_none_iff.mpr z] at h
            cases h
        rw [List.getElem?_set_self hl] at h1
        cases h1
        exact ⟨_, h2, trivial⟩
      · rw [List.getElem?_set_ne (Ne.symm hj)] at h1
        exact e.slot j t h1
    · have f : ∀ (j : Nat) us, (ρ.set i SV.un)[j]? = some (SV.own us) → ρ[j]? = some (SV.own us) := fun j us h1 => by
        by_cases hj : j = i
        · subst hj
          rcases Nat.lt_or_ge j ρ.length with z | z
          · rw [List.getElem?_set_self z] at h1
            cases h1
          · rw [List.getElem?_eq_none_iff.mpr (by rw [List.length_set]; exact z)] at h1
            cases h1
        · rw [List.getElem?_set_ne (Ne.symm hj)] at h1
          exact h1
      exact e.sep j k us zs hjk (f j us h1) (f k zs h2)
  have w2 := w.freeze h3 h4 h5 (fun j ys hj z => by
    by_cases hji : j = i
    · subst hji
      rcases Nat.lt_or_ge j ρ.length with q | q
      · rw [List.getElem?_set_self q] at hj
        cases hj
      · rw [List.getElem?_eq_none_iff.mpr (by rw [List.length_set]; exact q)] at hj
        cases hj
    · rw [List.getElem?_set_ne (Ne.symm hji)] at hj
      exact e.sep j i ys xs hji hj h (z.trans h2.symm))
  refine ⟨_, sF, ?_⟩
  have w3 := w2.setD (i := i) (x := .lst xs) (v := .ref a) ⟨a, vs, rfl, SqL.of upd_same, RepL.mono sF _ _ h6⟩
  rw [List.set_set] at w3
  have e3 : σ.set i (some (V.ref a)) = σ := by
    apply List.ext_getElem?
    intro j
    by_cases hj : j = i
    · subst hj
      rw [List.getElem?_set_self (List.getElem?_eq_some_iff.mp h2).1, h2]
    · rw [List.getElem?_set_ne (Ne.symm hj)]
  rw [e3] at w3
  exact w3
theorem dss_freeze {sts : List Stmt} (i : Nat) (h : DSs Z X E sts t) : DSs Z X E sts (sFreeze i t) := by
  obtain ⟨y, p, l⟩ := h
  refine ⟨y, p, fun c F H σ ρ Xd DD D e k h q => ?_⟩
  unfold sFreeze at h
  cases q1 : ρ[i]? with
  | none => rw [q1] at h; exact h.elim
  | some s =>
    rw [q1] at h
    cases s with
    | own xs =>
      obtain ⟨F', s1, e1⟩ := e.freezeS q1
      exact l c F' H σ _ Xd DD D e1 (k.mono s1) h (q.mono s1 (Nx.refl _))
    | d _ => exact l c F H σ ρ Xd DD D e k h q
    | un => exact h.elim
    | src => exact h.elim
theorem de_ixOwn {x : Str} {p : Pos} (i : Nat) (hb : DE Z X E b wb) (hs : PlainIx b := by exact fun _ _ => rfl) (hN : X.N[i]? = some x := by rfl) (hv : Vis X.env.scope x := by first | exact Or.inl rfl | exact Or.inr (Or.inl rfl) | exact Or.inr (Or.inr rfl)) (hd : (x == ("__debug__" : Str)) = false := by decide)
    (hcd : (x == ("__classdict__" : Str)) = false := by decide) : DE Z X E (.Subscript (.Name x p) b pos) (wIxOwn i wb) := by
  obtain ⟨y, py, l⟩ := hb
  refine ⟨_, pe_ix ix_list (pe_var hN hv hd hcd) py hs, fun c F H σ ρ Xd Qd Qv e k h q => ?_⟩
  obtain ⟨xs, q1, h⟩ := own_cases h
  obtain ⟨a, vs, h2, h3, h4, h5, h6⟩ := e.own_at q1
  refine ⟨.ref a, h2, ?_⟩
  refine l c F H σ ρ Xd _ _ e k h fun d v F1 H1 h1 e1 s1 n1 r1 => ?_
  obtain ⟨a', ws, h2', h3', h4', h5', h6'⟩ := e1.own_at q1
  rw [h2] at h2'
  cases h2'
  cases d with
  | int m =>
    have r1 : v = V.int m := r1
    cases q3 : atI xs m with
    | none =>
      have h1 : (match atI xs m with
        | some d => Qd d
        | none => False) := h1
      rw [q3] at h1
      exact h1.elim
    | some d =>
      have h1 : (match atI xs m with
        | some d => Qd d
        | none => False) := h1
      rw [q3] at h1
      obtain ⟨u, z1, z2⟩ := atI_rep h6' q3
      exact ⟨a, ws, m, u, rfl, r1, SqL.of h5', z1, q d u F1 H1 h1 e1 s1 n1 z2⟩
  | non => exact h1.elim
  | bl _ => exact h1.elim
  | str _ => exact h1.elim
  | tup _ => exact h1.elim
  | lst _ => exact h1.elim
  | ins _ _ _ => exact h1.elim
theorem elk0 {F : Hp} : ELk Z K c F E (fun _ _ => False) := fun _ _ _ _ _ _ _ z => z.elim
/-- behind an expression that was reckoned with slot i as data, its value being no object: all is as it was -/
theorem EnvOk.unfreeze {i : Nat} {xs : List D} {F' H' : Hp} (e : EnvOk Z K c F H σ ρ) (h : ρ[i]? = some (SV.own xs)) {Fa : Hp} (n : Kx c.fp Fa H F' H') (e' : EnvOk Z K c F' H' σ (ρ.set i (.d (.lst xs)))) : EnvOk Z K c F H' σ ρ := by
  have up : ∀ a u, H a = some u → c.H0 a = none → H' a = some u := fun a u q q0 => n.kp a u q fun z => by
    obtain ⟨x, fp, z1, z2⟩ := Cfg.of_fp z
    exact (e.src x fp z1).2 a z2 |>.2 q0
  refine ⟨e.len, fun j t h1 => ?_, e.sep, fun b u hb => ?_, e.f0, e.new, e'.keep, e'.all, fun x fp q => ⟨(e'.src x fp q).1, (e.src x fp q).2⟩⟩
  · obtain ⟨o, o1, o2⟩ := e.slot j t h1
    refine ⟨o, o1, ?_⟩
    cases t with
    | own ys =>
      obtain ⟨a, vs, r1, r2, r3, r4, r5⟩ := o2
      exact ⟨a, vs, r1, r2, r3, up _ _ r4 r3, r5⟩
    | un => trivial
    | d y => exact o2
    | src => exact o2
  · refine n.kp b u (e.fh b u hb) fun z => ?_
    obtain ⟨x, fp, z1, z2⟩ := Cfg.of_fp z
    rw [((e.src x fp z1).2 b z2).1] at hb
    cases hb
theorem rep_scalar {F F' : Hp} {d : D} {v : V} (h : scalarD d) (r : Rep K F d v) : Rep K F' d v := by
  cases d with
  | non => exact r
  | bl _ => exact r
  | int _ => exact r
  | str _ => exact r
  | tup _ => exact h.elim
  | lst _ => exact h.elim
  | ins _ _ _ => exact h.elim
theorem de_borrow (i : Nat) (h : DE Z X E e w) : DE Z X E e (wBorrow i w) := by
  obtain ⟨y, py, l⟩ := h
  refine ⟨y, py, fun c F H σ ρ Xd Qd Qv e k h q => ?_⟩
  obtain ⟨xs, q1, h⟩ := own_cases h
  obtain ⟨F', s1, e1⟩ := e.freezeS q1
  refine l c F' H σ _ _ _ _ e1 elk0 h fun d v F1 H1 h1 e2 s2 n2 r1 => ?_
  exact q d v F H1 h1.2 (e.unfreeze q1 n2 e2) (Same.refl _) ⟨n2.nx, n2.kp, fun _ z => .inl z⟩ (rep_scalar h1.1 r1)
theorem dt_borrow {w : TW} (i : Nat) (h : DT Z X E e w) : DT Z X E e (tBorrow i w) := by
  obtain ⟨y, py, l⟩ := h
  refine ⟨y, py, fun c F H σ ρ Xd Qd Qv e k h q => ?_⟩
  obtain ⟨xs, q1, h⟩ := own_cases h
  obtain ⟨F', s1, e1⟩ := e.freezeS q1
  refine l c F' H σ _ _ _ _ e1 elk0 h fun d F1 H1 h1 e2 s2 n2 => ?_
  exact q d F H1 h1 (e.unfreeze q1 n2 e2) (Same.refl _) ⟨n2.nx, n2.kp, fun _ z => .inl z⟩
end
end DL
set_option linter.all false
set_option autoImplicit false
set_option maxHeartbeats 2000000
/-! Loops and comprehensions. -/
namespace DL
open PySem PySem.Spec PyProof.Rows L2

/-- what an iterator gives, turn by turn -/
def ItemsOk (K : PySem.W.Frag) (F : Hp) (J : It) (ds : List D) : Prop := ∃ (G : Hp → Prop) (Y : Nat → Hp → V → Hp → Prop), Walk J ds.length G Y ∧ (∀ H, Same F H → G H) ∧
  ∀ (i : Nat) (d : D) (H1 : Hp) (x : V) (H2 F1 : Hp), ds[i]? = some d → Y i H1 x H2 → Same F F1 → Same F1 H1 → ∃ F2, Ext F1 H1 F2 H2 ∧ Rep K F2 d x
def LI (Z : SrcK) (K : PySem.W.Frag) (E : L2.St → XK) (t : TI) (w : IW) : Prop :=
  ∀ (c : Cfg) (F H : Hp) (σ : L2.St) (ρ : Env) (Xd : XD) (Qd : List D → Prop) (R : It → Hp → Prop), EnvOk Z K c F H σ ρ → ELk Z K c F E Xd → w Xd ρ Qd →
    (∀ ds J F' H', Qd ds → EnvOk Z K c F' H' σ ρ → Same F F' → Kx c.fp F H F' H' → ItemsOk K F' J ds → R J H') → t σ H R
def DI (Z : SrcK) (X : Cx) (E : L2.St → XK) (tg iter : Expr) (w : IW) : Prop := ∃ t, PI X tg iter t ∧ LI Z X.K E t w

section
variable {Z : SrcK} {X : Cx} {E : L2.St → XK} {K : PySem.W.Frag} {a b e tg : Expr} {wa wb wc : EW} {pos : Pos} {c : Cfg} {F H : Hp} {σ : L2.St} {ρ : Env}
def iSeqT (K : PySem.W.Frag) (tl : TE) : TI := fun σ H R => tl σ H fun x H1 => (∃ a, x = .ref a ∧ (∃ xs, SqL K H1 a xs) ∧ R (Itl K a) H1) ∨ (∃ a, x = .ref a ∧ (∃ xs, SqT K H1 a xs) ∧ R (Itt K a) H1) ∨ ∃ s, x = .str s ∧ R (Its s) H1
theorem pi_seqT {l : Expr} {tl : TE} (hl : PE X l tl) : PI X tg l (iSeqT X.K tl) := by
  refine ⟨fun pins s σ H R I h => ?_⟩
  refine thn (hl.run pins s σ H _ I h) fun v s1 ⟨x, H1, I1, r1, q1⟩ => ?_
  rcases q1 with ⟨a, e, ⟨xs, hq⟩, q⟩ | ⟨a, e, ⟨xs, hq⟩, q⟩ | ⟨y, ex, q⟩
  · subst e
    cases r1
    obtain ⟨its, rv, p, hz⟩ := I1.list hq
    refine wpAny_pyIter_list p.isList ?_
    refine ⟨s1.heap.objs.size, [s1.heap.objs.size], _, _, H1, rfl, I1.kept (t' := s1.toks) fun b o e => Heap.get?_push_of_some _ e, turn_list a _, ⟨_, Heap.get?_push_size _ rfl, rfl, rfl⟩, fun b hb => ?_, q⟩
    have e : b = s1.heap.objs.size := by simpa using hb
    subst e
    exact I1.fpOk (Nat.le_refl _) (I1.hok.fresh (Nat.le_refl _))
  · subst e
    cases r1
    obtain ⟨its, rv, p, hz⟩ := I1.tuple hq
    refine wpAny_pyIter_tuple (show s1.heap.IsTuple a its.toArray from p) ?_
    refine ⟨s1.heap.objs.size, [s1.heap.objs.size], _, _, H1, rfl, I1.kept (t' := s1.toks) fun b o e => Heap.get?_push_of_some _ e, turn_tuple a _, ⟨_, Heap.get?_push_size _ rfl, rfl, rfl⟩, fun b hb => ?_, q⟩
    have e : b = s1.heap.objs.size := by simpa using hb
    subst e
    exact I1.fpOk (Nat.le_refl _) (I1.hok.fresh (Nat.le_refl _))
  · subst ex
    obtain ⟨t, rfl⟩ := r1
    cases ha : y.cps.all (· < 128)
    · exact wpAny_pyIter_wide ha (pi_one (tk := s1.toks) I1 _ (turn_str _ y t "str_iterator" (.inr rfl)) ⟨_, Heap.get?_push_size _ rfl, rfl, rfl⟩ q)
    · exact wpAny_pyIter_ascii ha (pi_one (tk := s1.toks) I1 _ (turn_str _ y t "str_ascii_iterator" (.inl rfl)) ⟨_, Heap.get?_push_size _ rfl, rfl, rfl⟩ q)
theorem items_list {a : Addr} {xs : List D} {vs : List V} (h : SqL K F a vs) (r : RepL K F xs vs) : ItemsOk K F (Itl K a) xs := by
  refine ⟨fun H => SqL K H a vs, YAt vs, r.len ▸ walk_list, fun H s => same_l s h, fun i d H1 x H2 F1 hd y s1 s2 => ?_⟩
  obtain ⟨e1, e2⟩ := y
  subst e1
  obtain ⟨v, h1, h2⟩ := r.get hd
  rw [e2] at h1
  cases h1
  exact ⟨F1, Ext.refl s2, Rep.mono s1 _ _ h2⟩
theorem items_tup {a : Addr} {xs : List D} {vs : List V} (h : SqT K F a vs) (r : RepL K F xs vs) : ItemsOk K F (Itt K a) xs := by
  refine ⟨fun H => SqT K H a vs, YAt vs, r.len ▸ walk_tup, fun H s => same_t s h, fun i d H1 x H2 F1 hd y s1 s2 => ?_⟩
  obtain ⟨e1, e2⟩ := y
  subst e1
  obtain ⟨v, h1, h2⟩ := r.get hd
  rw [e2] at h1
  cases h1
  exact ⟨F1, Ext.refl s2, Rep.mono s1 _ _ h2⟩
theorem items_str {z : Str} : ItemsOk K F (Its z) (z.cps.toList.map fun c => .str ⟨#[c]⟩) := by
  refine ⟨fun _ => True, _, (by
    have e : (z.cps.toList.map fun c => (D.str ⟨#[c]⟩)).length = z.cps.size := by simp
    rw [e]
    exact walk_str), fun _ _ => trivial, fun i d H1 x H2 F1 hd y s1 s2 => ?_⟩
  obtain ⟨e1, cc, e2, e3⟩ := y
  subst e1
  rw [List.getElem?_map] at hd
  have e4 : z.cps.toList[i]? = some cc := by simpa using e2
  rw [e4] at hd
  cases hd
  exact ⟨F1, Ext.refl s2, e3⟩
theorem di_seq (h : DE Z X E e wa) : DI Z X E tg e (iSeq wa) := by
  obtain ⟨t, p, l⟩ := h
  refine ⟨_, pi_seqT p, fun c F H σ ρ Xd Qd R e k h q => ?_⟩
  refine l c F H σ ρ Xd _ _ e k h fun d v F1 H1 h1 e1 s1 n1 r1 => ?_
  cases d with
  | lst xs =>
    obtain ⟨a, vs, e2, h2, h3⟩ := r1
    exact .inl ⟨a, e2, ⟨vs, same_l e1.fh h2⟩, q xs _ F1 H1 h1 e1 s1 n1 (items_list h2 h3)⟩
  | tup xs =>
    obtain ⟨a, vs, e2, h2, h3⟩ := r1
    exact .inr (.inl ⟨a, e2, ⟨vs, same_t e1.fh h2⟩, q xs _ F1 H1 h1 e1 s1 n1 (items_tup h2 h3)⟩)
  | str z => exact .inr (.inr ⟨z, r1, q _ _ F1 H1 h1 e1 s1 n1 items_str⟩)
  | non => exact h1.elim
  | bl _ => exact h1.elim
  | int _ => exact h1.elim
  | ins _ _ _ => exact h1.elim
theorem rangeD_len {lo : Int} {n : Nat} : (rangeD lo n).length = n := by simp [rangeD]
theorem rangeD_get {lo : Int} {n i : Nat} {d : D} (h : (rangeD lo n)[i]? = some d) : d = .int (lo + (i : Int)) ∧ i < n := by
  unfold rangeD at h
  rw [List.getElem?_map] at h
  by_cases hi : i < n
  · rw [List.getElem?_eq_getElem (by simpa using hi)] at h
    simp only [List.getElem_range, Option.map_some, Option.some.injEq] at h
    exact ⟨h.symm, hi⟩
  · rw [List.getElem?_eq_none_iff.mpr (by simp; omega)] at h
    cases h
theorem items_range {lo : Int} {n : Nat} : ItemsOk K F (Itr lo n) (rangeD lo n) := by
  refine ⟨fun _ => True, YFn fun i => .int (lo + i), rangeD_len.symm ▸ walk_range, fun _ _ => trivial, fun i d H1 x H2 F1 hd y s1 s2 => ?_⟩
  obtain ⟨e1, e2⟩ := y
  subst e1
  rw [(rangeD_get hd).1]
  exact ⟨F1, Ext.refl s2, e2⟩
theorem di_range1 {p : Pos} (hm : X.mg "range" = none) (ha : DE Z X E a wa) (hg : Gl X "range" := by rfl) (hs : starEach [a] X.env = [(false, eval a X.env)] := by rfl) : DI Z X E tg (.Call (.Name "range" p) [a] [] pos) (iRange1 wa) := by
  obtain ⟨t, pa, l⟩ := ha
  refine ⟨_, pi_range1 hg hm (pa_cons pa pa_nil hs) hs, fun c F H σ ρ Xd Qd R e k h q => ?_⟩
  refine l c F H σ ρ Xd _ _ e k h fun d v F1 H1 h1 e1 s1 n1 r1 => ?_
  cases d with
  | int n =>
    have r1 : v = V.int n := r1
    exact ⟨n, by rw [r1], h1.1.1, h1.1.2, q _ _ F1 H1 h1.2 e1 s1 n1 items_range⟩
  | non => exact h1.elim
  | bl _ => exact h1.elim
  | str _ => exact h1.elim
  | tup _ => exact h1.elim
  | lst _ => exact h1.elim
  | ins _ _ _ => exact h1.elim
theorem di_range2 {p : Pos} (hm : X.mg "range" = none) (ha : DE Z X E a wa) (hb : DE Z X E b wb) (hg : Gl X "range" := by rfl) (hs : starEach [a, b] X.env = [(false, eval a X.env), (false, eval b X.env)] := by rfl) (hs2 : starEach [b] X.env = [(false, eval b X.env)] := by rfl) :
    DI Z X E tg (.Call (.Name "range" p) [a, b] [] pos) (iRange2 wa wb) := by
  obtain ⟨t, pa, l⟩ := ha
  obtain ⟨u, pb, l2⟩ := hb
  refine ⟨_, pi_range2 hg hm (pa_cons pa (pa_cons pb pa_nil hs2) (by rw [hs, hs2])) hs hs2, fun c F H σ ρ Xd Qd R e k h q => ?_⟩
  refine l c F H σ ρ Xd _ _ e k h fun d v F1 H1 h1 e1 s1 n1 r1 => ?_
  refine l2 c F1 H1 σ ρ Xd _ _ e1 (k.mono s1) h1 fun d2 v2 F2 H2 h2 e2 s2 n2 r2 => ?_
  cases d with
  | int m =>
    cases d2 with
    | int n =>
      have r1 : v = V.int m := r1
      have r2 : v2 = V.int n := r2
      subst r1 r2
      exact ⟨m, n, rfl, h2.1, q _ _ F2 H2 h2.2 e2 (s1.trans s2) (n1.trans n2) items_range⟩
    | non => exact h2.elim
    | bl _ => exact h2.elim
    | str _ => exact h2.elim
    | tup _ => exact h2.elim
    | lst _ => exact h2.elim
    | ins _ _ _ => exact h2.elim
  | non => exact h2.elim
  | bl _ => exact h2.elim
  | str _ => exact h2.elim
  | tup _ => exact h2.elim
  | lst _ => exact h2.elim
  | ins _ _ _ => exact h2.elim
/-! ### for -/
theorem ls_for {ti : TI} {g : TG} {tb : TS} {wi : IW} {gw : GW} {wb : SW} (hi : LI Z K E ti wi) (hg : LG Z K g gw) (hb : LS Z K E tb wb) : LS Z K E (tFor ti g tb) (sFor wi gw wb) := fun c F H σ ρ Xd DD D e l h q => by
  refine hi c F H σ ρ Xd _ _ e l h fun ds J F1 H1 h1 e1 s1 n1 it => ?_
  obtain ⟨G, Y, w, hG, hY⟩ := it
  refine for_it w (fun i σ' H' => ∃ F' ρ', EnvOk Z K c F' H' σ' ρ' ∧ Same F1 F' ∧ Nx H1 H' ∧ forGo gw wb Xd DD (ds.drop i) ρ') ⟨F1, ρ, e1, Same.refl _, Nx.refl _, h1⟩ (fun i σ' H' _ ⟨F', ρ', e', s', _, _⟩ => hG _ (s'.trans e'.fh)) ?_ ?_
  · rintro i x σ' Ha Hb hi' ⟨F', ρ', e', s', n', k⟩ y
    obtain ⟨F2, x2, r2⟩ := hY i ds[i] Ha x Hb F' (List.getElem?_eq_getElem hi') y s' e'.fh
    rw [List.drop_eq_getElem_cons hi'] at k
    have e2 := e'.ext x2
    refine hg c F2 Hb σ' ρ' ds[i] x _ _ e2 r2 k fun σ3 ρ3 F3 H3 h3 e3 s3 n3 => ?_
    have sF : Same F1 F3 := (s'.trans x2.ff).trans s3
    have nF : Nx H1 H3 := (n'.trans (Same.nx x2.hh)).trans n3.nx
    exact hb c F3 H3 σ3 ρ3 Xd _ _ e3 (l.mono (s1.trans sF)) h3 ⟨fun σ4 ρ4 F4 H4 z1 z2 z3 z4 => ⟨F4, ρ4, z2, sF.trans z3, nF.trans z4, z1⟩, (q.mono (s1.trans sF) (n1.nx.trans nF)).rt, (q.mono (s1.trans sF) (n1.nx.trans nF)).nx,
      fun σ4 ρ4 F4 H4 z1 z2 z3 z4 => ⟨F4, ρ4, z2, sF.trans z3, nF.trans z4, z1⟩⟩
  · rintro σ' H' ⟨F', ρ', e', s', n', k⟩
    rw [List.drop_length] at k
    exact q.nx σ' ρ' F' H' k e' (s1.trans s') (n1.nx.trans n')
theorem ds_for {iter : Expr} {body : List Stmt} {wi : IW} {gw : GW} {wb : SW} (hp : PassesOwn (model X.prog X.w) X.A X.env X.xe) (hi : DI Z X E tg iter wi) (hg : DG Z X tg gw) (hb : DSs Z X E body wb) (hc : X.calm = true := by rfl)
    (hs : ∀ x, foldedSetIterable iter X.env x = pure x := by intro _; rfl) : DS Z X E (.For tg iter body [] pos) (sFor wi gw wb) := by
  obtain ⟨t, p, l⟩ := hi
  obtain ⟨t1, p1, l1⟩ := hg
  obtain ⟨t2, p2, l2⟩ := hb
  exact ⟨_, ps_for hp hc p p1 p2 hs, ls_for l l1 l2⟩
/-! ### while -/
theorem ls_while {tc : TT} {tb : TS} {wc : TW} {wb : SW} (hc : LT Z K E tc wc) (hb : LS Z K E tb wb) : LS Z K E (tWhile tc tb) (sWhile wc wb) := fun c F H σ ρ Xd DD D e l h q => by
  obtain ⟨I, ⟨m0, i0⟩, step⟩ := h
  refine ⟨fun m σ' H' => ∃ F' ρ', EnvOk Z K c F' H' σ' ρ' ∧ Same F F' ∧ Nx H H' ∧ I m ρ', ⟨m0, F, ρ, e, Same.refl _, Nx.refl _, i0⟩, ?_⟩
  rintro m σ' H' ⟨F', ρ', e', s', n', i'⟩
  refine hc c F' H' σ' ρ' Xd _ _ e' (l.mono s') (step m ρ' i') fun b F1 H1 h1 e1 s1 n1 => ?_
  have sF := s'.trans s1
  have nF := n'.trans n1.nx
  cases b with
  | true =>
    rw [if_pos rfl] at h1 ⊢
    refine ⟨fun σ4 H4 => ∃ m', m' < m ∧ ∃ F4 ρ4, EnvOk Z K c F4 H4 σ4 ρ4 ∧ Same F F4 ∧ Nx H H4 ∧ I m' ρ4, fun σ4 H4 z => z, ?_⟩
    exact hb c F1 H1 σ' ρ' Xd _ _ e1 (l.mono sF) h1 ⟨fun σ4 ρ4 F4 H4 ⟨m', z0, z1⟩ z2 z3 z4 => ⟨m', z0, F4, ρ4, z2, sF.trans z3, nF.trans z4, z1⟩, (q.mono sF nF).rt, (q.mono sF nF).nx,
      fun σ4 ρ4 F4 H4 ⟨m', z0, z1⟩ z2 z3 z4 => ⟨m', z0, F4, ρ4, z2, sF.trans z3, nF.trans z4, z1⟩⟩
  | false =>
    rw [if_neg Bool.false_ne_true] at h1 ⊢
    exact q.nx σ' ρ' F1 H1 h1 e1 sF nF
theorem ds_while {cnd : Expr} {body : List Stmt} {wc : TW} {wb : SW} (hp : PassesOwn (model X.prog X.w) X.A X.env X.xe) (hc : DT Z X E cnd wc) (hb : DSs Z X E body wb) : DS Z X E (.While cnd body [] pos) (sWhile wc wb) := by
  obtain ⟨t, p, l⟩ := hc
  obtain ⟨t1, p1, l1⟩ := hb
  exact ⟨_, ps_while hp p p1, ls_while l l1⟩
/-! ### comprehensions -/
theorem EnvOk.wipe (e : EnvOk Z K c F H σ ρ) : ∀ vs : List Nat, EnvOk Z K c F H (L2.wipe σ vs) (wipeW ρ vs)
  | [] => e
  | v :: vs => by
    have w := EnvOk.wipe e vs
    refine ⟨by
      show ((L2.wipe σ vs).set v none).length = ((wipeW ρ vs).set v .un).length
      rw [List.length_set, List.length_set]; exact w.len, fun j t h1 => ?_, fun j k us zs hjk h1 h2 => ?_, w.fh, w.f0, w.new, w.keep, w.all, w.src⟩
    · have h1 : ((wipeW ρ vs).set v SV.un)[j]? = some t := h1
      show ∃ o, ((L2.wipe σ vs).set v none)[j]? = some o ∧ _
      by_cases hj : j = v
      · subst hj
        rcases Nat.lt_or_ge j (wipeW ρ vs).length with z | z
        · rw [List.getElem?_set_self z] at h1
          cases h1
          exact ⟨none, List.getElem?_set_self (by rw [w.len]; exact z), trivial⟩
        · rw [List.getElem?_eq_none_iff.mpr (by rw [List.length_set]; exact z)] at h1
          cases h1
      · rw [List.getElem?_set_ne (Ne.symm hj)] at h1 ⊢
        exact w.slot j t h1
    · have f : ∀ (j : Nat) us, ((wipeW ρ vs).set v SV.un)[j]? = some (SV.own us) → (wipeW ρ vs)[j]? = some (SV.own us) ∧ j ≠ v := fun j us h1 => by
        by_cases hj : j = v
        · subst hj
          rcases Nat.lt_or_ge j (wipeW ρ vs).length with z | z
          · rw [List.getElem?_set_self z] at h1
            cases h1
          · rw [List.getElem?_eq_none_iff.mpr (by rw [List.length_set]; exact z)] at h1
            cases h1
        · rw [List.getElem?_set_ne (Ne.symm hj)] at h1
          exact ⟨h1, hj⟩
      obtain ⟨a1, a2⟩ := f j us h1
      obtain ⟨b1, b2⟩ := f k zs h2
      show ((L2.wipe σ vs).set v none)[j]? ≠ ((L2.wipe σ vs).set v none)[k]?
      rw [List.getElem?_set_ne (Ne.symm a2), List.getElem?_set_ne (Ne.symm b2)]
      exact w.sep j k us zs hjk a1 b1
/-! ### the reading that stands for what is asked of data -/
def canE (Z : SrcK) (K : PySem.W.Frag) (E : L2.St → XK) (w : EW) : TE := fun σ H Qv => ∃ (c : Cfg) (F : Hp) (ρ : Env) (Xd : XD) (Qd : D → Prop), EnvOk Z K c F H σ ρ ∧ ELk Z K c F E Xd ∧ w Xd ρ Qd ∧
  ∀ d v F' H', Qd d → EnvOk Z K c F' H' σ ρ → Same F F' → Kx c.fp F H F' H' → Rep K F' d v → Qv v H'
def canT (Z : SrcK) (K : PySem.W.Frag) (E : L2.St → XK) (w : TW) : TT := fun σ H Qv => ∃ (c : Cfg) (F : Hp) (ρ : Env) (Xd : XD) (Qd : Bool → Prop), EnvOk Z K c F H σ ρ ∧ ELk Z K c F E Xd ∧ w Xd ρ Qd ∧
  ∀ d F' H', Qd d → EnvOk Z K c F' H' σ ρ → Same F F' → Kx c.fp F H F' H' → Qv d H'
def canG (Z : SrcK) (K : PySem.W.Frag) (g : GW) : TG := fun v σ H Qv => ∃ (c : Cfg) (F : Hp) (ρ : Env) (d : D) (Qd : Env → Prop), EnvOk Z K c F H σ ρ ∧ Rep K F d v ∧ g d ρ Qd ∧
  ∀ σ' ρ' F' H', Qd ρ' → EnvOk Z K c F' H' σ' ρ' → Same F F' → Kx c.fp F H F' H' → Qv σ' H'
theorem le_can {w : EW} : LE Z K E (canE Z K E w) w := fun c F H σ ρ Xd Qd Qv e l h q => ⟨c, F, ρ, Xd, Qd, e, l, h, q⟩
theorem lt_can {w : TW} : LT Z K E (canT Z K E w) w := fun c F H σ ρ Xd Qd Qv e l h q => ⟨c, F, ρ, Xd, Qd, e, l, h, q⟩
theorem lg_can {g : GW} : LG Z K (canG Z K g) g := fun c F H σ ρ d v Qd Qv e r h q => ⟨c, F, ρ, d, Qd, e, r, h, q⟩
theorem pe_can {w : EW} (h : DE Z X E e w) : PE X e (canE Z X.K E w) := by
  obtain ⟨t, p, l⟩ := h
  exact ⟨fun pins s σ H Q I ⟨c, F, ρ, Xd, Qd, e, k, h, q⟩ => p.run pins s σ H Q I (l c F H σ ρ Xd Qd Q e k h q)⟩
theorem pt_can {w : TW} (h : DT Z X E e w) : PT X e (canT Z X.K E w) := by
  obtain ⟨t, p, l⟩ := h
  exact ⟨fun pins s σ H Q I ⟨c, F, ρ, Xd, Qd, e, k, h, q⟩ => p.run pins s σ H Q I (l c F H σ ρ Xd Qd Q e k h q)⟩
theorem pg_can {g : GW} (h : DG Z X e g) : PG X e (canG Z X.K g) := by
  obtain ⟨t, p, l⟩ := h
  exact ⟨fun pins s σ H v u Q I r ⟨c, F, ρ, d, Qd, e, r2, h, q⟩ => p.run pins s σ H v u Q I r (l c F H σ ρ d v Qd Q e r2 h q)⟩
/-- the tests of a comprehension -/
def DTs (Z : SrcK) (X : Cx) (E : L2.St → XK) (ifs : List Expr) (w : TW) : Prop := ∃ t, PTs X ifs t ∧ LT Z X.K E t w
theorem dts_nil : DTs Z X E [] tYesW := ⟨_, pts_nil, fun c F H σ ρ Xd Qd Qv e _ h q => q true F H h e (Same.refl _) (Kx.refl _ _ _)⟩
theorem dts_one {w : TW} (h : DT Z X E e w) : DTs Z X E [e] w := by
  obtain ⟨t, p, l⟩ := h
  exact ⟨_, pts_one p, l⟩
theorem pts_can {ifs : List Expr} {w : TW} (h : DTs Z X E ifs w) : PTs X ifs (canT Z X.K E w) := by
  obtain ⟨t, p, l⟩ := h
  exact ⟨fun pins s σ H Q I ⟨c, F, ρ, Xd, Qd, e, k, h, q⟩ => p.run pins s σ H Q I (l c F H σ ρ Xd Qd Q e k h q)⟩
abbrev E00 : L2.St → XK := fun _ => E0
theorem wipe_idem (σ : L2.St) : ∀ vs : List Nat, L2.wipe (L2.wipe σ vs) vs = L2.wipe σ vs := fun vs => by
  apply List.ext_getElem?
  have key : ∀ (vs : List Nat) (σ : L2.St) (i : Nat), (L2.wipe σ vs)[i]? = if i ∈ vs ∧ i < σ.length then some none else σ[i]? := fun vs => by
    induction vs with
    | nil => intro σ i; simp [L2.wipe]
    | cons v vs ih =>
      intro σ i
      show ((L2.wipe σ vs).set v none)[i]? = _
      by_cases hi : i = v
      · subst hi
        by_cases hl : i < σ.length
        · rw [List.getElem?_set_self (by rw [L2.wipe_length]; exact hl)]
          simp [hl]
        · rw [List.getElem?_eq_none_iff.mpr (by rw [List.length_set, L2.wipe_length]; omega)]
          rw [if_neg (by simp [hl]), List.getElem?_eq_none_iff.mpr (by omega)]
      · rw [List.getElem?_set_ne (Ne.symm hi), ih]
        simp [hi]
  intro i
  rw [key, key, L2.wipe_length]
  split
  · rfl
  · rfl
theorem wipe_set {σ : L2.St} {v : Option V} : ∀ {vs : List Nat} {i : Nat}, i ∈ vs → L2.wipe (σ.set i v) vs = L2.wipe σ vs := fun {vs i} hi => by
  have key : ∀ (vs : List Nat) (σ : L2.St) (i : Nat), (L2.wipe σ vs)[i]? = if i ∈ vs ∧ i < σ.length then some none else σ[i]? := fun vs => by
    induction vs with
    | nil => intro σ i; simp [L2.wipe]
    | cons v vs ih =>
      intro σ i
      show ((L2.wipe σ vs).set v none)[i]? = _
      by_cases hi : i = v
      · subst hi
        by_cases hl : i < σ.length
        · rw [List.getElem?_set_self (by rw [L2.wipe_length]; exact hl)]
          simp [hl]
        · rw [List.getElem?_eq_none_iff.mpr (by rw [List.length_set, L2.wipe_length]; omega)]
          rw [if_neg (by simp [hl]), List.getElem?_eq_none_iff.mpr (by omega)]
      · rw [List.getElem?_set_ne (Ne.symm hi), ih]
        simp [hi]
  apply List.ext_getElem?
  intro j
  rw [key, key, List.length_set]
  by_cases hj : j ∈ vs ∧ j < σ.length
  · rw [if_pos hj, if_pos hj]
  · rw [if_neg hj, if_neg hj]
    by_cases hji : j = i
    · subst hji
      have hl : ¬ j < σ.length := fun z => hj ⟨hi, z⟩
      rw [List.getElem?_eq_none_iff.mpr (by rw [List.length_set]; omega), List.getElem?_eq_none_iff.mpr (by omega)]
    · rw [List.getElem?_set_ne (Ne.symm hji)]
/-- what a target stores lies in the comprehension's own slots -/
def LGW (Z : SrcK) (K : PySem.W.Frag) (us : List Nat) (t : TG) (g : GW) : Prop := ∀ (c : Cfg) (F H : Hp) (σ : L2.St) (ρ : Env) (d : D) (v : V) (Qd : Env → Prop) (Qv : L2.St → Hp → Prop), EnvOk Z K c F H σ ρ → Rep K F d v → g d ρ Qd →
  (∀ σ' ρ' F' H', Qd ρ' → EnvOk Z K c F' H' σ' ρ' → Same F F' → Kx c.fp F H F' H' → L2.wipe σ' us = L2.wipe σ us → Qv σ' H') → t v σ H Qv
def LGWs (Z : SrcK) (K : PySem.W.Frag) (us : List Nat) (t : TGs) (g : List D → Env → (Env → Prop) → Prop) : Prop := ∀ (c : Cfg) (F H : Hp) (σ : L2.St) (ρ : Env) (ds : List D) (vs : List V) (Qd : Env → Prop) (Qv : L2.St → Hp → Prop), EnvOk Z K c F H σ ρ → RepL K F ds vs → g ds ρ Qd →
  (∀ σ' ρ' F' H', Qd ρ' → EnvOk Z K c F' H' σ' ρ' → Same F F' → Kx c.fp F H F' H' → L2.wipe σ' us = L2.wipe σ us → Qv σ' H') → t vs σ H Qv
def DGW (Z : SrcK) (X : Cx) (us : List Nat) (tg : Expr) (g : GW) : Prop := ∃ t, PG X tg t ∧ LGW Z X.K us t g
def DGWs (Z : SrcK) (X : Cx) (us : List Nat) (n : Nat) (tgs : List Expr) (g : List D → Env → (Env → Prop) → Prop) : Prop := (∃ t, PGs X tgs t ∧ LGWs Z X.K us t g) ∧ ∀ ds ρ Q, g ds ρ Q → ds.length = n
theorem dgw_name {us : List Nat} {x : Str} {p : Pos} (i : Nat) (hN : X.N.Nodup) (hu : i ∈ us) (hi : X.N[i]? = some x := by rfl) (hx : Loc X.env.scope x := by first | exact Or.inl rfl | exact Or.inr rfl) (hf : X.fn x = true ∨ X.env.scope.names.lookup x = some .local := by first | exact .inl rfl | exact .inr rfl) : DGW Z X us (.Name x p) (gNm i) :=
  ⟨_, pg_name hN hi hx hf, fun c F H σ ρ d v Qd Qv e r h q => q _ _ F H h (e.setD r) (Same.refl _) (Kx.refl _ _ _) (wipe_set hu)⟩
theorem dgws_nil {us : List Nat} : DGWs Z X us 0 [] gNilW := ⟨⟨_, pgs_nil, fun c F H σ ρ ds vs Qd Qv e r h q => by
  obtain ⟨h1, h2⟩ := h
  subst h1
  have r : vs = [] := r
  exact ⟨r, q _ _ F H h2 e (Same.refl _) (Kx.refl _ _ _) rfl⟩⟩, fun ds ρ Q h => by rw [h.1]; rfl⟩
theorem dgws_cons {us : List Nat} {t : Expr} {ts : List Expr} {g : GW} {r : List D → Env → (Env → Prop) → Prop} {n : Nat} (h1 : DGW Z X us t g) (h2 : DGWs Z X us n ts r) (hg : ∀ d ρ Q, g d ρ Q → ∃ ρ', Q ρ' := by exact fun _ _ _ h => ⟨_, h⟩) (hs : (assignEach (t :: ts) X.env).map (·.2) = assign t X.env :: (assignEach ts X.env).map (·.2) := by rfl) : DGWs Z X us (n + 1) (t :: ts) (gConsW g r) := by
  obtain ⟨u, p, l⟩ := h1
  obtain ⟨⟨u1, p1, l1⟩, hl⟩ := h2
  refine ⟨⟨_, pgs_cons p p1 hs, fun c F H σ ρ ds vs Qd Qv e rr h q => ?_⟩, gConsW_len hg hl⟩
  cases ds with
  | nil => exact h.elim
  | cons x t =>
    obtain ⟨v, vr, e1, r1, r2⟩ := rr
    refine ⟨v, vr, e1, ?_⟩
    refine l c F H σ ρ x v _ _ e r1 h fun σ' ρ' F1 H1 h1 e1 s1 n1 w1 => ?_
    exact l1 c F1 H1 σ' ρ' t vr _ _ e1 (RepL.mono s1 _ _ r2) h1 fun σ2 ρ2 F2 H2 h2 e2 s2 n2 w2 => q _ _ F2 H2 h2 e2 (s1.trans s2) (n1.trans n2) (w2.trans w1)
theorem dgw_tup {us : List Nat} {es : List Expr} {k n : Nat} {r : List D → Env → (Env → Prop) → Prop} (h : DGWs Z X us n es r) (hc : X.calm = true) (hn : (assignEach es X.env).length = n := by rfl) (hst : (assignEach es X.env).findIdx? (·.1) = none := by rfl) : DGW Z X us (.Tuple es k pos) (gTupW r) := by
  obtain ⟨⟨u, p, l⟩, hl⟩ := h
  refine ⟨_, pg_or (pg_tup hc p hn hst) (pg_unl hc p hn hst), fun c F H σ ρ d v Qd Qv e rr h q => ?_⟩
  cases d with
  | tup xs =>
    obtain ⟨a, vs, e1, r1, r2⟩ := rr
    exact .inl ⟨a, vs, e1, same_t e.fh r1, by rw [r2.len]; exact hl _ _ _ h, l c F H σ ρ xs vs _ _ e r2 h q⟩
  | lst xs =>
    obtain ⟨a, vs, e1, r1, r2⟩ := rr
    exact .inr ⟨a, vs, e1, same_l e.fh r1, by rw [r2.len]; exact hl _ _ _ h, l c F H σ ρ xs vs _ _ e r2 h q⟩
  | non => exact h.elim
  | bl _ => exact h.elim
  | int _ => exact h.elim
  | str _ => exact h.elim
  | ins _ _ _ => exact h.elim
def canGW (Z : SrcK) (K : PySem.W.Frag) (us : List Nat) (g : GW) : TG := fun v σ H Qv => ∃ (c : Cfg) (F : Hp) (ρ : Env) (d : D) (Qd : Env → Prop), EnvOk Z K c F H σ ρ ∧ Rep K F d v ∧ g d ρ Qd ∧
  ∀ σ' ρ' F' H', Qd ρ' → EnvOk Z K c F' H' σ' ρ' → Same F F' → Kx c.fp F H F' H' → L2.wipe σ' us = L2.wipe σ us → Qv σ' H'
theorem lgw_can {us : List Nat} {g : GW} : LGW Z K us (canGW Z K us g) g := fun c F H σ ρ d v Qd Qv e r h q => ⟨c, F, ρ, d, Qd, e, r, h, q⟩
theorem pgw_can {us : List Nat} {g : GW} (h : DGW Z X us e g) : PG X e (canGW Z X.K us g) := by
  obtain ⟨t, p, l⟩ := h
  exact ⟨fun pins s σ H v u Q I r ⟨c, F, ρ, d, Qd, e, r2, h, q⟩ => p.run pins s σ H v u Q I r (l c F H σ ρ d v Qd Q e r2 h q)⟩
theorem upd_lst_env {D : Addr} {ws vs : List V} (e : EnvOk Z K c F H σ ρ) (hD : H D = some (.lst vs)) (hF : F D = none) (h0 : c.H0 D = none) (na : ∀ (j : Nat) ys, ρ[j]? = some (SV.own ys) → σ[j]? ≠ some (some (V.ref D))) : EnvOk Z K c F (upd H D (.lst ws)) σ ρ := by
  have nF : ∀ b o, F b = some o → b ≠ D := fun b o q z => by
    rw [z, hF] at q
    cases q
  refine ⟨e.len, fun j t h1 => ?_, e.sep, fun b o q => ?_, e.f0, e.new, fun b o q hb => ?_, fun b q => ?_, fun a fp q => ?_⟩
  · obtain ⟨o, o1, o2⟩ := e.slot j t h1
    refine ⟨o, o1, ?_⟩
    cases t with
    | own us =>
      obtain ⟨a, us', r1, r2, r3, r4, r5⟩ := o2
      refine ⟨a, us', r1, r2, r3, ?_, r5⟩
      have ha : a ≠ D := fun z => na j us h1 (by rw [o1, r1, z])
      rw [upd_ne ha]
      exact r4
    | un => trivial
    | d y => exact o2
    | src => exact o2
  · rw [upd_ne (nF b o q)]
    exact e.fh b o q
  · have hb2 : b ≠ D := fun z => by rw [z, h0] at q; cases q
    rw [upd_ne hb2]
    exact e.keep b o q hb
  · have hb2 : b ≠ D := fun z => by rw [z, h0] at q; exact q rfl
    rw [upd_ne hb2]
    exact e.all b q
  · obtain ⟨q1, q2⟩ := e.src a fp q
    refine ⟨Z.loc q1 fun b hb => ?_, q2⟩
    have hb2 : b ≠ D := fun z => (q2 b hb).2 (by rw [z]; exact h0)
    rw [upd_ne hb2]
theorem not_fp (e : EnvOk Z K c F H σ ρ) {D : Addr} (h0 : c.H0 D = none) : D ∉ c.fp := fun z => by
  obtain ⟨x, fp, z1, z2⟩ := Cfg.of_fp z
  exact ((e.src x fp z1).2 D z2).2 h0
theorem ll_comp {ti : TI} {wi : IW} {g : GW} {tt : TW} {w : EW} {us : List Nat} (hi : LI Z K E ti wi) : LL Z K E (tLc ti (canGW Z K us g) (canT Z K E00 tt) (canE Z K E00 w) us) (lComp wi g tt w us) := fun c F H σ ρ Xd Qd Qv e l h q => by
  refine hi c F H σ ρ Xd _ _ e l h fun ds J F1 H1 h1 e1 s1 n1 it => ?_
  obtain ⟨G, Y, wk, hG, hY⟩ := it
  intro D hD
  have hD0 : c.H0 D = none := e1.h0 hD
  have hDF : F1 D = none := e1.fh.free hD
  have nown : ∀ (j : Nat) ys, (wipeW ρ us)[j]? = some (SV.own ys) → (L2.wipe σ us)[j]? ≠ some (some (V.ref D)) := fun j ys hj => (e1.wipe us).notOwn (xs := []) hD hj
  have start : EnvOk Z K c F1 (upd H1 D (.lst [])) (L2.wipe σ us) (wipeW ρ us) := (e1.wipe us).lay hD
  refine lc_it wk (fun i H' => ∃ F' acc vacc, EnvOk Z K c F' H' (L2.wipe σ us) (wipeW ρ us) ∧ EnvOk Z K c F' H' σ ρ ∧ Same F1 F' ∧ Kx c.fp F1 H1 F' H' ∧ F' D = none ∧ H' D = some (.lst vacc) ∧ RepL K F' acc vacc ∧ compGo g tt w (wipeW ρ us) Qd (ds.drop i) acc)
    ⟨F1, [], [], start, e1.lay hD, Same.refl _, Kx.lay hD, hDF, upd_same, rfl, h1⟩ (fun i H' _ ⟨F', _, _, e', _, s', _⟩ => hG _ (s'.trans e'.fh)) ?_ ?_
  · rintro i x Ha Hb hi' ⟨F', acc, vacc, e', e'', s', n', f', d', r', k⟩ y
    obtain ⟨F2, x2, r2⟩ := hY i ds[i] Ha x Hb F' (List.getElem?_eq_getElem hi') y s' e'.fh
    rw [List.drop_eq_getElem_cons hi'] at k
    have e2 := e'.ext x2
    have e2' := e''.ext x2
    have dD := not_fp e' hD0
    refine lgw_can c F2 Hb (L2.wipe σ us) (wipeW ρ us) ds[i] x _ _ e2 r2 k fun σ3 ρ3 F3 H3 h3 e3 s3 n3 w3 => ⟨w3.trans (wipe_idem _ _), ?_⟩
    refine lt_can c F3 H3 σ3 ρ3 _ _ _ e3 elk0 h3 fun b F4 H4 h4 e4 s4 n4 => ?_
    have kk : ∀ F5 H5, Kx c.fp F4 H4 F5 H5 → Kx c.fp F' Ha F5 H5 := fun F5 H5 m => ((x2.kx.trans n3).trans n4).trans m
    have back : ∀ F5 H5 σ5 ρ5, EnvOk Z K c F5 H5 σ5 ρ5 → Same F4 F5 → Kx c.fp F4 H4 F5 H5 → ∀ {σ6 : L2.St} {ρ6 : Env}, EnvOk Z K c F' Ha σ6 ρ6 → EnvOk Z K c F5 H5 σ6 ρ6 := fun F5 H5 σ5 ρ5 e5 s5 n5 {σ6 ρ6} e6 => by
      have kx := kk F5 H5 n5
      have sF : Same F' F5 := ((x2.ff.trans s3).trans s4).trans s5
      refine ⟨e6.len, fun j t h1 => ?_, e6.sep, e5.fh, e5.f0, e5.new, e5.keep, e5.all, e5.src⟩
      obtain ⟨o, o1, o2⟩ := e6.slot j t h1
      refine ⟨o, o1, ?_⟩
      cases t with
      | own ys =>
        obtain ⟨a, vs, z1, z2, z3, z4, z5⟩ := o2
        refine ⟨a, vs, z1, ?_, z3, kx.kp _ _ z4 (not_fp e6 z3), RepL.mono sF _ _ z5⟩
        cases z6 : F5 a with
        | none => rfl
        | some u =>
          rcases kx.new a (by rw [z6]; simp) with m | m
          · exact absurd z2 m
          · rw [m] at z4
            cases z4
      | un => trivial
      | d y =>
        obtain ⟨v, z1, z2⟩ := o2
        exact ⟨v, z1, Rep.mono sF _ _ z2⟩
      | src => exact o2
    have fD : ∀ F5 H5, Kx c.fp F4 H4 F5 H5 → F5 D = none := fun F5 H5 m => by
      cases z6 : F5 D with
      | none => rfl
      | some u =>
        rcases (kk F5 H5 m).new D (by rw [z6]; simp) with m | m
        · exact absurd f' m
        · rw [m] at d'
          cases d'
    cases b with
    | true =>
      rw [if_pos rfl]
      rw [if_pos rfl] at h4
      refine le_can c F4 H4 σ3 ρ3 _ _ _ e4 elk0 h4 fun y v F5 H5 h5 e5 s5 n5 r5 => ?_
      have kx := kk F5 H5 n5
      have sF : Same F' F5 := ((x2.ff.trans s3).trans s4).trans s5
      have d5 := kx.kp D _ d' dD
      have f5 := fD F5 H5 n5
      refine ⟨vacc, d5, by rw [r'.len]; exact szlt h5.1, F5, acc ++ [y], vacc ++ [v], ?_, ?_, s'.trans sF, ?_, f5, upd_same, (RepL.mono sF _ _ r').app (RepL.one r5), h5.2⟩
      · exact upd_lst_env (back F5 H5 σ3 ρ3 e5 s5 n5 e') d5 f5 hD0 nown
      · exact upd_lst_env (back F5 H5 σ3 ρ3 e5 s5 n5 e'') d5 f5 hD0 fun j ys hj => e1.notOwn (xs := []) hD hj
      · have kz := n'.trans kx
        refine ⟨kz.nx.trans nx_mut, fun b o hb nb => ?_, kz.new⟩
        have hbD : b ≠ D := fun z => by rw [z, hD] at hb; cases hb
        rw [upd_ne hbD]
        exact kz.kp b o hb nb
    | false =>
      rw [if_neg Bool.false_ne_true]
      rw [if_neg Bool.false_ne_true] at h4
      have kx := kk F4 H4 (Kx.refl _ _ _)
      have sF : Same F' F4 := (x2.ff.trans s3).trans s4
      exact ⟨F4, acc, vacc, back F4 H4 σ3 ρ3 e4 (Same.refl _) (Kx.refl _ _ _) e', back F4 H4 σ3 ρ3 e4 (Same.refl _) (Kx.refl _ _ _) e'', s'.trans sF, n'.trans kx, fD F4 H4 (Kx.refl _ _ _), kx.kp D _ d' dD, RepL.mono sF _ _ r', h4⟩
  · rintro H' ⟨F', acc, vacc, e', e'', s', n', f', d', r', k⟩
    rw [List.drop_length] at k
    exact q acc D vacc F' H' k e'' (s1.trans s') (n1.trans n') (n1.free hD) f' d' r'
theorem dl_comp {elt iter : Expr} {ifs : List Expr} {scope : Scope} {own : List (Str × Nat)} {wi : IW} {g : GW} {tt : TW} {w : EW} (hc : X.calm = true) (hN : X.N.Nodup) (hi : DI Z X E tg iter wi) (ok : BlkOk X.N X.env.scope scope own)
    (hg : ∀ (s : Shared) (H : Hp) (C : Addr) (cl : List (Str × Addr)) (fp : List Addr), DGW Z (X.blk s H scope (compEnvC scope cl C X.env) fp) (own.map (·.2)) tg g)
    (ht : ∀ (s : Shared) (H : Hp) (C : Addr) (cl : List (Str × Addr)) (fp : List Addr), DTs Z (X.blk s H scope (compEnvC scope cl C X.env) fp) E00 ifs tt)
    (he : ∀ (s : Shared) (H : Hp) (C : Addr) (cl : List (Str × Addr)) (fp : List Addr), DE Z (X.blk s H scope (compEnvC scope cl C X.env) fp) E00 elt w)
    (hs : ∀ x, foldedSetIterable iter X.env x = pure x := by intro _; rfl) : DLs Z X E (.ListComp elt [⟨tg, iter, ifs, 0⟩] scope pos) (lComp wi g tt w (own.map (·.2))) := by
  obtain ⟨t, p, l⟩ := hi
  exact ⟨_, pe_lc hc hN p ok (fun s H C cl fp => pgw_can (hg s H C cl fp)) (fun s H C cl fp => pts_can (ht s H C cl fp)) (fun s H C cl fp => pe_can (he s H C cl fp)) hs, ll_comp l⟩
end
end DL
set_option linter.all false
set_option autoImplicit false
set_option maxHeartbeats 2000000
/-! Calls, and what a def promises. -/
namespace DL
open PySem PySem.Spec PyProof.Rows L2

/-- behind a call -/
structure After (Z : SrcK) (src : Option (Addr × List Addr)) (fp : List Addr) (F H F' H' : Hp) : Prop where
  ff : Same F F'
  fh : Same F' H'
  new : ∀ b, F' b ≠ none → F b ≠ none ∨ H b = none
  keep : ∀ b o, H b = some o → b ∉ fp → H' b = some o
  all : ∀ b, H b ≠ none → H' b ≠ none
  src : ∀ a fp', src = some (a, fp') → Z.P a fp' H' ∧ ∀ b ∈ fp', F' b = none
def fpOf (src : Option (Addr × List Addr)) : List Addr := match src with
  | some p => p.2
  | none => []
def ArgOk2 (K : PySem.W.Frag) (src : Option (Addr × List Addr)) (F : Hp) (ss : List SV) (vs : List V) : Prop := ArgsOk K src F ss vs
/-- a promise over data as the hand layer's promise -/
def spOf (Z : SrcK) (K : PySem.W.Frag) (sp : Spec) : Sp := fun vs H Q E => ∃ (src : Option (Addr × List Addr)) (F : Hp) (ss : List SV) (Qd : RV → Prop) (Xe : Exc → Prop),
  Same F H ∧ (∀ a fp, src = some (a, fp) → Z.P a fp H ∧ ∀ b ∈ fp, F b = none) ∧ ArgsOk K src F ss vs ∧ sp ss Qd Xe ∧
  (∀ r v F' H', Qd r → After Z src (fpOf src) F H F' H' → RepR K F' H H' r v → Q v H') ∧
  (∀ ex F' H' cls dd, Xe ex → After Z src (fpOf src) F H F' H' → ExRep K F' H' ex cls dd → E cls dd H')
section
variable {Z : SrcK} {X : Cx} {E : L2.St → XK} {K : PySem.W.Frag} {a b e tg : Expr} {wa wb wc : EW} {pos : Pos} {c : Cfg} {F H F' H' : Hp} {σ : L2.St} {ρ : Env}
theorem fp_eq : fpOf c.src = c.fp := by
  unfold fpOf Cfg.fp
  cases c.src <;> rfl
theorem EnvOk.srcOk (e : EnvOk Z K c F H σ ρ) : ∀ a fp, c.src = some (a, fp) → Z.P a fp H ∧ ∀ b ∈ fp, F b = none := fun a fp h => ⟨(e.src a fp h).1, fun b hb => ((e.src a fp h).2 b hb).1⟩
theorem After.kx (x : After Z c.src c.fp F H F' H') : Kx c.fp F H F' H' := ⟨x.all, x.keep, x.new⟩
theorem EnvOk.after (e : EnvOk Z K c F H σ ρ) (x : After Z c.src c.fp F H F' H') : EnvOk Z K c F' H' σ ρ where
  len := e.len
  slot := fun i s h => by
    obtain ⟨o, h1, h2⟩ := e.slot i s h
    refine ⟨o, h1, ?_⟩
    cases s with
    | un => trivial
    | d y =>
      obtain ⟨v, r1, r2⟩ := h2
      exact ⟨v, r1, Rep.mono x.ff _ _ r2⟩
    | own ys =>
      obtain ⟨a, vs, r1, r2, r3, r4, r5⟩ := h2
      refine ⟨a, vs, r1, ?_, r3, x.keep _ _ r4 (not_fp e r3), RepL.mono x.ff _ _ r5⟩
      cases q : F' a with
      | none => rfl
      | some u =>
        rcases x.new a (by rw [q]; simp) with z | z
        · exact absurd r2 z
        · rw [r4] at z
          cases z
    | src => exact h2
  sep := e.sep
  fh := x.fh
  f0 := e.f0.trans x.ff
  new := fun b h => (x.new b h).elim (e.new b) fun n => .inr (e.h0 n)
  keep := fun b o h hb => x.keep _ _ (e.keep b o h hb) hb
  all := fun b h => x.all b (e.all b h)
  src := fun a fp h => ⟨(x.src a fp h).1, fun b hb => ⟨(x.src a fp h).2 b hb, ((e.src a fp h).2 b hb).2⟩⟩
theorem call_core {sp : Spec} {Xd : XD} {Qd : D → Prop} {Qv : VK} {F1 H1 : Hp} {ss : List SV} {vs : List V} (l : ELk Z K c F E Xd) (h1 : sp ss (fun r => Qd r.toD) (Xd ρ)) (e1 : EnvOk Z K c F1 H1 σ ρ) (s1 : Same F F1) (n1 : Kx c.fp F H F1 H1) (r1 : ArgsOk K c.src F1 ss vs)
    (q : ∀ d v F' H', Qd d → EnvOk Z K c F' H' σ ρ → Same F F' → Kx c.fp F H F' H' → Rep K F' d v → Qv v H') : spOf Z K sp vs H1 Qv (E σ) := by
  refine ⟨c.src, F1, ss, _, _, e1.fh, e1.srcOk, r1, h1, fun r v F2 H2 h2 x r2 => ?_, fun ex F2 H2 cls dd h2 x r2 => ?_⟩
  · rw [fp_eq] at x
    have e2 := e1.after x
    cases r with
    | d y => exact q y v F2 H2 h2 e2 (s1.trans x.ff) (n1.trans x.kx) r2
    | own ys =>
      obtain ⟨p, vs', rfl, f1, f2, f3, f4⟩ := r2
      have na : ∀ (i : Nat) zs, ρ[i]? = some (SV.own zs) → σ[i]? ≠ some (some (V.ref p)) := fun i zs hi => e1.notOwn (xs := vs') f2 hi
      have sF : Same F2 (upd F2 p (.lst vs')) := fun b u hb => by
        rw [upd_ne (ne_of_none hb f1)]
        exact hb
      refine q _ _ _ H2 h2 (e2.freeze f1 (e1.h0 f2) f3 na) ((s1.trans x.ff).trans sF) ?_ ⟨p, vs', rfl, SqL.of upd_same, RepL.mono sF _ _ f4⟩
      have k := n1.trans x.kx
      refine ⟨k.nx, k.kp, fun b hb => ?_⟩
      by_cases hbp : b = p
      · exact .inr (by rw [hbp]; exact n1.free f2)
      · rw [upd_ne hbp] at hb
        exact k.new b hb
  · rw [fp_eq] at x
    exact l σ ρ ex F2 H2 cls dd h2 (e1.after x) (s1.trans x.ff) r2
theorem le_call {sp : Spec} {ta : TA} {ws : AW} (ha : LA Z K E ta ws) : LE Z K E (tCallS (spOf Z K sp) E ta) (wCall sp ws) := fun c F H σ ρ Xd Qd Qv e l h q => by
  refine ha c F H σ ρ Xd _ _ e l h fun ss vs F1 H1 h1 e1 s1 n1 r1 => ?_
  exact call_core l h1 e1 s1 n1 r1 q
theorem ll_call {sp : Spec} {ta : TA} {ws : AW} (ha : LA Z K E ta ws) : LL Z K E (tCallS (spOf Z K sp) E ta) (lCall sp ws) := fun c F H σ ρ Xd Qd Qv e l h q => by
  refine ha c F H σ ρ Xd _ _ e l h fun ss vs F1 H1 h1 e1 s1 n1 r1 => ?_
  refine ⟨c.src, F1, ss, _, _, e1.fh, e1.srcOk, r1, h1, fun r v F2 H2 h2 x r2 => ?_, fun ex F2 H2 cls dd h2 x r2 => ?_⟩
  · rw [fp_eq] at x
    have e2 := e1.after x
    cases r with
    | d y => exact h2.elim
    | own ys =>
      obtain ⟨p, vs', rfl, f1, f2, f3, f4⟩ := r2
      exact q ys p vs' F2 H2 h2 e2 (s1.trans x.ff) (n1.trans x.kx) (n1.free f2) f1 f3 f4
  · rw [fp_eq] at x
    exact l σ ρ ex F2 H2 cls dd h2 (e1.after x) (s1.trans x.ff) r2
/-- how keywords alone bind -/
structure KwOk (fd : FuncData) (ps ks : List Str) (idx : List Nat) : Prop where
  to : ∀ ws : List Value, ws.length = ks.length → bindArgs fd ⟨[], ks.zip ws⟩ = pure (ps.zip (permL idx ws))
  len : ks.length = idx.length
/-- a def of the text, as its callers know it -/
structure Fd (P : Program) (w : World) (K : PySem.W.Frag) (mg : Str → Option Value) (base : Heap) (Z : SrcK) (k : Nat) (x : Str) (ps : List Str) (kws : List (List Str × List Nat)) (sp : Spec) : Prop where
  ex : ∃ (f : Addr) (fd : FuncData), FnOk P w K mg base (L2.CX P w) k f fd ps (spOf Z K sp) ∧ mg x = some (.ref f) ∧ PySem.W.keepIn K (.ref f) = true ∧ Binds K fd ps [] ∧ ∀ p ∈ kws, KwOk fd ps p.1 p.2
/-- where one stands: what calls need -/
structure At (X : Cx) (E : L2.St → XK) (k : Nat) : Prop where
  room : Room k X.A
  pass : ∀ σ, PassesAt (L2.CX X.prog X.w) X σ (E σ)
variable {es : List Expr} {ws : AW}
theorem de_call {k j : Nat} {x : Str} {p : Pos} {ps : List Str} {kws : List (List Str × List Nat)} {sp : Spec} (A : At X E k) (hk : j ≤ k) (G : Fd X.prog X.w X.K X.mg X.base Z j x ps kws sp) (ha : DA Z X E (e :: es) ws) (hg : Gl X x := by rfl) (hdb : (x == ("__debug__" : Str)) = false := by decide)
    (he : starEach (e :: es) X.env = (false, eval e X.env) :: starEach es X.env := by rfl) (hpl : (backTo pos (starEach es X.env)).any (·.1) = false := by rfl) : DE Z X E (.Call (.Name x p) (e :: es) [] pos) (wCall sp ws) := by
  obtain ⟨f, fd, F, hm, hkp, hb, _⟩ := G.ex
  obtain ⟨t, pa, la⟩ := ha
  exact ⟨_, pe_callS F (A.room.mono hk) hg hm hkp hb A.pass pa hdb he hpl, le_call la⟩
theorem dl_call {k j : Nat} {x : Str} {p : Pos} {ps : List Str} {kws : List (List Str × List Nat)} {sp : Spec} (A : At X E k) (hk : j ≤ k) (G : Fd X.prog X.w X.K X.mg X.base Z j x ps kws sp) (ha : DA Z X E (e :: es) ws) (hg : Gl X x := by rfl) (hdb : (x == ("__debug__" : Str)) = false := by decide)
    (he : starEach (e :: es) X.env = (false, eval e X.env) :: starEach es X.env := by rfl) (hpl : (backTo pos (starEach es X.env)).any (·.1) = false := by rfl) : DLs Z X E (.Call (.Name x p) (e :: es) [] pos) (lCall sp ws) := by
  obtain ⟨f, fd, F, hm, hkp, hb, _⟩ := G.ex
  obtain ⟨t, pa, la⟩ := ha
  exact ⟨_, pe_callS F (A.room.mono hk) hg hm hkp hb A.pass pa hdb he hpl, ll_call la⟩
/-- within a comprehension nothing is let out -/
theorem At.blk {k : Nat} (A : At X E k) (s : Shared) (H : Hp) (scope : Scope) (cenv : PySem.Env) (fp : List Addr) : At (X.blk s H scope cenv fp) E00 k :=
  ⟨A.room, fun σ pins H s e s' _ h => by
    obtain ⟨_, _, _, _, _, _, _, _, _, _, _, _, z⟩ := h
    exact z.elim⟩
/-! ### keywords -/
theorem ArgsOk.get {src : Option (Addr × List Addr)} {F : Hp} : ∀ {ss : List SV} {vs : List V}, ArgsOk K src F ss vs → vs.length = ss.length ∧ ∀ (i : Nat) s, ss[i]? = some s → ∃ v, vs[i]? = some v ∧ ArgOk K src F s v
  | [], vs, r => by
    have r : vs = [] := r
    subst r
    exact ⟨rfl, fun i s h => by simp at h⟩
  | s :: r, vs, h => by
    obtain ⟨v, t, rfl, h1, h2⟩ := h
    obtain ⟨i1, i2⟩ := ArgsOk.get h2
    refine ⟨by rw [List.length_cons, List.length_cons, i1], fun i u hu => ?_⟩
    cases i with
    | zero =>
      have hu : s = u := by simpa using hu
      subst hu
      exact ⟨v, rfl, h1⟩
    | succ i =>
      have hu : r[i]? = some u := by simpa using hu
      obtain ⟨v2, z1, z2⟩ := i2 i u hu
      exact ⟨v2, by simpa using z1, z2⟩
theorem ArgsOk.perm {src : Option (Addr × List Addr)} {F : Hp} {ss : List SV} {vs : List V} (h : ArgsOk K src F ss vs) : ∀ idx : List Nat, ArgsOk K src F (permL idx ss) (permL idx vs)
  | [] => rfl
  | i :: idx => by
    have ih := ArgsOk.perm h idx
    obtain ⟨l, g⟩ := h.get
    unfold permL at ih ⊢
    cases q : ss[i]? with
    | none =>
      have q2 : vs[i]? = none := List.getElem?_eq_none_iff.mpr (by rw [l]; exact List.getElem?_eq_none_iff.mp q)
      rw [List.filterMap_cons_none q, List.filterMap_cons_none q2]
      exact ih
    | some s =>
      obtain ⟨v, h1, h2⟩ := g i s q
      rw [List.filterMap_cons_some q, List.filterMap_cons_some h1]
      exact ⟨v, _, rfl, h2, ih⟩
theorem Vals.perm {vs : List V} {us : List Value} (h : Vals vs us) : ∀ idx : List Nat, Vals (permL idx vs) (permL idx us)
  | [] => .nil
  | i :: idx => by
    have ih := Vals.perm h idx
    unfold permL at ih ⊢
    cases q : vs[i]? with
    | none => rw [List.filterMap_cons_none q, List.filterMap_cons_none (h.none_of q)]; exact ih
    | some v =>
      obtain ⟨u, h1, h2⟩ := h.get q
      rw [List.filterMap_cons_some q, List.filterMap_cons_some h1]
      exact .cons h2 ih
def tCallKS (sp : Sp) (idx : List Nat) (E : L2.St → XK) (tk : TA) : TE := fun σ H Q => tk σ H fun zs H2 => zs.length = idx.length ∧ sp (permL idx zs) H2 Q (E σ)
theorem pe_callKS {CX : CXT} {k : Nat} {f : Addr} {fd : FuncData} {ps ks : List Str} {idx : List Nat} {sp : Sp} {x : Str} {p : Pos} {kws : List Keyword} {tk : TA} (F : FnOk X.prog X.w X.K X.mg X.base CX k f fd ps sp) (hr : Room k X.A) (hg : Gl X x) (hm : X.mg x = some (.ref f)) (hk : PySem.W.keepIn X.K (.ref f) = true)
    (hb : KwOk fd ps ks idx) (hx : ∀ σ, PassesAt CX X σ (E σ)) (hkw : PK X kws tk) (hall : (backToKw pos (keywordEach kws X.env)).all (·.1.isSome) = true) (hks : (backToKw pos (keywordEach kws X.env)).filterMap (·.1) = ks)
    (hdb : (x == ("__debug__" : Str)) = false) (hpl : ((backTo pos (starEach [] X.env)).any (·.1) || (backToKw pos (keywordEach kws X.env)).any (·.1.isNone)) = false) :
    PE X (.Call (.Name x p) [] kws pos) (tCallKS sp idx E tk) := by
  refine ⟨fun pins s σ H Q I h => ?_⟩
  refine wpAny_Call_Name_kw (ld_glob I hg hm ?_ hdb)
  refine PySem.W.callWith_KW0 (h₀ := X.base) I.ok.mod.kin hk hall (thn (hkw.run pos pins s σ H _ I h) fun ws s2 ⟨zs, H2, I2, rz, hl, q2⟩ => ⟨I2.kIn, ?_⟩) hpl
  rw [hks]
  have r2 := Vals.perm rz idx
  have hl2 : ws.length = ks.length := by rw [← rz.length, hl, hb.len]
  refine wpAny_call (codeAny_mono (F.run X.A X.stack s2 H2 ⟨[], ks.zip ws⟩ (permL idx ws) (permL idx zs) Q (E σ) hr I2.env0 (.of_eq (hb.to ws hl2)) r2 q2) fun r s' hq => ?_)
  cases r with
  | error e => exact hx σ pins H2 s2 e s' I2 hq
  | ok fl =>
    cases fl with
    | ret u => exact I2.after hq
    | next => exact False.elim hq
    | brk => exact False.elim hq
    | cont => exact False.elim hq
/-- the values of keywords -/
def DK (Z : SrcK) (X : Cx) (E : L2.St → XK) (kws : List Keyword) (w : AW) : Prop := ∃ t, PK X kws t ∧ LA Z X.K E t w
theorem dk_nil : DK Z X E [] wNil := ⟨_, pk_nil, fun c F H σ ρ Xd Qd Qv e _ h q => q [] [] F H h e (Same.refl _) (Kx.refl _ _ _) rfl⟩
theorem dk_cons {nm : Option Str} {kp : Pos} {kws : List Keyword} {ws : AW} (ha : DE Z X E e wa) (hr : DK Z X E kws ws) : DK Z X E (⟨nm, e, kp⟩ :: kws) (wCons wa ws) := by
  obtain ⟨t, p, l⟩ := ha
  obtain ⟨t1, p1, l1⟩ := hr
  refine ⟨_, pk_cons p p1, fun c F H σ ρ Xd Qd Qv e k h q => ?_⟩
  refine l c F H σ ρ Xd _ _ e k h fun d v F1 H1 h1 e1 s1 n1 r1 => ?_
  refine l1 c F1 H1 σ ρ Xd _ _ e1 (k.mono s1) h1 fun ss vs F2 H2 h2 e2 s2 n2 r2 => ?_
  exact q _ _ F2 H2 h2 e2 (s1.trans s2) (n1.trans n2) ⟨v, vs, rfl, Rep.mono s2 _ _ r1, r2⟩
theorem le_callK {sp : Spec} {idx : List Nat} {ta : TA} {ws : AW} (ha : LA Z K E ta ws) : LE Z K E (tCallKS (spOf Z K sp) idx E ta) (wCallK sp idx ws) := fun c F H σ ρ Xd Qd Qv e l h q => by
  refine ha c F H σ ρ Xd _ _ e l h fun ss vs F1 H1 h1 e1 s1 n1 r1 => ⟨by rw [r1.get.1]; exact h1.1, ?_⟩
  exact call_core l h1.2 e1 s1 n1 (r1.perm idx) q
theorem de_callK {k j : Nat} {x : Str} {p : Pos} {ps ks : List Str} {idx : List Nat} {kws : List (List Str × List Nat)} {sp : Spec} {kw : List Keyword} {ws : AW} (A : At X E k) (hk : j ≤ k) (G : Fd X.prog X.w X.K X.mg X.base Z j x ps kws sp) (hkw : (ks, idx) ∈ kws) (ha : DK Z X E kw ws) (hg : Gl X x := by rfl)
    (hall : (backToKw pos (keywordEach kw X.env)).all (·.1.isSome) = true := by rfl) (hks : (backToKw pos (keywordEach kw X.env)).filterMap (·.1) = ks := by rfl)
    (hdb : (x == ("__debug__" : Str)) = false := by decide) (hpl : ((backTo pos (starEach [] X.env)).any (·.1) || (backToKw pos (keywordEach kw X.env)).any (·.1.isNone)) = false := by rfl) : DE Z X E (.Call (.Name x p) [] kw pos) (wCallK sp idx ws) := by
  obtain ⟨f, fd, F, hm, hkp, hb, hkws⟩ := G.ex
  obtain ⟨t, pa, la⟩ := ha
  exact ⟨_, pe_callKS F (A.room.mono hk) hg hm hkp (hkws _ hkw) A.pass pa hall hks hdb hpl, le_callK la⟩
/-! ### name = [..] -/
variable {iter elt : Expr} {ifs : List Expr} {scope : Scope} {own : List (Str × Nat)} {wi : IW} {g : GW} {tt : TW} {w : EW}
theorem ds_setLc {y : Str} {py spos : Pos} (i : Nat) (hN : X.N.Nodup) (hi : DI Z X E tg iter wi) (ok : BlkOk X.N X.env.scope scope own)
    (hg : ∀ (s : Shared) (H : Hp) (C : Addr) (cl : List (Str × Addr)) (fp : List Addr), DGW Z (X.blk s H scope (compEnvC scope cl C X.env) fp) (own.map (·.2)) tg g)
    (ht : ∀ (s : Shared) (H : Hp) (C : Addr) (cl : List (Str × Addr)) (fp : List Addr), DTs Z (X.blk s H scope (compEnvC scope cl C X.env) fp) E00 ifs tt)
    (he : ∀ (s : Shared) (H : Hp) (C : Addr) (cl : List (Str × Addr)) (fp : List Addr), DE Z (X.blk s H scope (compEnvC scope cl C X.env) fp) E00 elt w)
    (hsw : swapsWith (.ListComp elt [⟨tg, iter, ifs, 0⟩] scope pos) (some (.Name y py)) spos.line X.env = pure true) (hc : X.calm = true := by rfl) (hy : X.N[i]? = some y := by rfl) (hyl : X.env.scope.names.lookup y = some .local := by rfl)
    (hs : ∀ x, foldedSetIterable iter X.env x = pure x := by intro _; rfl) : DS Z X E (.Assign [.Name y py] (.ListComp elt [⟨tg, iter, ifs, 0⟩] scope pos) spos) (sSetL i (lComp wi g tt w (own.map (·.2)))) := by
  obtain ⟨t, p, l⟩ := hi
  refine ⟨_, ps_setLc (g := canGW Z X.K (own.map (·.2)) g) (tt := canT Z X.K E00 tt) (te := canE Z X.K E00 w) hc hN hy hyl hsw p ok (fun s H C cl fp => pgw_can (hg s H C cl fp)) (fun s H C cl fp => pts_can (ht s H C cl fp)) (fun s H C cl fp => pe_can (he s H C cl fp)) hs, fun c F H σ ρ Xd DD D e k h q => ?_⟩
  exact ll_comp l c F H σ ρ Xd _ _ e k h fun xs a vs F1 H1 h1 e1 s1 n1 f1 f2 f3 r1 => q.nx _ _ F1 H1 h1 (e.setOwn e1 f1 f2 f3 r1) s1 n1.nx
theorem ds_setLcD {y : Str} {py spos : Pos} (i : Nat) (hN : X.N.Nodup) (hi : DI Z X E tg iter wi) (ok : BlkOk X.N X.env.scope scope own)
    (hg : ∀ (s : Shared) (H : Hp) (C : Addr) (cl : List (Str × Addr)) (fp : List Addr), DGW Z (X.blk s H scope (compEnvC scope cl C X.env) fp) (own.map (·.2)) tg g)
    (ht : ∀ (s : Shared) (H : Hp) (C : Addr) (cl : List (Str × Addr)) (fp : List Addr), DTs Z (X.blk s H scope (compEnvC scope cl C X.env) fp) E00 ifs tt)
    (he : ∀ (s : Shared) (H : Hp) (C : Addr) (cl : List (Str × Addr)) (fp : List Addr), DE Z (X.blk s H scope (compEnvC scope cl C X.env) fp) E00 elt w)
    (hsw : swapsWith (.ListComp elt [⟨tg, iter, ifs, 0⟩] scope pos) (some (.Name y py)) spos.line X.env = pure true) (hc : X.calm = true := by rfl) (hy : X.N[i]? = some y := by rfl) (hyl : X.env.scope.names.lookup y = some .local := by rfl)
    (hs : ∀ x, foldedSetIterable iter X.env x = pure x := by intro _; rfl) : DS Z X E (.Assign [.Name y py] (.ListComp elt [⟨tg, iter, ifs, 0⟩] scope pos) spos) (sAsg (wOfL (lComp wi g tt w (own.map (·.2)))) (gNm i)) := by
  obtain ⟨t, p, l⟩ := hi
  refine ⟨_, ps_setLc (g := canGW Z X.K (own.map (·.2)) g) (tt := canT Z X.K E00 tt) (te := canE Z X.K E00 w) hc hN hy hyl hsw p ok (fun s H C cl fp => pgw_can (hg s H C cl fp)) (fun s H C cl fp => pts_can (ht s H C cl fp)) (fun s H C cl fp => pe_can (he s H C cl fp)) hs, fun c F H σ ρ Xd DD D e k h q => ?_⟩
  refine ll_comp l c F H σ ρ Xd _ _ e k h fun xs a vs F1 H1 h1 e1 s1 n1 f1 f2 f3 r1 => ?_
  have sF : Same F1 (upd F1 a (.lst vs)) := fun b u hb => by
    rw [upd_ne (ne_of_none hb f2)]
    exact hb
  exact q.nx _ _ _ H1 h1 ((e1.freeze f2 (e.h0 f1) f3 fun j ys hj => e.notOwn (xs := vs) f1 hj).setD (x := .lst xs) ⟨a, vs, rfl, SqL.of upd_same, RepL.mono sF _ _ r1⟩) (s1.trans sF) n1.nx
/-! ### a, b = x, y -/
def ArgsOo (K : PySem.W.Frag) (c : Cfg) (F' H' H : Hp) : List SV → List V → Prop
  | [], vs => vs = []
  | s :: r, vs => ∃ (v : V) (t : List V), vs = v :: t ∧ SlotOk K c F' H' s (some v) ∧ (∀ xs a, s = SV.own xs → v = V.ref a → H a = none ∧ ∀ (j : Nat) ys, r[j]? = some (SV.own ys) → t[j]? ≠ some (V.ref a)) ∧ ArgsOo K c F' H' H r t
def LAo (Z : SrcK) (K : PySem.W.Frag) (E : L2.St → XK) (t : TA) (w : AW) : Prop :=
  ∀ (c : Cfg) (F H : Hp) (σ : L2.St) (ρ : Env) (Xd : XD) (Qd : List SV → Prop) (Qv : List V → Hp → Prop), EnvOk Z K c F H σ ρ → ELk Z K c F E Xd → w Xd ρ Qd →
    (∀ ss vs F' H', Qd ss → EnvOk Z K c F' H' σ ρ → Same F F' → Kx c.fp F H F' H' → ArgsOo K c F' H' H ss vs → Qv vs H') → t σ H Qv
def DAo (Z : SrcK) (X : Cx) (E : L2.St → XK) (es : List Expr) (w : AW) : Prop := ∃ t, PA X es t ∧ LAo Z X.K E t w
theorem dao_nil : DAo Z X E [] wNil := ⟨_, pa_nil, fun c F H σ ρ Xd Qd Qv e _ h q => q [] [] F H h e (Same.refl _) (Kx.refl _ _ _) rfl⟩
theorem ArgsOo.back {Ha H0 : Hp} (n : Nx Ha H0) : ∀ {ss : List SV} {vs : List V}, ArgsOo K c F H H0 ss vs → ArgsOo K c F H Ha ss vs
  | [], _, h => h
  | s :: r, vs, h => by
    obtain ⟨v, t, e1, e2, e3, e4⟩ := h
    exact ⟨v, t, e1, e2, fun xs a z1 z2 => ⟨n.free (e3 xs a z1 z2).1, (e3 xs a z1 z2).2⟩, ArgsOo.back n e4⟩
theorem ArgsOo.fresh {Ha : Hp} : ∀ {ss : List SV} {vs : List V}, ArgsOo K c F H Ha ss vs → ∀ (j : Nat) ys a, ss[j]? = some (SV.own ys) → vs[j]? = some (V.ref a) → Ha a = none
  | [], _, _, j, ys, a, h1, _ => by simp at h1
  | s :: r, vs, h, j, ys, a, h1, h2 => by
    obtain ⟨v, t, rfl, e2, e3, e4⟩ := h
    cases j with
    | zero =>
      have h1 : s = SV.own ys := by simpa using h1
      have h2 : v = V.ref a := by simpa using h2
      exact (e3 ys a h1 h2).1
    | succ j => exact ArgsOo.fresh e4 j ys a (by simpa using h1) (by simpa using h2)
theorem SlotOk.kx {s : SV} {o : Option V} {F' H' : Hp} (e : EnvOk Z K c F H σ ρ) (h : SlotOk K c F H s o) (sF : Same F F') (n : Kx c.fp F H F' H') : SlotOk K c F' H' s o := by
  cases s with
  | un => trivial
  | d y =>
    obtain ⟨v, r1, r2⟩ := h
    exact ⟨v, r1, Rep.mono sF _ _ r2⟩
  | own ys =>
    obtain ⟨a, vs, r1, r2, r3, r4, r5⟩ := h
    refine ⟨a, vs, r1, ?_, r3, n.kp _ _ r4 (not_fp e r3), RepL.mono sF _ _ r5⟩
    cases q : F' a with
    | none => rfl
    | some u =>
      rcases n.new a (by rw [q]; simp) with z | z
      · exact absurd r2 z
      · rw [r4] at z
        cases z
  | src => exact h
theorem dao_cons {ws : AW} (ha : DE Z X E e wa) (hr : DAo Z X E es ws) (hs : starEach (e :: es) X.env = (false, eval e X.env) :: starEach es X.env := by rfl) : DAo Z X E (e :: es) (wCons wa ws) := by
  obtain ⟨t, p, l⟩ := ha
  obtain ⟨t1, p1, l1⟩ := hr
  refine ⟨_, pa_cons p p1 hs, fun c F H σ ρ Xd Qd Qv e k h q => ?_⟩
  refine l c F H σ ρ Xd _ _ e k h fun d v F1 H1 h1 e1 s1 n1 r1 => ?_
  refine l1 c F1 H1 σ ρ Xd _ _ e1 (k.mono s1) h1 fun ss vs F2 H2 h2 e2 s2 n2 r2 => ?_
  exact q _ _ F2 H2 h2 e2 (s1.trans s2) (n1.trans n2) ⟨v, vs, rfl, ⟨v, rfl, Rep.mono s2 _ _ r1⟩, fun _ _ z => (nomatch z), r2.back n1.nx⟩
theorem dao_consL {ws : AW} {l : LW} (ha : DLs Z X E e l) (hr : DAo Z X E es ws) (hs : starEach (e :: es) X.env = (false, eval e X.env) :: starEach es X.env := by rfl) : DAo Z X E (e :: es) (wConsL l ws) := by
  obtain ⟨t, p, l⟩ := ha
  obtain ⟨t1, p1, l1⟩ := hr
  refine ⟨_, pa_cons p p1 hs, fun c F H σ ρ Xd Qd Qv e k h q => ?_⟩
  refine l c F H σ ρ Xd _ _ e k h fun xs a vl F1 H1 h1 e1 s1 n1 f1 f2 f3 r1 => ?_
  refine l1 c F1 H1 σ ρ Xd _ _ e1 (k.mono s1) h1 fun ss vs F2 H2 h2 e2 s2 n2 r2 => ?_
  have so : SlotOk X.K c F1 H1 (SV.own xs) (some (V.ref a)) := ⟨a, vl, rfl, f2, e.h0 f1, f3, r1⟩
  refine q _ _ F2 H2 h2 e2 (s1.trans s2) (n1.trans n2) ⟨.ref a, vs, rfl, SlotOk.kx e1 so s2 n2, fun ys b z1 z2 => ?_, r2.back n1.nx⟩
  have z2 : a = b := by simpa using z2
  subst z2
  refine ⟨f1, fun j zs hj hk => ?_⟩
  have := r2.fresh j zs a hj hk
  rw [f3] at this
  cases this
theorem setAll_env {c : Cfg} {F H Ha : Hp} : ∀ {is : List Nat} {ss : List SV} {vs : List V} {ρ ρ' : Env} {σ : L2.St}, setAll is ss ρ = some ρ' → ArgsOo K c F H Ha ss vs → EnvOk Z K c F H σ ρ →
    (∀ (j : Nat) ys b, ss[j]? = some (SV.own ys) → vs[j]? = some (V.ref b) → ∀ (i : Nat) zs, ρ[i]? = some (SV.own zs) → σ[i]? ≠ some (some (V.ref b))) → EnvOk Z K c F H ((is.zip vs).foldl (fun s p => s.set p.1 (some p.2)) σ) ρ'
  | [], [], vs, ρ, ρ', σ, h, r, e, _ => by
    cases h
    exact e
  | i :: is, s :: ss, vs, ρ, ρ', σ, h, r, e, na => by
    obtain ⟨v, t, rfl, e2, e3, e4⟩ := r
    have h : setAll is ss (ρ.set i s) = some ρ' := h
    refine setAll_env (is := is) (ss := ss) h e4 (e.setS e2 fun xs a z1 z2 j ys _ hj => na 0 xs a (by simp [z1]) (by have z2 : v = V.ref a := z2; simp [z2]) j ys hj) fun j ys b h1 h2 k zs hk hk2 => ?_
    by_cases hki : k = i
    · subst hki
      rcases Nat.lt_or_ge k ρ.length with z | z
      · rw [List.getElem?_set_self z] at hk
        have hk : s = SV.own zs := by simpa using hk
        rw [List.getElem?_set_self (by rw [e.len]; exact z)] at hk2
        have hk2 : v = V.ref b := by simpa using hk2
        exact (e3 zs b hk hk2).2 j ys h1 h2
      · rw [List.getElem?_eq_none_iff.mpr (by rw [List.length_set]; exact z)] at hk
        cases hk
    · rw [List.getElem?_set_ne (Ne.symm hki)] at hk hk2
      exact na (j + 1) ys b (by simpa using h1) (by simpa using h2) k zs hk hk2
  | [], _ :: _, _, _, _, _, h, _, _, _ => by cases h
  | _ :: _, [], _, _, _, _, h, _, _, _ => by cases h
theorem ArgsOo.len {Ha : Hp} : ∀ {ss : List SV} {vs : List V}, ArgsOo K c F H Ha ss vs → vs.length = ss.length
  | [], _, h => by
    have h : _ = [] := h
    rw [h] <;> rfl
  | s :: r, vs, h => by
    obtain ⟨v, t, rfl, _, _, e4⟩ := h
    rw [List.length_cons, List.length_cons, e4.len]
theorem setAll_len : ∀ {is : List Nat} {ss : List SV} {ρ ρ' : Env}, setAll is ss ρ = some ρ' → ss.length = is.length
  | [], [], _, _, _ => rfl
  | i :: is, s :: ss, ρ, ρ', h => by
    have h : setAll is ss (ρ.set i s) = some ρ' := h
    rw [List.length_cons, List.length_cons, setAll_len h]
  | [], _ :: _, _, _, h => by cases h
  | _ :: _, [], _, _, h => by cases h
theorem par_core {ta : TA} {ws : AW} {is : List Nat} (ha : LAo Z K E ta ws) {Xd : XD} {DD : DEnds} {D : Ends} {Qv : List V → Hp → Prop} (e : EnvOk Z K c F H σ ρ) (k : ELk Z K c F E Xd) (h : sPar is ws Xd DD ρ) (q : EndsOk Z K c F H DD D)
    (hq : ∀ vs H1, vs.length = is.length → D.nx ((is.zip vs).foldl (fun s p => s.set p.1 (some p.2)) σ) H1 → Qv vs H1) : ta σ H Qv := by
  refine ha c F H σ ρ Xd _ _ e k h fun ss vs F1 H1 h1 e1 s1 n1 r1 => ?_
  cases z : setAll is ss ρ with
  | none => rw [z] at h1; exact h1.elim
  | some ρ' =>
    rw [z] at h1
    refine hq _ _ (r1.len.trans (setAll_len z)) (q.nx _ _ F1 H1 h1 (setAll_env z r1 e1 fun j ys b hj hb i zs hi => ?_) s1 n1.nx)
    exact e.notOwn (xs := []) (r1.fresh j ys b hj hb) hi
theorem len2 {α : Type} {vs : List α} (h : vs.length = 2) : ∃ v w, vs = [v, w] := by
  match vs, h with
  | [v, w], _ => exact ⟨v, w, rfl⟩
theorem len3 {α : Type} {vs : List α} (h : vs.length = 3) : ∃ v w u, vs = [v, w, u] := by
  match vs, h with
  | [v, w, u], _ => exact ⟨v, w, u, rfl⟩
theorem ds_par2 {x y : Str} {px py pt : Pos} {kt k2 : Nat} {pt2 : Pos} {ws : AW} (i j : Nat) (hN : X.N.Nodup) (ha : DAo Z X E [a, b] ws) (hw : swappedStores [.Tuple [.Name x px, .Name y py] kt pt] (.Tuple [a, b] k2 pt2) X.env = pure (some [x, y]) := by rfl) (hij : i ≠ j := by decide) (hi : X.N[i]? = some x := by rfl) (hj : X.N[j]? = some y := by rfl)
    (hx : X.env.scope.names.lookup x = some .local := by rfl) (hy : X.env.scope.names.lookup y = some .local := by rfl) (hc : X.calm = true := by rfl)
    (hs : swapsWithSole [.Tuple [.Name x px, .Name y py] kt pt] (.Tuple [a, b] k2 pt2) pos.line X.env = pure false := by rfl) : DS Z X E (.Assign [.Tuple [.Name x px, .Name y py] kt pt] (.Tuple [a, b] k2 pt2) pos) (sPar [i, j] ws) := by
  obtain ⟨t, p, l⟩ := ha
  refine ⟨_, ps_par hc hN hi hj hij hx hy p hw hs, fun c F H σ ρ Xd DD D e k h q => par_core (is := [i, j]) l e k h q fun vs H1 hl z => ?_⟩
  obtain ⟨v, w, rfl⟩ := len2 hl
  exact ⟨v, w, rfl, z⟩
theorem ds_par3 {b' : Expr} {x y z : Str} {px py pz pt : Pos} {kt k2 : Nat} {pt2 : Pos} {ws : AW} (i j m : Nat) (hN : X.N.Nodup) (ha : DAo Z X E [a, b, b'] ws) (hw : swappedStores [.Tuple [.Name x px, .Name y py, .Name z pz] kt pt] (.Tuple [a, b, b'] k2 pt2) X.env = pure (some [x, y, z]) := by rfl)
    (hij : i ≠ j := by decide) (him : i ≠ m := by decide) (hjm : j ≠ m := by decide) (hi : X.N[i]? = some x := by rfl) (hj : X.N[j]? = some y := by rfl) (hm : X.N[m]? = some z := by rfl)
    (hx : X.env.scope.names.lookup x = some .local := by rfl) (hy : X.env.scope.names.lookup y = some .local := by rfl) (hz : X.env.scope.names.lookup z = some .local := by rfl) (hc : X.calm = true := by rfl)
    (hs : swapsWithSole [.Tuple [.Name x px, .Name y py, .Name z pz] kt pt] (.Tuple [a, b, b'] k2 pt2) pos.line X.env = pure false := by rfl) : DS Z X E (.Assign [.Tuple [.Name x px, .Name y py, .Name z pz] kt pt] (.Tuple [a, b, b'] k2 pt2) pos) (sPar [i, j, m] ws) := by
  obtain ⟨t, p, l⟩ := ha
  refine ⟨_, ps_par3 hc hN hi hj hm hij him hjm hx hy hz p hw hs, fun c F H σ ρ Xd DD D e k h q => par_core (is := [i, j, m]) l e k h q fun vs H1 hl z => ?_⟩
  obtain ⟨v, w, u, rfl⟩ := len3 hl
  exact ⟨v, w, u, rfl, z⟩
/-- the same by a tuple that is made and taken apart -/
def namesAt (X : Cx) : List Expr → List Nat → Prop
  | [], [] => True
  | .Name x _ :: r, i :: is => X.N[i]? = some x ∧ Loc X.env.scope x ∧ (X.fn x = true ∨ X.env.scope.names.lookup x = some .local) ∧ namesAt X r is
  | _, _ => False
/-! ### a def's body -/
theorem after_of {src : Option (Addr × List Addr)} (e : EnvOk Z K ⟨src, F, H⟩ F' H' σ ρ) : After Z src (fpOf src) F H F' H' := by
  have h := fp_eq (c := ⟨src, F, H⟩)
  refine ⟨e.f0, e.fh, e.new, fun b o q n => e.keep b o q ?_, e.all, fun a fp q => ⟨(e.src a fp q).1, fun b hb => ((e.src a fp q).2 b hb).1⟩⟩
  rw [← h]
  exact n
theorem env_start {src : Option (Addr × List Addr)} {ss : List SV} {vs : List V} {N : List Str} (s : Same F H) (hs : ∀ a fp, src = some (a, fp) → Z.P a fp H ∧ ∀ b ∈ fp, F b = none) (r : ArgsOk K src F ss vs) (hl : vs.length ≤ N.length) :
    EnvOk Z K ⟨src, F, H⟩ F H (L2.start N vs) (ss ++ List.replicate (N.length - ss.length) .un) := by
  have key : ∀ {ss : List SV} {vs : List V}, ArgsOk K src F ss vs → vs.length = ss.length ∧ (∀ (i : Nat) s, ss[i]? = some s → ∃ v, vs[i]? = some v ∧ ArgOk K src F s v) := fun {ss} => by
    induction ss with
    | nil =>
      intro vs r
      have r : vs = [] := r
      subst r
      exact ⟨rfl, fun i s h => by simp at h⟩
    | cons s r ih =>
      intro vs h
      obtain ⟨v, t, rfl, h1, h2⟩ := h
      obtain ⟨i1, i2⟩ := ih h2
      refine ⟨by rw [List.length_cons, List.length_cons, i1], fun i u hu => ?_⟩
      cases i with
      | zero =>
        have hu : s = u := by simpa using hu
        subst hu
        exact ⟨v, rfl, h1⟩
      | succ i =>
        have hu : r[i]? = some u := by simpa using hu
        obtain ⟨v2, z1, z2⟩ := i2 i u hu
        exact ⟨v2, by simpa using z1, z2⟩
  obtain ⟨l1, l2⟩ := key r
  refine ⟨?_, fun i u h => ?_, fun i j xs ys hij h1 h2 => ?_, s, Same.refl _, fun b h => .inl h, fun b o h _ => h, fun b h => h, fun a fp h => ⟨(hs a fp h).1, fun b hb => ⟨(hs a fp h).2 b hb, (Z.tr (hs a fp h).1).2 b hb⟩⟩⟩
  · unfold L2.start
    rw [List.length_append, List.length_append, List.length_map, List.length_replicate, List.length_replicate, l1]
  · unfold L2.start
    by_cases hi : i < ss.length
    · rw [List.getElem?_append_left hi] at h
      obtain ⟨v, z1, z2⟩ := l2 i u h
      refine ⟨some v, ?_, ?_⟩
      · rw [List.getElem?_append_left (by rw [List.length_map, l1]; exact hi), List.getElem?_map, z1]
        rfl
      · cases u with
        | un => trivial
        | d x => exact ⟨v, rfl, z2⟩
        | own _ => exact z2.elim
        | src =>
          obtain ⟨p, fp, z3, z4⟩ := z2
          exact ⟨p, fp, z3, by rw [z4]⟩
    · rw [List.getElem?_append_right (by omega), List.getElem?_replicate] at h
      split at h
      · cases h
        refine ⟨none, ?_, trivial⟩
        rw [List.getElem?_append_right (by rw [List.length_map, l1]; omega), List.getElem?_replicate, List.length_map, l1]
        rw [if_pos (by omega)]
      · cases h
  · have none_own : ∀ (i : Nat) xs, (ss ++ List.replicate (N.length - ss.length) SV.un)[i]? ≠ some (SV.own xs) := fun i xs h => by
      by_cases hi : i < ss.length
      · rw [List.getElem?_append_left hi] at h
        obtain ⟨v, z1, z2⟩ := l2 i _ h
        exact z2
      · rw [List.getElem?_append_right (by omega), List.getElem?_replicate] at h
        split at h <;> cases h
    exact absurd h1 (none_own i xs)
end
section
variable {P : Program} {w : World} {K : PySem.W.Frag} {mg : Str → Option Value} {base : Heap} {Z : SrcK}
theorem PassesOwn.cx {N : List Str} {qual : Str} {scope : Scope} {f : Addr} {cd : Value} {A : Around} {outer : List PySem.Env} {s : Shared} {H : Hp} {E : XK} :
    PassesOwn (model P w) (A.deeper (envOfC qual scope s.heap.objs.size f cd)) (envOfC qual scope s.heap.objs.size f cd) (cxOf (L2.CX P w) P w K mg base N qual scope f cd A outer s H E).xe := passes_of (E₁ := fun e' s'' => L2.CX P w outer H s E e' s'') rfl
theorem at_cx {k : Nat} {N : List Str} {qual : Str} {scope : Scope} {f : Addr} {cd : Value} {A : Around} {outer : List PySem.Env} {s : Shared} {H : Hp} {E : XK} (hr : Room k (A.deeper (envOfC qual scope s.heap.objs.size f cd))) :
    At (cxOf (L2.CX P w) P w K mg base N qual scope f cd A outer s H E) (fun _ => E) k :=
  ⟨hr, fun σ => passAt (takes_of rfl rfl rfl rfl) σ⟩
/-- THE RULE for a def: its body asks w0 of data, and its promise gives that -/
theorem fd_of {x : Str} {st : Stmt} {f : Addr} {fd : FuncData} {N ps : List Str} {k : Nat} {sp : Spec} {wb : SW} (F : Fun K x x st f fd) (S : FnScope N ps (defScope st)) (hm : mg x = some (.ref f)) (hb : Binds K fd ps []) {kws : List (List Str × List Nat)} (hkw : ∀ p ∈ kws, KwOk fd ps p.1 p.2)
    (hl : ∀ ss Q Xe, sp ss Q Xe → ss.length = ps.length)
    (hbody : ∀ (cdv : Value) (A : Around) (outer : List PySem.Env) (s : Shared) (H : Hp) (E : XK), Room k (A.deeper (envOfC x (defScope st) s.heap.objs.size f cdv)) →
      DSs Z (cxOf (L2.CX P w) P w K mg base N x (defScope st) f cdv A outer s H E) (fun _ => E) (defBody st) wb)
    (hw : ∀ ss Q Xe, sp ss Q Xe → wb (fun _ => Xe) { nx := fun _ => Q (.d .non), rt := Q } (ss ++ List.replicate (N.length - ss.length) .un)) : Fd P w K mg base Z (k + 1) x ps kws sp := by
  have len : ∀ {ss : List SV} {src : Option (Addr × List Addr)} {F0 : Hp} {vs : List V}, ArgsOk K src F0 ss vs → vs.length = ss.length := fun {ss} => by
    induction ss with
    | nil =>
      intro src F0 vs r
      have r : vs = [] := r
      rw [r]
      rfl
    | cons s r ih =>
      intro src F0 vs h
      obtain ⟨v, t, rfl, h1, h2⟩ := h
      rw [List.length_cons, List.length_cons, ih h2]
  refine ⟨f, fd, F.okX S (fun vs H Q E h => ?_) (fun cdv A outer s H vs Q E hr h => ?_), hm, F.kp, hb, hkw⟩
  · obtain ⟨src, F0, ss, Qd, Xe, _, _, r, h1, _⟩ := h
    rw [len r]
    exact hl _ _ _ h1
  · obtain ⟨src, F0, ss, Qd, Xe, s1, s2, r, h1, q1, q2⟩ := h
    obtain ⟨t, p, l⟩ := hbody cdv A outer s H E hr
    refine ⟨t, p, ?_⟩
    have hN : vs.length ≤ N.length := by
      rw [len r, hl _ _ _ h1]
      have e := congrArg List.length S.pre
      rw [List.length_take] at e
      omega
    have e0 := env_start (Z := Z) (K := K) s1 s2 r hN
    refine l ⟨src, F0, H⟩ F0 H _ _ _ _ _ e0 (fun σ ρ ex F' H' cls dd x e' s' r' => q2 ex F' H' cls dd x (after_of e') r') (hw ss Qd Xe h1) ⟨fun σ ρ F' H' x e' s' n' => ?_, fun r v σ ρ F' H' x e' s' r' => ?_, fun _ _ _ _ x => x.elim, fun _ _ _ _ x => x.elim⟩
    · exact q1 (.d .non) .non F' H' x (after_of e') rfl
    · exact q1 r v F' H' x (after_of e') r'
end
end DL
set_option linter.all false
set_option autoImplicit false
set_option maxHeartbeats 2000000
set_option maxRecDepth 100000
/-! enumerate and zip over lists and tuples in any mix. -/
namespace DL
open PySem PySem.Spec PyProof.Rows L2

/-! ### a list or a tuple -/
def IsSeq (tp : Bool) (h : Heap) (a : Addr) (items : Array Value) : Prop := match tp with
  | true => h.IsTuple a items
  | false => h.IsList a items
def IsSeqIter (tp : Bool) (h : Heap) (it a : Addr) (i : Nat) : Prop := match tp with
  | true => h.IsTupleIter it a i
  | false => h.IsListIter it a i
def seqIt (tp : Bool) (a : Addr) : Obj := match tp with
  | true => { cls := .type "tuple_iterator", data := .fields #[.ref a, .int 0 0] }
  | false => { cls := .type "list_iterator", data := .fields #[.ref a, .int 0 0] }
theorem begins_seq (tp : Bool) (a : Addr) (items : Array Value) : Begins (.ref a) (seqIt tp a) (fun h => IsSeq tp h a items) := by
  cases tp with
  | true => exact begins_tuple a items
  | false => exact begins_list a items
theorem draws_seq {P : Program} {w : World} {A : Around} (hh : A.handled = none) (tp : Bool) (it a : Addr) (hne : a ≠ it) (items : Array Value) :
    Draws P w A it [it, a] items.size (fun i v => items[i]? = some v) (fun i h => IsSeqIter tp h it a i ∧ IsSeq tp h a items) := by
  cases tp with
  | true => exact Draws.tuple hh it a hne items
  | false => exact Draws.list hh it a hne items
theorem seq_start {tp : Bool} {h : Heap} {it a : Addr} (e : h.get? it = some (seqIt tp a)) : IsSeqIter tp h it a 0 := by
  cases tp with
  | true => exact ⟨_, e, rfl, rfl⟩
  | false => exact ⟨_, e, rfl, rfl⟩
theorem seqIter_obj {tp : Bool} {h : Heap} {it a : Addr} {i : Nat} (e : IsSeqIter tp h it a i) : ∃ o, h.get? it = some o ∧ ∀ v, o.data ≠ .cell v := by
  cases tp with
  | true =>
    obtain ⟨o, e1, c, d⟩ := e
    exact ⟨o, e1, fun v z => by rw [d] at z; cases z⟩
  | false =>
    obtain ⟨o, e1, c, d⟩ := e
    exact ⟨o, e1, fun v z => by rw [d] at z; cases z⟩
theorem seqIter_at {tp : Bool} {h h' : Heap} {it a : Addr} {i : Nat} (e : IsSeqIter tp h it a i) (k : ∀ o, h.get? it = some o → h'.get? it = some o) : IsSeqIter tp h' it a i := by
  cases tp with
  | true =>
    obtain ⟨o, e1, c, d⟩ := e
    exact ⟨o, k o e1, c, d⟩
  | false =>
    obtain ⟨o, e1, c, d⟩ := e
    exact ⟨o, k o e1, c, d⟩
def SqS (K : PySem.W.Frag) (tp : Bool) (H : Hp) (a : Addr) (xs : List V) : Prop := match tp with
  | true => SqT K H a xs
  | false => SqL K H a xs
section
variable {X : Cx} {pins : List (Addr × Obj)} {σ : L2.St} {H : Hp} {s : Shared} {a : Addr} {xs ys : List V}
theorem Inv.seqS {tp : Bool} (I : Inv X pins σ H s) (h : SqS X.K tp H a xs) : ∃ its : List Value, Vals xs its ∧ IsSeq tp s.heap a its.toArray := by
  cases tp with
  | true =>
    obtain ⟨its, r, p, _⟩ := I.tuple h
    exact ⟨its, r, p⟩
  | false =>
    obtain ⟨its, r, p, _⟩ := I.list h
    exact ⟨its, r, p.isList⟩
theorem Inv.seq_inj {tp : Bool} (I : Inv X pins σ H s) (h : SqS X.K tp H a xs) (h' : SqS X.K tp H a ys) : xs = ys := by
  cases tp with
  | true => exact I.tuple_inj h h'
  | false => exact I.list_inj h h'
theorem seq_lt {tp : Bool} {h : Heap} {items : Array Value} (e : IsSeq tp h a items) : a < h.objs.size := by
  cases tp with
  | true =>
    obtain ⟨o, e1, _⟩ := e
    exact Heap.lt_size e1
  | false =>
    obtain ⟨o, e1, _⟩ := e
    exact Heap.lt_size e1
end
theorem sqs_same {K : PySem.W.Frag} {tp : Bool} {F F' : Hp} {a : Addr} {xs : List V} (e : Same F F') (h : SqS K tp F a xs) : SqS K tp F' a xs := by
  cases tp with
  | true => exact same_t e h
  | false =>
    rcases h with h | h
    · exact .inl (rd_same e h)
    · exact .inr h
/-! ### an iterator that gives new tuples, by what the library says of it -/
theorem turn_gen {P : Program} {w : World} {K : PySem.W.Frag} {elts : List Expr} {kk : Nat} {tpos : Pos} (J : It) (recs : List Addr) (I0 : Addr) (Rec : Nat → Heap → Prop) (mem : I0 ∈ recs)
    (obj : ∀ i h, Rec i h → ∀ b ∈ recs, ∃ o, h.get? b = some o ∧ ∀ v, o.data ≠ .cell v)
    (keep : ∀ i h h', Rec i h → (∀ b ∈ recs, ∀ o, h.get? b = some o → h'.get? b = some o) → Rec i h')
    (self : ∀ (A : Around) (i : Nat) (s : Shared) (Q : Value → Shared → Prop) (E : Value → Shared → Prop), Rec i s.heap → Q (.ref I0) s → wpAny (model P w) A (pyIter (.ref I0)) Q E s)
    (hgo : ∀ (X : Cx), X.prog = P → X.w = w → X.K = K → X.calm = true → ∀ (i : Nat) (pins : List (Addr × Obj)) (s : Shared) (σ : L2.St) (H : Hp), Inv X pins σ H s → Rec i s.heap → J.go i H →
      ∃ (fp wr : List Addr) (n : Nat) (Pt : Nat → Array Value → Prop) (St : Nat → Heap → Prop) (Mid : Nat → Addr → Heap → Prop), WalksT P w X.A I0 fp wr n Pt St Mid ∧ i < n ∧ St i s.heap ∧ (∀ b ∈ wr, b ∈ recs) ∧ (∀ h, St (i + 1) h → Rec (i + 1) h) ∧
        ∀ vals, Pt i vals → ∃ xs, Vals xs vals.toList ∧ xs.length ≤ sizeLine ∧ ∀ T, H T = none → J.yld i H (.ref T) (upd H T (.tup xs)))
    (hstop : ∀ (X : Cx), X.prog = P → X.w = w → X.K = K → X.calm = true → ∀ (i : Nat) (pins : List (Addr × Obj)) (s : Shared) (σ : L2.St) (H : Hp), Inv X pins σ H s → Rec i s.heap → J.stop i H →
      ∃ (fp wr : List Addr) (Pt : Nat → Array Value → Prop) (St : Nat → Heap → Prop) (Mid : Nat → Addr → Heap → Prop), WalksT P w X.A I0 fp wr i Pt St Mid ∧ St i s.heap ∧ (∀ b ∈ wr, b ∈ recs)) :
    Turn P w K (.Tuple elts kk tpos) J recs I0 Rec where
  mem := mem
  obj := obj
  keep := keep
  item := by
    intro X hP hw hK hc i pins s σ H E I hf st hg
    obtain ⟨fp, wr, n, Pt, St, Mid, W, hi, hst, hwr, hrec, hval⟩ := hgo X hP hw hK hc i pins s σ H I st hg
    subst hP hw hK
    refine W.item i s _ _ hi hst fun T vals h' tk hPt hT hTup hMid hk => ⟨_, rfl, ?_⟩
    refine W.go elts kk tpos i T { s with heap := h', toks := tk } _ _ hMid fun h'' hSt hk2 => ?_
    obtain ⟨xs, rv, hz, hy⟩ := hval vals hPt
    have hTn : H T = none := I.hok.fresh hT
    have apart : T ∉ wr := W.apart _ _ _ hMid
    have hT2 : h''.IsTuple T vals := by
      obtain ⟨o, e1, e2⟩ := hTup
      exact ⟨o, hk2 T o apart e1, e2⟩
    have new : ObjOk X.prog X.w (upd H T (.tup xs)) h'' T (.tup xs) := ⟨hz, vals.toList, rv, by
      show h''.IsTuple T vals.toList.toArray
      simpa using hT2⟩
    have I1 : Inv X pins σ (upd H T (.tup xs)) { s with heap := h'', toks := tk } :=
      I.turnedNew (ch := wr) (fun b o hb e => hk2 b o hb (hk b o hb e)) (fun b hb => hf b (hwr b hb)) hT new
    refine ⟨.ref T, _, I1, rfl, hy T hTn, hrec _ hSt, fun b hb => ?_⟩
    have hbT : b ≠ T := fun z => by
      obtain ⟨o, e, _⟩ := obj _ _ st b hb
      exact absurd (Heap.lt_size e) (by rw [z]; exact Nat.not_lt.mpr hT)
    rw [upd_ne hbT]
    exact (hf b hb).1
  done := by
    intro X hP hw hK hc i pins s σ H E I hf st hg
    obtain ⟨fp, wr, Pt, St, Mid, W, hst, hwr⟩ := hstop X hP hw hK hc i pins s σ H I st hg
    subst hP hw hK
    exact W.done s _ _ hst fun h' tk hk => ⟨rfl, I.turnedL (t' := tk) (ch := wr) (fun b o hb e => hk b o hb e) fun b hb => hf b (hwr b hb)⟩
  self := fun A i s Q E st h => self A i s Q E st h
/-! ### enumerate -/
set_option maxHeartbeats 1000000 in
theorem meets_enum1 {v : Value} {o : Obj} {H : Heap → Prop} (B : Begins v o H) :
    Meets (Builtin.«enumerate.__new__» ⟨[.type "enumerate", v], []⟩) (fun _ R s => H s.heap ∧
      R (.ok (.ret (.ref (s.heap.push o).objs.size))) { s with heap := (s.heap.push o).push { cls := .type "enumerate", data := .fields #[.none, .bool false, .ref s.heap.objs.size, rawInt 0, .none, .none] } }) :=
  .of_wp fun prog w A R s h => by
    obtain ⟨hp, g, d, tk, os⟩ := s; obtain ⟨h1, h⟩ := h
    have hsub := sub_enumerate
    have q1 : ∀ {A' : Around} {E : Value → Shared → Prop} {Q : Value → Shared → Prop}, Q (.ref hp.objs.size) ⟨hp.push o, g, d, tk, os⟩ → wpAny (model prog w) A' (pyIter v) Q E ⟨hp, g, d, tk, os⟩ :=
      fun q => B.iter prog w _ _ ⟨hp, g, d, tk, os⟩ _ h1 q
    wp_walk using q1
    refine wpAny_stack_any fun st => wpAny_pure ?_
    split
    · rename_i c _ _ _ _ _
      cases (c == Value.type "enumerate")
      · wp_walk using q1
        exact ⟨_, rfl, h⟩
      · wp_walk using q1
        exact ⟨_, rfl, h⟩
    · wp_walk using q1
      exact ⟨_, rfl, h⟩
theorem enum_begins1 {P : Program} {w : World} {A : Around} {E : Value → Shared → Prop} {s : Shared} {v : Value} {o : Obj} {H : Heap → Prop} {Q : Value → Shared → Prop} (B : Begins v o H) (h1 : H s.heap)
    (h : ∀ h', IsEnum h' (s.heap.objs.size + 1) s.heap.objs.size 0 .none → h'.get? s.heap.objs.size = some o → h'.objs.size = s.heap.objs.size + 2 →
      (∀ b o, s.heap.get? b = some o → h'.get? b = some o) → Q (.ref (s.heap.objs.size + 1)) { s with heap := h' }) :
    wpAny (model P w) A (call (.type "enumerate") [v]) Q E s := by
  refine callType_new F.called_enumerate (by decide) (F.typeCall_enumerate_1 _) (F.newCall_enumerate_1 _) (fun obj => F.args_object_init_2 obj _) F.entry_enumerate_new
    (meets_enum1 B) ⟨h1, ?_⟩
  have hz : (s.heap.push o).objs.size = s.heap.objs.size + 1 := Heap.size_push ..
  show _ ∧ _
  rw [hz]
  have he : IsEnum ((s.heap.push o).push { cls := .type "enumerate", data := .fields #[.none, .bool false, .ref s.heap.objs.size, rawInt 0, .none, .none] }) (s.heap.objs.size + 1) s.heap.objs.size 0 .none := by
    have := Heap.get?_push_size (s.heap.push o) (o := { cls := .type "enumerate", data := .fields #[.none, .bool false, .ref s.heap.objs.size, rawInt 0, .none, .none] }) rfl
    rw [hz] at this; exact this
  refine ⟨⟨_, he, rfl⟩, h _ he (Heap.get?_push_of_some _ (Heap.get?_push_size _ B.free)) (by rw [Heap.size_push, hz]) fun b o x => Heap.get?_push_of_some _ (Heap.get?_push_of_some _ x)⟩
def IteS (K : PySem.W.Frag) (tp : Bool) (a : Addr) : It :=
  ⟨fun i H => ∃ (xs : List V) (x : V), SqS K tp H a xs ∧ xs[i]? = some x, fun i H v H' => ∃ T x, v = .ref T ∧ H T = none ∧ H' = upd H T (.tup [.int (i : Nat), x]) ∧ ∀ xs, SqS K tp H a xs → xs[i]? = some x, fun i H => ∃ xs : List V, SqS K tp H a xs ∧ xs.length = i⟩
theorem turn_enumS {P : Program} {w : World} {K : PySem.W.Frag} {elts : List Expr} {kk : Nat} {tpos : Pos} (tp : Bool) (a e it : Addr) (hei : e ≠ it) (hea : e ≠ a) (hia : a ≠ it) :
    Turn P w K (.Tuple elts kk tpos) (IteS K tp a) [e, it] e (fun i h => (∃ old, IsEnum h e it (0 + (i : Int)) old) ∧ IsSeqIter tp h it a i) := by
  have hef : e ∉ [it, a] := by simp [hei, hea]
  have wtop : ∀ (X : Cx), X.A.handled = none → ∀ its : List Value, WalksT P w X.A e (e :: [it, a]) [e, it] its.toArray.size _ _ _ := fun X hh its =>
    WalksT.enumFrom 0 (draws_seq (P := P) (w := w) (A := X.A.in1) (by simpa using hh) tp it a hia its.toArray) e hei hef (by simp)
  refine turn_gen _ _ _ _ (by simp) (fun i h st b hb => ?_) (fun i h h' st k => ?_) (fun A i s Q E st h => ?_) ?_ ?_
  · obtain ⟨⟨old, he⟩, hi⟩ := st
    have e' : b = e ∨ b = it := by simpa using hb
    rcases e' with z | z
    · rw [z]; exact ⟨_, he, fun v q => nomatch q⟩
    · rw [z]; exact seqIter_obj hi
  · obtain ⟨⟨old, he⟩, hi⟩ := st
    exact ⟨⟨old, k e (by simp) _ he⟩, seqIter_at hi fun o q => k it (by simp) o q⟩
  · obtain ⟨⟨old, he⟩, _⟩ := st
    exact wpAny_pyIter_enum he h
  · intro X hP hw hK hc i pins s σ H I st hg
    obtain ⟨xs, x, hq, hx⟩ := hg
    subst hK
    obtain ⟨its, rv, p⟩ := Inv.seqS I hq
    obtain ⟨u, hu, ru⟩ := rv.get hx
    have hi : i < its.toArray.size := by
      have := (List.getElem?_eq_some_iff.mp hu).1
      simpa using this
    refine ⟨_, _, _, _, _, _, wtop X (I.ok.hd hc) its, hi, ⟨st.1, st.2, p⟩, fun b hb => hb, fun h hs => ⟨hs.1, hs.2.1⟩, fun vals hv => ?_⟩
    obtain ⟨t, y, hy, rfl⟩ := hv
    have hy : its[i]? = some y := by simpa using hy
    rw [hu] at hy
    cases hy
    refine ⟨[.int (i : Nat), x], .cons ⟨t, by rw [Int.zero_add]⟩ (.cons ru .nil), by show 2 ≤ sizeLine; decide, fun T hT => ⟨T, x, rfl, hT, rfl, fun ys hys => by rw [Inv.seq_inj I hys hq]; exact hx⟩⟩
  · intro X hP hw hK hc i pins s σ H I st hg
    obtain ⟨xs, hq, hx⟩ := hg
    subst hK
    obtain ⟨its, rv, p⟩ := Inv.seqS I hq
    have hl : i = its.toArray.size := by rw [← hx, rv.length]; simp
    refine ⟨e :: [it, a], [e, it], _, _, _, hl ▸ wtop X (I.ok.hd hc) its, ⟨st.1, st.2, p⟩, fun b hb => hb⟩
/-! ### zip -/
def It2S (K : PySem.W.Frag) (tp tq : Bool) (a b : Addr) : It :=
  ⟨fun i H => ∃ (xs ys : List V) (x y : V), SqS K tp H a xs ∧ SqS K tq H b ys ∧ xs[i]? = some x ∧ ys[i]? = some y,
    fun i H v H' => ∃ T x y, v = .ref T ∧ H T = none ∧ H' = upd H T (.tup [x, y]) ∧ (∀ xs, SqS K tp H a xs → xs[i]? = some x) ∧ ∀ ys, SqS K tq H b ys → ys[i]? = some y,
    fun i H => ∃ xs ys : List V, SqS K tp H a xs ∧ SqS K tq H b ys ∧ i = min xs.length ys.length⟩
theorem turn_zip2S {P : Program} {w : World} {K : PySem.W.Frag} {elts : List Expr} {kk : Nat} {tpos : Pos} (tp tq : Bool) (a b N : Addr) (ha : a < N) (hb : b < N) :
    Turn P w K (.Tuple elts kk tpos) (It2S K tp tq a b) [N + 4, N + 2, N + 3, N, N + 1] (N + 4) (fun i h => IsZip h (N + 4) (N + 2) (N + 3) .none ∧ IsTupOf2 h (N + 2) (.ref N) (.ref (N + 1)) ∧ (∃ a1 a2, IsTupOf2 h (N + 3) a1 a2) ∧ IsSeqIter tp h N a i ∧ IsSeqIter tq h (N + 1) b i) := by
  have S : ZipSep2 (N + 4) (N + 2) (N + 3) N (N + 1) [N, a] [N + 1, b] := zip_sep2 (N := N) (fp1 := [a]) (fp2 := [b]) (fun z hz => by simp at hz; rw [hz]; exact ha) (fun z hz => by simp at hz; rw [hz]; exact hb)
  have wtop : ∀ (X : Cx), X.A.handled = none → ∀ its its2 : List Value, WalksT P w X.A (N + 4) _ _ (min its.toArray.size its2.toArray.size) _ _ _ := fun X hh its its2 =>
    WalksT.zipD2 S (draws_seq (P := P) (w := w) (A := X.A.in1) (by simpa using hh) tp N a (Nat.ne_of_lt ha) its.toArray) (draws_seq (P := P) (w := w) (A := X.A.in1) (by simpa using hh) tq (N + 1) b (Nat.ne_of_lt (Nat.lt_succ_of_lt hb)) its2.toArray)
  refine turn_gen _ _ _ _ (by simp) (fun i h st c hc => ?_) (fun i h h' st k => ?_) (fun A i s Q E st h => ?_) ?_ ?_
  · obtain ⟨hz, hTI, ⟨x, y, hTO⟩, h1, h2⟩ := st
    have e' : c = N + 4 ∨ c = N + 2 ∨ c = N + 3 ∨ c = N ∨ c = N + 1 := by simpa using hc
    rcases e' with q | q | q | q | q
    · rw [q]; exact ⟨_, hz, fun v q => nomatch q⟩
    · rw [q]; exact ⟨_, hTI, fun v q => nomatch q⟩
    · rw [q]; exact ⟨_, hTO, fun v q => nomatch q⟩
    · rw [q]; exact seqIter_obj h1
    · rw [q]; exact seqIter_obj h2
  · obtain ⟨hz, hTI, ⟨x, y, hTO⟩, h1, h2⟩ := st
    exact ⟨k (N + 4) (by simp) _ hz, k (N + 2) (by simp) _ hTI, ⟨x, y, k (N + 3) (by simp) _ hTO⟩, seqIter_at h1 fun o q => k N (by simp) o q, seqIter_at h2 fun o q => k (N + 1) (by simp) o q⟩
  · exact wpAny_pyIter_zip st.1 h
  · intro X hP hw hK hc i pins s σ H I st hg
    obtain ⟨xs, ys, x, y, hq, hq2, hx, hy⟩ := hg
    subst hK
    obtain ⟨its, rv, p⟩ := Inv.seqS I hq
    obtain ⟨its2, rv2, p2⟩ := Inv.seqS I hq2
    obtain ⟨u, hu, ru⟩ := rv.get hx
    obtain ⟨u2, hu2, ru2⟩ := rv2.get hy
    have hi : i < min its.toArray.size its2.toArray.size := by
      have h1 := (List.getElem?_eq_some_iff.mp hu).1
      have h2 := (List.getElem?_eq_some_iff.mp hu2).1
      simp
      omega
    obtain ⟨hz, hTI, hTO, h1, h2⟩ := st
    refine ⟨_, _, _, _, _, _, wtop X (I.ok.hd hc) its its2, hi, ⟨hz, hTI, hTO, ⟨h1, p⟩, ⟨h2, p2⟩⟩, fun c hcm => ?_, fun h hs => ⟨hs.1, hs.2.1, hs.2.2.1, hs.2.2.2.1.1, hs.2.2.2.2.1⟩, fun vals hv => ?_⟩
    · have e' : c = N + 4 ∨ c = N + 3 ∨ c = N ∨ c = N + 1 := by simpa using hcm
      rcases e' with q | q | q | q <;> simp [q]
    · obtain ⟨z1, z2, y1, y2, rfl⟩ := hv
      have y1 : its[i]? = some z1 := by simpa using y1
      have y2 : its2[i]? = some z2 := by simpa using y2
      rw [hu] at y1
      rw [hu2] at y2
      cases y1
      cases y2
      exact ⟨[x, y], .cons ru (.cons ru2 .nil), by show 2 ≤ sizeLine; decide, fun T hT => ⟨T, x, y, rfl, hT, rfl, fun l hl => by rw [Inv.seq_inj I hl hq]; exact hx, fun l hl => by rw [Inv.seq_inj I hl hq2]; exact hy⟩⟩
  · intro X hP hw hK hc i pins s σ H I st hg
    obtain ⟨xs, ys, hq, hq2, hx⟩ := hg
    subst hK
    obtain ⟨its, rv, p⟩ := Inv.seqS I hq
    obtain ⟨its2, rv2, p2⟩ := Inv.seqS I hq2
    have hl : i = min its.toArray.size its2.toArray.size := by rw [hx, rv.length, rv2.length]; simp
    obtain ⟨hz, hTI, hTO, h1, h2⟩ := st
    refine ⟨_, _, _, _, _, hl ▸ wtop X (I.ok.hd hc) its its2, ⟨hz, hTI, hTO, ⟨h1, p⟩, ⟨h2, p2⟩⟩, fun c hcm => ?_⟩
    have e' : c = N + 4 ∨ c = N + 3 ∨ c = N ∨ c = N + 1 := by simpa using hcm
    rcases e' with q | q | q | q <;> simp [q]
def It3S (K : PySem.W.Frag) (tp tq tr : Bool) (a b d : Addr) : It :=
  ⟨fun i H => ∃ (xs ys zs : List V) (x y z : V), SqS K tp H a xs ∧ SqS K tq H b ys ∧ SqS K tr H d zs ∧ xs[i]? = some x ∧ ys[i]? = some y ∧ zs[i]? = some z,
    fun i H v H' => ∃ T x y z, v = .ref T ∧ H T = none ∧ H' = upd H T (.tup [x, y, z]) ∧ (∀ xs, SqS K tp H a xs → xs[i]? = some x) ∧ (∀ ys, SqS K tq H b ys → ys[i]? = some y) ∧ ∀ zs, SqS K tr H d zs → zs[i]? = some z,
    fun i H => ∃ xs ys zs : List V, SqS K tp H a xs ∧ SqS K tq H b ys ∧ SqS K tr H d zs ∧ i = min (min xs.length ys.length) zs.length⟩
theorem turn_zip3S {P : Program} {w : World} {K : PySem.W.Frag} {elts : List Expr} {kk : Nat} {tpos : Pos} (tp tq tr : Bool) (a b d N : Addr) (ha : a < N) (hb : b < N) (hd : d < N) :
    Turn P w K (.Tuple elts kk tpos) (It3S K tp tq tr a b d) [N + 5, N + 3, N + 4, N, N + 1, N + 2] (N + 5) (fun i h => IsZip h (N + 5) (N + 3) (N + 4) .none ∧ IsTupOf3 h (N + 3) (.ref N) (.ref (N + 1)) (.ref (N + 2)) ∧ (∃ a1 a2 a3, IsTupOf3 h (N + 4) a1 a2 a3) ∧ IsSeqIter tp h N a i ∧ IsSeqIter tq h (N + 1) b i ∧ IsSeqIter tr h (N + 2) d i) := by
  have S : ZipSep3 (N + 5) (N + 3) (N + 4) N (N + 1) (N + 2) [N, a] [N + 1, b] [N + 2, d] := zip_sep3 (N := N) (fp1 := [a]) (fp2 := [b]) (fp3 := [d]) (fun z hz => by simp at hz; rw [hz]; exact ha) (fun z hz => by simp at hz; rw [hz]; exact hb) (fun z hz => by simp at hz; rw [hz]; exact hd)
  have wtop : ∀ (X : Cx), X.A.handled = none → ∀ its its2 its3 : List Value, WalksT P w X.A (N + 5) _ _ (min (min its.toArray.size its2.toArray.size) its3.toArray.size) _ _ _ := fun X hh its its2 its3 =>
    WalksT.zipD3 S (draws_seq (P := P) (w := w) (A := X.A.in1) (by simpa using hh) tp N a (Nat.ne_of_lt ha) its.toArray) (draws_seq (P := P) (w := w) (A := X.A.in1) (by simpa using hh) tq (N + 1) b (Nat.ne_of_lt (Nat.lt_succ_of_lt hb)) its2.toArray)
      (draws_seq (P := P) (w := w) (A := X.A.in1) (by simpa using hh) tr (N + 2) d (Nat.ne_of_lt (Nat.lt_succ_of_lt (Nat.lt_succ_of_lt hd))) its3.toArray)
  refine turn_gen _ _ _ _ (by simp) (fun i h st c hc => ?_) (fun i h h' st k => ?_) (fun A i s Q E st h => ?_) ?_ ?_
  · obtain ⟨hz, hTI, ⟨x, y, z, hTO⟩, h1, h2, h3⟩ := st
    have e' : c = N + 5 ∨ c = N + 3 ∨ c = N + 4 ∨ c = N ∨ c = N + 1 ∨ c = N + 2 := by simpa using hc
    rcases e' with q | q | q | q | q | q
    · rw [q]; exact ⟨_, hz, fun v q => nomatch q⟩
    · rw [q]; exact ⟨_, hTI, fun v q => nomatch q⟩
    · rw [q]; exact ⟨_, hTO, fun v q => nomatch q⟩
    · rw [q]; exact seqIter_obj h1
    · rw [q]; exact seqIter_obj h2
    · rw [q]; exact seqIter_obj h3
  · obtain ⟨hz, hTI, ⟨x, y, z, hTO⟩, h1, h2, h3⟩ := st
    exact ⟨k (N + 5) (by simp) _ hz, k (N + 3) (by simp) _ hTI, ⟨x, y, z, k (N + 4) (by simp) _ hTO⟩, seqIter_at h1 fun o q => k N (by simp) o q, seqIter_at h2 fun o q => k (N + 1) (by simp) o q, seqIter_at h3 fun o q => k (N + 2) (by simp) o q⟩
  · exact wpAny_pyIter_zip st.1 h
  · intro X hP hw hK hc i pins s σ H I st hg
    obtain ⟨xs, ys, zs, x, y, z, hq, hq2, hq3, hx, hy, hzz⟩ := hg
    subst hK
    obtain ⟨its, rv, p⟩ := Inv.seqS I hq
    obtain ⟨its2, rv2, p2⟩ := Inv.seqS I hq2
    obtain ⟨its3, rv3, p3⟩ := Inv.seqS I hq3
    obtain ⟨u, hu, ru⟩ := rv.get hx
    obtain ⟨u2, hu2, ru2⟩ := rv2.get hy
    obtain ⟨u3, hu3, ru3⟩ := rv3.get hzz
    have hi : i < min (min its.toArray.size its2.toArray.size) its3.toArray.size := by
      have h1 := (List.getElem?_eq_some_iff.mp hu).1
      have h2 := (List.getElem?_eq_some_iff.mp hu2).1
      have h3 := (List.getElem?_eq_some_iff.mp hu3).1
      simp
      omega
    obtain ⟨hz, hTI, hTO, h1, h2, h3⟩ := st
    refine ⟨_, _, _, _, _, _, wtop X (I.ok.hd hc) its its2 its3, hi, ⟨hz, hTI, hTO, ⟨h1, p⟩, ⟨h2, p2⟩, ⟨h3, p3⟩⟩, fun c hcm => ?_, fun h hs => ⟨hs.1, hs.2.1, hs.2.2.1, hs.2.2.2.1.1, hs.2.2.2.2.1.1, hs.2.2.2.2.2.1⟩, fun vals hv => ?_⟩
    · have e' : c = N + 5 ∨ c = N + 4 ∨ c = N ∨ c = N + 1 ∨ c = N + 2 := by simpa using hcm
      rcases e' with q | q | q | q | q <;> simp [q]
    · obtain ⟨z1, z2, z3, y1, y2, y3, rfl⟩ := hv
      have y1 : its[i]? = some z1 := by simpa using y1
      have y2 : its2[i]? = some z2 := by simpa using y2
      have y3 : its3[i]? = some z3 := by simpa using y3
      rw [hu] at y1
      rw [hu2] at y2
      rw [hu3] at y3
      cases y1
      cases y2
      cases y3
      exact ⟨[x, y, z], .cons ru (.cons ru2 (.cons ru3 .nil)), by show 3 ≤ sizeLine; decide, fun T hT => ⟨T, x, y, z, rfl, hT, rfl, fun l hl => by rw [Inv.seq_inj I hl hq]; exact hx, fun l hl => by rw [Inv.seq_inj I hl hq2]; exact hy, fun l hl => by rw [Inv.seq_inj I hl hq3]; exact hzz⟩⟩
  · intro X hP hw hK hc i pins s σ H I st hg
    obtain ⟨xs, ys, zs, hq, hq2, hq3, hx⟩ := hg
    subst hK
    obtain ⟨its, rv, p⟩ := Inv.seqS I hq
    obtain ⟨its2, rv2, p2⟩ := Inv.seqS I hq2
    obtain ⟨its3, rv3, p3⟩ := Inv.seqS I hq3
    have hl : i = min (min its.toArray.size its2.toArray.size) its3.toArray.size := by rw [hx, rv.length, rv2.length, rv3.length]; simp
    obtain ⟨hz, hTI, hTO, h1, h2, h3⟩ := st
    refine ⟨_, _, _, _, _, hl ▸ wtop X (I.ok.hd hc) its its2 its3, ⟨hz, hTI, hTO, ⟨h1, p⟩, ⟨h2, p2⟩, ⟨h3, p3⟩⟩, fun c hcm => ?_⟩
    have e' : c = N + 5 ∨ c = N + 4 ∨ c = N ∨ c = N + 1 ∨ c = N + 2 := by simpa using hcm
    rcases e' with q | q | q | q | q <;> simp [q]
section
variable {Z : SrcK} {X : Cx} {E : L2.St → XK} {K : PySem.W.Frag} {a b d e : Expr} {wa wb wc : EW} {pos : Pos} {c : Cfg} {F H : Hp} {σ : L2.St} {ρ : Env}
def iEnumS (K : PySem.W.Frag) (ta : TA) : TI := fun σ H R => ta σ H fun vs H1 => ∃ (tp : Bool) (a : Addr) (xs : List V), vs = [.ref a] ∧ SqS K tp H1 a xs ∧ R (IteS K tp a) H1
theorem pi_enumS {ta : TA} {p tpos : Pos} {elts : List Expr} {kk : Nat} (hg : Gl X "enumerate") (hm : X.mg "enumerate" = none) (ha : PA X [e] ta) (hs : starEach [e] X.env = [(false, eval e X.env)]) :
    PI X (.Tuple elts kk tpos) (.Call (.Name "enumerate" p) [e] [] pos) (iEnumS X.K ta) := by
  refine ⟨fun pins s σ H R I h => ?_⟩
  refine Call_ (ld_blt I hg hm boot_enumerate (PyProof.Rows.callWith_type1 (thn (ha.run pos pins s σ H _ I h) fun us s1 ⟨vs, H1, I1, r1, q1⟩ => ?_) hs rfl))
  obtain ⟨tp, a, xs, rfl, hq, q⟩ := q1
  cases r1 with
  | cons r rr =>
    cases rr
    cases r
    obtain ⟨its, rv, p'⟩ := Inv.seqS I1 hq
    have hal := seq_lt p'
    refine enum_begins1 (begins_seq tp a its.toArray) p' fun h' he hit hsz hk => wpAny_pyIter_enum he ?_
    have I2 : Inv X pins σ H1 { s1 with heap := h' } := I1.kept (t' := s1.toks) hk
    refine ⟨s1.heap.objs.size + 1, [s1.heap.objs.size + 1, s1.heap.objs.size], _, _, H1, rfl, I2, turn_enumS tp a (s1.heap.objs.size + 1) s1.heap.objs.size (Nat.succ_ne_self _) (Nat.ne_of_gt (Nat.lt_succ_of_lt hal)) (Nat.ne_of_lt hal), ⟨⟨.none, he⟩, seq_start hit⟩, fun b hb => ?_, q⟩
    have e' : b = s1.heap.objs.size + 1 ∨ b = s1.heap.objs.size := by simpa using hb
    have hle : s1.heap.objs.size ≤ b := by
      rcases e' with z | z
      · rw [z]; exact Nat.le_add_right _ _
      · rw [z]; exact Nat.le_refl _
    exact I1.fpOk hle (I1.hok.fresh hle)
def iZip2S (K : PySem.W.Frag) (ta : TA) : TI := fun σ H R => ta σ H fun vs H1 => ∃ (tp tq : Bool) (a b : Addr) (xs ys : List V), vs = [.ref a, .ref b] ∧ SqS K tp H1 a xs ∧ SqS K tq H1 b ys ∧ R (It2S K tp tq a b) H1
theorem pi_zip2S {ta : TA} {p tpos : Pos} {elts : List Expr} {kk : Nat} (hg : Gl X "zip") (hm : X.mg "zip" = none) (ha : PA X [a, b] ta)
    (hs : starEach [a, b] X.env = (false, eval a X.env) :: starEach [b] X.env) (hpl : (backTo pos (starEach [b] X.env)).any (·.1) = false) :
    PI X (.Tuple elts kk tpos) (.Call (.Name "zip" p) [a, b] [] pos) (iZip2S X.K ta) := by
  refine ⟨fun pins s σ H R I h => ?_⟩
  refine Call_ (ld_blt I hg hm PyProof.Rows.boot_zip (PyProof.Rows.callWith_type1 (thn (ha.run pos pins s σ H _ I h) fun us s1 ⟨vs, H1, I1, r1, q1⟩ => ?_) hs hpl))
  obtain ⟨tp, tq, a, b, xs, ys, rfl, hq, hq2, q⟩ := q1
  cases r1 with
  | cons r rr =>
    cases rr with
    | cons r' rr =>
      cases rr
      cases r
      cases r'
      obtain ⟨its, rv, p1⟩ := Inv.seqS I1 hq
      obtain ⟨its2, rv2, p2⟩ := Inv.seqS I1 hq2
      refine zip_begins2 (begins_seq tp a its.toArray) (begins_seq tq b its2.toArray) p1 p2 fun h' hz hTI hTO h1 h2 hsz hk => wpAny_pyIter_zip hz ?_
      have I2 : Inv X pins σ H1 { s1 with heap := h' } := I1.kept (t' := s1.toks) hk
      refine ⟨s1.heap.objs.size + 4, [s1.heap.objs.size + 4, s1.heap.objs.size + 2, s1.heap.objs.size + 3, s1.heap.objs.size, s1.heap.objs.size + 1], _, _, H1, rfl, I2, turn_zip2S tp tq a b s1.heap.objs.size (seq_lt p1) (seq_lt p2), ⟨hz, hTI, ⟨_, _, hTO⟩, seq_start h1, seq_start h2⟩, fun c hcm => ?_, q⟩
      have e' : c = s1.heap.objs.size + 4 ∨ c = s1.heap.objs.size + 2 ∨ c = s1.heap.objs.size + 3 ∨ c = s1.heap.objs.size ∨ c = s1.heap.objs.size + 1 := by simpa using hcm
      have hle : s1.heap.objs.size ≤ c := by
        rcases e' with z | z | z | z | z
        · rw [z]; exact Nat.le_add_right _ _
        · rw [z]; exact Nat.le_add_right _ _
        · rw [z]; exact Nat.le_add_right _ _
        · rw [z]; exact Nat.le_refl _
        · rw [z]; exact Nat.le_add_right _ _
      exact I1.fpOk hle (I1.hok.fresh hle)
def iZip3S (K : PySem.W.Frag) (ta : TA) : TI := fun σ H R => ta σ H fun vs H1 => ∃ (tp tq tr : Bool) (a b d : Addr) (xs ys zs : List V), vs = [.ref a, .ref b, .ref d] ∧ SqS K tp H1 a xs ∧ SqS K tq H1 b ys ∧ SqS K tr H1 d zs ∧ R (It3S K tp tq tr a b d) H1
theorem pi_zip3S {ta : TA} {p tpos : Pos} {elts : List Expr} {kk : Nat} (hg : Gl X "zip") (hm : X.mg "zip" = none) (ha : PA X [a, b, d] ta)
    (hs : starEach [a, b, d] X.env = (false, eval a X.env) :: starEach [b, d] X.env) (hpl : (backTo pos (starEach [b, d] X.env)).any (·.1) = false) :
    PI X (.Tuple elts kk tpos) (.Call (.Name "zip" p) [a, b, d] [] pos) (iZip3S X.K ta) := by
  refine ⟨fun pins s σ H R I h => ?_⟩
  refine Call_ (ld_blt I hg hm PyProof.Rows.boot_zip (PyProof.Rows.callWith_type1 (thn (ha.run pos pins s σ H _ I h) fun us s1 ⟨vs, H1, I1, r1, q1⟩ => ?_) hs hpl))
  obtain ⟨tp, tq, tr, a, b, d, xs, ys, zs, rfl, hq, hq2, hq3, q⟩ := q1
  cases r1 with
  | cons r rr =>
    cases rr with
    | cons r' rr =>
      cases rr with
      | cons r'' rr =>
        cases rr
        cases r
        cases r'
        cases r''
        obtain ⟨its, rv, p1⟩ := Inv.seqS I1 hq
        obtain ⟨its2, rv2, p2⟩ := Inv.seqS I1 hq2
        obtain ⟨its3, rv3, p3⟩ := Inv.seqS I1 hq3
        refine zip_begins3 (begins_seq tp a its.toArray) (begins_seq tq b its2.toArray) (begins_seq tr d its3.toArray) p1 p2 p3 fun h' hz hTI hTO h1 h2 h3 hsz hk => wpAny_pyIter_zip hz ?_
        have I2 : Inv X pins σ H1 { s1 with heap := h' } := I1.kept (t' := s1.toks) hk
        refine ⟨s1.heap.objs.size + 5, [s1.heap.objs.size + 5, s1.heap.objs.size + 3, s1.heap.objs.size + 4, s1.heap.objs.size, s1.heap.objs.size + 1, s1.heap.objs.size + 2], _, _, H1, rfl, I2, turn_zip3S tp tq tr a b d s1.heap.objs.size (seq_lt p1) (seq_lt p2) (seq_lt p3), ⟨hz, hTI, ⟨_, _, _, hTO⟩, seq_start h1, seq_start h2, seq_start h3⟩, fun c hcm => ?_, q⟩
        have e' : c = s1.heap.objs.size + 5 ∨ c = s1.heap.objs.size + 3 ∨ c = s1.heap.objs.size + 4 ∨ c = s1.heap.objs.size ∨ c = s1.heap.objs.size + 1 ∨ c = s1.heap.objs.size + 2 := by simpa using hcm
        have hle : s1.heap.objs.size ≤ c := by
          rcases e' with z | z | z | z | z | z
          · rw [z]; exact Nat.le_add_right _ _
          · rw [z]; exact Nat.le_add_right _ _
          · rw [z]; exact Nat.le_add_right _ _
          · rw [z]; exact Nat.le_refl _
          · rw [z]; exact Nat.le_add_right _ _
          · rw [z]; exact Nat.le_add_right _ _
        exact I1.fpOk hle (I1.hok.fresh hle)
end
end DL
set_option linter.all false
set_option autoImplicit false
set_option maxHeartbeats 2000000
set_option maxRecDepth 100000
/-! Constants, + of lists, sorted, enumerate, zip. -/
namespace DL
open PySem PySem.Spec PyProof.Rows L2

/-- a constant of the module -/
structure Gc (K : PySem.W.Frag) (mg : Str → Option Value) (x : Str) (d : D) : Prop where
  ex : ∃ (v : V) (u : Value), (∀ F, Rep K F d v) ∧ mg x = some u ∧ RelV v u
theorem Gc.int {K : PySem.W.Frag} {mg : Str → Option Value} {x : Str} {i : Int} {t : Tok} (h : mg x = some (.int i t)) : Gc K mg x (.int i) := ⟨.int i, _, fun _ => rfl, h, t, rfl⟩
theorem Gc.str {K : PySem.W.Frag} {mg : Str → Option Value} {x : Str} {i : Str} {t : Tok} (h : mg x = some (.str i t)) : Gc K mg x (.str i) := ⟨.str i, _, fun _ => rfl, h, t, rfl⟩
/-- values in the kit's fixed part of the heap -/
theorem Gc.tup {K : PySem.W.Frag} {mg : Str → Option Value} {x : Str} {a : Addr} {ds : List D} {vs : List V} {o : Obj} {its : Array Value} {n : Nat} (h : mg x = some (.ref a)) (hl : K.lookup a = some o) (hc : o.cls = .type "tuple") (hd : o.data = .seq its n) (hz : its.size ≤ sizeLine)
    (hr : ∀ F, RepL K F ds vs) (hv : Vals vs its.toList) : Gc K mg x (.tup ds) := ⟨.ref a, _, fun F => ⟨a, vs, rfl, .inr ⟨o, its, n, hl, hc, hd, hz, hv⟩, hr F⟩, h, rfl⟩

def lCat (a b : EW) : LW := fun X ρ Q => a X ρ fun x => b X ρ fun y => match x, y with
  | .lst xs, .lst ys => xs.length + ys.length ≤ 100000 ∧ Q (xs ++ ys)
  | _, _ => False
def bSorted : List D → (List D → Prop) → Prop
  | [.lst xs], Q => (∀ x ∈ xs, ∃ i j, x = .tup [.int i, .int j]) ∧ ∀ ys, ys.Perm xs → Q ys
  | _, _ => False
def iZip3W (a b d : EW) : IW := fun X ρ Q => a X ρ fun x => b X ρ fun y => d X ρ fun z => match seqD x, seqD y, seqD z with
  | some xs, some ys, some zs => Q (List.zipWith (fun x p => match p with
    | (y, z) => .tup [x, y, z]) xs (ys.zip zs))
  | _, _, _ => False
def iZip2W (a b : EW) : IW := fun X ρ Q => a X ρ fun x => b X ρ fun y => match seqD x, seqD y with
  | some xs, some ys => Q (pairD xs ys)
  | _, _ => False
def iEnum2W (a : EW) : IW := fun X ρ Q => a X ρ fun x => match seqD x with
  | some xs => Q (enumD xs)
  | _ => False

section
variable {Z : SrcK} {X : Cx} {E : L2.St → XK} {K : PySem.W.Frag} {a b e tg : Expr} {wa wb wc : EW} {pos : Pos} {c : Cfg} {F H : Hp} {σ : L2.St} {ρ : Env}
theorem de_gc {x : Str} {d : D} (g : Gc X.K X.mg x d) (hg : Gl X x := by rfl) (hd : (x == ("__debug__" : Str)) = false := by decide) : DE Z X E (.Name x pos) (wC d) := by
  obtain ⟨v, u, r0, hm, r⟩ := g.ex
  exact de_glob r0 hm r hg hd
theorem dl_cat (ha : DE Z X E a wa) (hb : DE Z X E b wb) : DLs Z X E (.BinOp a .Add b pos) (lCat wa wb) := by
  obtain ⟨ta, pa, la⟩ := ha
  obtain ⟨tb, pb, lb⟩ := hb
  refine ⟨_, pe_op op_catR pa pb, fun c F H σ ρ Xd Qd Qv e k h q => ?_⟩
  refine la c F H σ ρ Xd _ _ e k h fun dx vx F1 H1 h1 e1 s1 n1 r1 => ?_
  refine lb c F1 H1 σ ρ Xd _ _ e1 (k.mono s1) h1 fun dy vy F2 H2 h2 e2 s2 n2 r2 => ?_
  cases dx with
  | lst xs =>
    cases dy with
    | lst ys =>
      obtain ⟨p, vs, rfl, z1, z2⟩ := Rep.mono s2 _ _ r1
      obtain ⟨p', ws, rfl, y1, y2⟩ := r2
      refine ⟨p, p', vs, ws, rfl, rfl, same_l e2.fh z1, same_l e2.fh y1, by rw [z2.len, y2.len]; exact sz h2.1, fun m hm => ?_⟩
      exact q _ m _ F2 _ h2.2 (e2.lay hm) (s1.trans s2) ((n1.trans n2).trans (Kx.lay hm)) ((n1.trans n2).free hm) (e2.fh.free hm) upd_same (z2.app y2)
    | non => exact h2.elim
    | bl _ => exact h2.elim
    | int _ => exact h2.elim
    | str _ => exact h2.elim
    | tup _ => exact h2.elim
    | ins _ _ _ => exact h2.elim
  | non => exact h2.elim
  | bl _ => exact h2.elim
  | int _ => exact h2.elim
  | str _ => exact h2.elim
  | tup _ => exact h2.elim
  | ins _ _ _ => exact h2.elim
/-! ### sorted -/
theorem RepL.perm {F : Hp} : ∀ {vs ws : List V}, ws.Perm vs → ∀ {xs : List D}, RepL K F xs vs → ∃ ys, ys.Perm xs ∧ RepL K F ys ws := fun {vs ws} p => by
  induction p with
  | nil =>
    intro xs h
    exact ⟨xs, .refl _, h⟩
  | cons x _ ih =>
    intro xs h
    cases xs with
    | nil => cases (h : _ = [])
    | cons d ds =>
      obtain ⟨v, t, e, r1, r2⟩ := h
      cases e
      obtain ⟨ys, p1, p2⟩ := ih r2
      exact ⟨d :: ys, p1.cons d, _, _, rfl, r1, p2⟩
  | swap x y l =>
    intro xs h
    cases xs with
    | nil => cases (h : _ = [])
    | cons d ds =>
      obtain ⟨v, t, e, r1, r2⟩ := h
      cases e
      cases ds with
      | nil => cases (r2 : _ = [])
      | cons d2 ds =>
        obtain ⟨v2, t2, e, r3, r4⟩ := r2
        cases e
        exact ⟨d2 :: d :: ds, .swap _ _ _, _, _, rfl, r3, _, _, rfl, r1, r4⟩
  | trans _ _ ih1 ih2 =>
    intro xs h
    obtain ⟨ys, p1, p2⟩ := ih2 h
    obtain ⟨zs, p3, p4⟩ := ih1 p2
    exact ⟨zs, p3.trans p1, p4⟩
def rSortD (K : PySem.W.Frag) : List V → Hp → VK → Prop := fun vs H Q => ∃ a xs, vs = [V.ref a] ∧ SqL K H a xs ∧ (∀ x ∈ xs, ∃ t i j, x = V.ref t ∧ SqT K H t [.int i, .int j]) ∧
  ∀ ys p, ys.Perm xs → H p = none → Q (.ref p) (upd H p (.lst ys))
theorem cr_sortD : CallR X (.builtin "sorted") (rSortD X.K) := by
  intro pins s σ H vs us Q I r h
  obtain ⟨a, xs, rfl, hs, hx, q⟩ := h
  obtain ⟨its, rv, hl, hz⟩ := I.list hs
  obtain ⟨u, rfl, ru⟩ := vals1 r
  obtain rfl : u = Value.ref a := ru
  obtain ⟨e1, e2⟩ := refs_back rv fun x m => by
    obtain ⟨t, _, _, e, _⟩ := hx x m
    exact ⟨t, e⟩
  refine Srt.sorted_pairs hl.isList (by rw [← rv.length]; exact hz) (fun v hv => ?_) fun h' d out hp k hd hn => ?_
  · obtain ⟨t, rfl⟩ := e2 v hv
    have hm : V.ref t ∈ xs := by rw [e1]; exact List.mem_map.mpr ⟨_, hv, rfl⟩
    obtain ⟨t', i, j, e, ht⟩ := hx _ hm
    cases e
    obtain ⟨its2, r2, ⟨o, ho, hc, n, hd⟩, _⟩ := I.tuple ht
    obtain ⟨u1, u2, rfl, ri, rj⟩ := vals2 r2
    obtain ⟨t1, rfl⟩ := ri
    obtain ⟨t2, rfl⟩ := rj
    exact ⟨i, j, t, o, t1, t2, n, rfl, ho, hc, hd⟩
  · have h3 : ∀ u ∈ out, ∃ a, u = Value.ref a := fun u hu => e2 u (hp.mem_iff.mp hu)
    obtain ⟨n, hn⟩ := hn
    refine ⟨.ref d, upd H d (.lst (out.map backV)), I.laid (t' := s.toks) k hd ⟨?_, out, n, vals_back h3, hn⟩, rfl, q _ d ?_ (I.hok.fresh hd)⟩
    · rw [List.length_map, hp.length_eq, ← rv.length]; exact hz
    · rw [e1]; exact hp.map backV
theorem RepL.mem {F : Hp} : ∀ {xs : List D} {vs : List V} {v : V}, RepL K F xs vs → v ∈ vs → ∃ d ∈ xs, Rep K F d v
  | [], vs, v, h, m => by
    have h : vs = [] := h
    rw [h] at m
    cases m
  | x :: xs, vs, v, h, m => by
    obtain ⟨u, r, rfl, h1, h2⟩ := h
    rcases List.mem_cons.mp m with z | z
    · subst z
      exact ⟨x, List.mem_cons_self, h1⟩
    · obtain ⟨d, m1, m2⟩ := RepL.mem h2 z
      exact ⟨d, List.mem_cons_of_mem _ m1, m2⟩
theorem lcl_sorted : LCL K (rSortD K) bSorted := fun F H ds vs Qd Qv s r z q => by
  unfold bSorted at z
  split at z
  · rename_i xs
    obtain ⟨v, rfl, a, ws, rfl, h2, h3⟩ := repL_1 r
    refine ⟨a, ws, rfl, same_l s h2, fun x hx => ?_, fun ys p hp hn => ?_⟩
    · obtain ⟨d, m1, m2⟩ := h3.mem hx
      obtain ⟨i, j, rfl⟩ := z.1 d m1
      obtain ⟨t, vs, e1, e2, e3⟩ := m2
      obtain ⟨v1, v2, rfl, r1, r2⟩ := repL_2 e3
      have r1 : v1 = .int i := r1
      have r2 : v2 = .int j := r2
      subst r1 r2
      exact ⟨t, i, j, e1, same_t s e2⟩
    · obtain ⟨zs, p1, p2⟩ := h3.perm hp
      exact q zs p ys (z.2 zs p1) hn p2
  · exact z.elim
variable {es : List Expr} {ws : AW}
theorem dl_cb {id : String} {x : Str} {p : Pos} {r : List V → Hp → VK → Prop} {o : List D → (List D → Prop) → Prop} (hc : CallR X (.builtin id) r) (ho : LCL X.K r o) (hm : X.mg x = none) (hv : bootBuiltins x = some (.builtin id)) (ha : DA Z X E (e :: es) ws) (hg : Gl X x := by rfl)
    (hn : x ≠ "__name__" := by decide) (hdb : (x == ("__debug__" : Str)) = false := by decide)
    (he : starEach (e :: es) X.env = (false, eval e X.env) :: starEach es X.env := by rfl) (hpl : (backTo pos (starEach es X.env)).any (·.1) = false := by rfl) : DLs Z X E (.Call (.Name x p) (e :: es) [] pos) (lCB o ws) := by
  obtain ⟨t, pa, la⟩ := ha
  exact ⟨_, pe_callB hc hg hm hv pa hn hdb he hpl, ll_cb ho la⟩
/-! ### enumerate, zip -/
theorem seq_rep {d : D} {xs : List D} {v : V} (h : seqD d = some xs) (r : Rep K F d v) : ∃ tp a vs, v = .ref a ∧ SqS K tp F a vs ∧ RepL K F xs vs := by
  cases d with
  | tup ys =>
    cases h
    obtain ⟨a, vs, e, h1, h2⟩ := r
    exact ⟨true, a, vs, e, h1, h2⟩
  | lst ys =>
    cases h
    obtain ⟨a, vs, e, h1, h2⟩ := r
    exact ⟨false, a, vs, e, h1, h2⟩
  | non => cases h
  | bl _ => cases h
  | int _ => cases h
  | str _ => cases h
  | ins _ _ _ => cases h
theorem sqs_inj {tp : Bool} {a : Addr} {xs ys : List V} (e : Same F H) (h : SqS K tp F a xs) : ∀ zs, (∀ ys, SqS K tp H a ys → zs = ys) → zs = xs := fun zs q => q xs (sqs_same e h)
theorem pairD_get {xs ys : List D} {i : Nat} {d : D} (h : (pairD xs ys)[i]? = some d) : ∃ x y, d = .tup [x, y] ∧ xs[i]? = some x ∧ ys[i]? = some y := by
  unfold pairD at h
  rw [List.getElem?_zipWith] at h
  cases q1 : xs[i]? with
  | none => rw [q1] at h; cases h
  | some x =>
    cases q2 : ys[i]? with
    | none => rw [q1, q2] at h; cases h
    | some y =>
      rw [q1, q2] at h
      cases h
      exact ⟨x, y, rfl, rfl, rfl⟩
theorem items_pair {J : It} {xs ys : List D} {G : Hp → Prop} {f g : Nat → Option V} (w : Walk J (pairD xs ys).length G (YPair f g)) (hG : ∀ H, Same F H → G H)
    (hf : ∀ i x v, xs[i]? = some x → f i = some v → ∀ F1, Same F F1 → Rep K F1 x v) (hg : ∀ i y v, ys[i]? = some y → g i = some v → ∀ F1, Same F F1 → Rep K F1 y v) : ItemsOk K F J (pairD xs ys) := by
  refine ⟨G, _, w, hG, fun i d H1 v H2 F1 hd y s1 s2 => ?_⟩
  obtain ⟨T, x1, x2, rfl, hT, rfl, h1, h2⟩ := y
  obtain ⟨x, y, rfl, g1, g2⟩ := pairD_get hd
  obtain ⟨k, r⟩ := lay_tup (K := K) s2 (xs := [x, y]) (vs := [x1, x2]) ⟨x1, [x2], rfl, hf i x x1 g1 h1 F1 s1, x2, [], rfl, hg i y x2 g2 h2 F1 s1, rfl⟩ hT
  exact ⟨_, k, r⟩
theorem pairD_len {xs ys : List D} : (pairD xs ys).length = min xs.length ys.length := by simp [pairD]
theorem walk_enumS {tp : Bool} {a : Addr} {xs : List V} : Walk (IteS K tp a) xs.length (fun H => SqS K tp H a xs) (YPair (fun i => some (.int (i : Nat))) (fun i => xs[i]?)) := by
  refine ⟨fun i _ hi q => ⟨xs, xs[i], q, by simp [hi]⟩, fun _ q => ⟨xs, q, rfl⟩, fun i H v H' _ q y => ?_⟩
  obtain ⟨T, x, h1, h2, h3, h4⟩ := y
  exact ⟨T, .int (i : Nat), x, h1, h2, h3, rfl, h4 xs q⟩
theorem walk_zip2S {tp tq : Bool} {a b : Addr} {xs ys : List V} {n : Nat} (hn : n = min xs.length ys.length) : Walk (It2S K tp tq a b) n (fun H => SqS K tp H a xs ∧ SqS K tq H b ys) (YPair (fun i => xs[i]?) (fun i => ys[i]?)) := by
  subst hn
  refine ⟨fun i _ hi q => ?_, fun _ q => ⟨xs, ys, q.1, q.2, rfl⟩, fun i H v H' _ q y => ?_⟩
  · have h1 : i < xs.length := by omega
    have h2 : i < ys.length := by omega
    exact ⟨xs, ys, xs[i], ys[i], q.1, q.2, by simp [h1], by simp [h2]⟩
  · obtain ⟨T, x, z, h1, h2, h3, h4, h5⟩ := y
    exact ⟨T, x, z, h1, h2, h3, h4 xs q.1, h5 ys q.2⟩
theorem rep_at {xs : List D} {vs : List V} {i : Nat} {x : D} {v : V} (r : RepL K F xs vs) (h : xs[i]? = some x) (k : vs[i]? = some v) {F1 : Hp} (s : Same F F1) : Rep K F1 x v := by
  obtain ⟨u, h1, h2⟩ := r.get h
  rw [h1] at k
  cases k
  exact Rep.mono s _ _ h2
theorem di_enum {p tpos : Pos} {elts : List Expr} {kk : Nat} (hm : X.mg "enumerate" = none) (ha : DE Z X E e wa) (hg : Gl X "enumerate" := by rfl) (hs : starEach [e] X.env = [(false, eval e X.env)] := by rfl) :
    DI Z X E (.Tuple elts kk tpos) (.Call (.Name "enumerate" p) [e] [] pos) (iEnum2W wa) := by
  obtain ⟨t, pa, l⟩ := ha
  refine ⟨_, pi_enumS hg hm (pa_cons pa pa_nil hs) hs, fun c F H σ ρ Xd Qd R e k h q => ?_⟩
  refine l c F H σ ρ Xd _ _ e k h fun d v F1 H1 h1 e1 s1 n1 r1 => ?_
  cases z : seqD d with
  | none => rw [z] at h1; exact h1.elim
  | some xs =>
    rw [z] at h1
    obtain ⟨tp, a, vs, rfl, g1, g2⟩ := seq_rep z r1
    refine ⟨tp, a, vs, rfl, sqs_same e1.fh g1, q _ _ F1 H1 h1 e1 s1 n1 ?_⟩
    refine items_pair (G := fun H => SqS X.K tp H a vs) (f := fun i => some (.int (i : Nat))) (g := fun i => vs[i]?) ?_ (fun H s => sqs_same s g1) (fun i x v hx hv F1 s => ?_) (fun i y v hy hv F1 s => rep_at g2 hy hv s)
    · have el : (pairD (rangeD 0 xs.length) xs).length = vs.length := by rw [pairD_len, rangeD_len, g2.len]; omega
      rw [el]
      exact walk_enumS
    · cases hv
      rw [(rangeD_get hx).1]
      show V.int _ = V.int _
      rw [Int.zero_add]
theorem di_zip {p tpos : Pos} {elts : List Expr} {kk : Nat} (hm : X.mg "zip" = none) (ha : DE Z X E a wa) (hb : DE Z X E b wb) (hg : Gl X "zip" := by rfl) (hs : starEach [a, b] X.env = (false, eval a X.env) :: starEach [b] X.env := by rfl) (hs2 : starEach [b] X.env = (false, eval b X.env) :: starEach [] X.env := by rfl) (hpl : (backTo pos (starEach [b] X.env)).any (·.1) = false := by rfl) :
    DI Z X E (.Tuple elts kk tpos) (.Call (.Name "zip" p) [a, b] [] pos) (iZip2W wa wb) := by
  obtain ⟨t, pa, l⟩ := ha
  obtain ⟨t2, pb, l2⟩ := hb
  refine ⟨_, pi_zip2S hg hm (pa_cons pa (pa_cons pb pa_nil hs2) hs) hs hpl, fun c F H σ ρ Xd Qd R e k h q => ?_⟩
  refine l c F H σ ρ Xd _ _ e k h fun d v F1 H1 h1 e1 s1 n1 r1 => ?_
  refine l2 c F1 H1 σ ρ Xd _ _ e1 (k.mono s1) h1 fun d2 v2 F2 H2 h2 e2 s2 n2 r2 => ?_
  cases z : seqD d with
  | none => rw [z] at h2; exact h2.elim
  | some xs =>
    cases z2 : seqD d2 with
    | none => rw [z, z2] at h2; exact h2.elim
    | some ys =>
      rw [z, z2] at h2
      obtain ⟨tp, a, vs, rfl, g1, g2⟩ := seq_rep z (Rep.mono s2 _ _ r1)
      obtain ⟨tq, b, us, rfl, g3, g4⟩ := seq_rep z2 r2
      refine ⟨tp, tq, a, b, vs, us, rfl, sqs_same e2.fh g1, sqs_same e2.fh g3, q _ _ F2 H2 h2 e2 (s1.trans s2) (n1.trans n2) ?_⟩
      exact items_pair (walk_zip2S (by rw [pairD_len, g2.len, g4.len])) (fun H s => ⟨sqs_same s g1, sqs_same s g3⟩) (fun i x v hx hv F1 s => rep_at g2 hx hv s) (fun i y v hy hv F1 s => rep_at g4 hy hv s)
theorem walk_zip3S {tp tq tr : Bool} {a b d : Addr} {xs ys zs : List V} {n : Nat} (hn : n = min (min xs.length ys.length) zs.length) : Walk (It3S K tp tq tr a b d) n (fun H => SqS K tp H a xs ∧ SqS K tq H b ys ∧ SqS K tr H d zs)
    (fun i H v H' => ∃ T x y z, v = .ref T ∧ H T = none ∧ H' = upd H T (.tup [x, y, z]) ∧ xs[i]? = some x ∧ ys[i]? = some y ∧ zs[i]? = some z) := by
  subst hn
  refine ⟨fun i _ hi q => ?_, fun _ q => ⟨xs, ys, zs, q.1, q.2.1, q.2.2, rfl⟩, fun i H v H' _ q y => ?_⟩
  · have h1 : i < xs.length := by omega
    have h2 : i < ys.length := by omega
    have h3 : i < zs.length := by omega
    exact ⟨xs, ys, zs, xs[i], ys[i], zs[i], q.1, q.2.1, q.2.2, by simp [h1], by simp [h2], by simp [h3]⟩
  · obtain ⟨T, x, z, u, h1, h2, h3, h4, h5, h6⟩ := y
    exact ⟨T, x, z, u, h1, h2, h3, h4 xs q.1, h5 ys q.2.1, h6 zs q.2.2⟩
theorem di_zip3 {d : Expr} {wd : EW} {p tpos : Pos} {elts : List Expr} {kk : Nat} (hm : X.mg "zip" = none) (ha : DE Z X E a wa) (hb : DE Z X E b wb) (hd : DE Z X E d wd) (hg : Gl X "zip" := by rfl) (hs : starEach [a, b, d] X.env = (false, eval a X.env) :: starEach [b, d] X.env := by rfl) (hs2 : starEach [b, d] X.env = (false, eval b X.env) :: starEach [d] X.env := by rfl) (hs3 : starEach [d] X.env = (false, eval d X.env) :: starEach [] X.env := by rfl) (hpl : (backTo pos (starEach [b, d] X.env)).any (·.1) = false := by rfl) :
    DI Z X E (.Tuple elts kk tpos) (.Call (.Name "zip" p) [a, b, d] [] pos) (iZip3W wa wb wd) := by
  obtain ⟨t, pa, l⟩ := ha
  obtain ⟨t2, pb, l2⟩ := hb
  obtain ⟨t3, pd, l3⟩ := hd
  refine ⟨_, pi_zip3S hg hm (pa_cons pa (pa_cons pb (pa_cons pd pa_nil hs3) hs2) hs) hs hpl, fun c F H σ ρ Xd Qd R e k h q => ?_⟩
  refine l c F H σ ρ Xd _ _ e k h fun d v F1 H1 h1 e1 s1 n1 r1 => ?_
  refine l2 c F1 H1 σ ρ Xd _ _ e1 (k.mono s1) h1 fun d2 v2 F2 H2 h2 e2 s2 n2 r2 => ?_
  refine l3 c F2 H2 σ ρ Xd _ _ e2 (k.mono (s1.trans s2)) h2 fun d3 v3 F3 H3 h3 e3 s3 n3 r3 => ?_
  cases z : seqD d with
  | none => rw [z] at h3; exact h3.elim
  | some xs =>
    cases z2 : seqD d2 with
    | none => rw [z, z2] at h3; exact h3.elim
    | some ys =>
      cases z3 : seqD d3 with
      | none => rw [z, z2, z3] at h3; exact h3.elim
      | some zs =>
        rw [z, z2, z3] at h3
        obtain ⟨tp, a, vs, rfl, g1, g2⟩ := seq_rep z (Rep.mono (s2.trans s3) _ _ r1)
        obtain ⟨tq, b, us, rfl, g3, g4⟩ := seq_rep z2 (Rep.mono s3 _ _ r2)
        obtain ⟨tr, b3, us3, rfl, g5, g6⟩ := seq_rep z3 r3
        refine ⟨tp, tq, tr, a, b, b3, vs, us, us3, rfl, sqs_same e3.fh g1, sqs_same e3.fh g3, sqs_same e3.fh g5, q _ _ F3 H3 h3 e3 ((s1.trans s2).trans s3) ((n1.trans n2).trans n3) ?_⟩
        refine ⟨_, _, walk_zip3S (xs := vs) (ys := us) (zs := us3) ?_, fun H s => ⟨sqs_same s g1, sqs_same s g3, sqs_same s g5⟩, fun i dd H1 v H2 F1 hd y s1 s2 => ?_⟩
        · simp only [List.length_zipWith, List.length_zip, g2.len, g4.len, g6.len]
          omega
        · obtain ⟨T, x1, x2, x3, rfl, hT, rfl, h1, h2, h3⟩ := y
          have key : ∀ x y u, xs[i]? = some x → ys[i]? = some y → zs[i]? = some u → D.tup [x, y, u] = dd := fun x y u q1 q2 q3 => by
            have qz : (ys.zip zs)[i]? = some (y, u) := List.getElem?_zip_eq_some.mpr ⟨q2, q3⟩
            rw [List.getElem?_zipWith, q1, qz] at hd
            exact Option.some.inj hd
          have hlen : i < xs.length ∧ i < ys.length ∧ i < zs.length := by
            have h := (List.getElem?_eq_some_iff.mp hd).1
            simp only [List.length_zipWith, List.length_zip] at h
            omega
          have q1 := List.getElem?_eq_getElem hlen.1
          have q2 := List.getElem?_eq_getElem hlen.2.1
          have q3 := List.getElem?_eq_getElem hlen.2.2
          have e := key _ _ _ q1 q2 q3
          subst e
          obtain ⟨k, r⟩ := lay_tup (K := X.K) s2 (xs := [xs[i], ys[i], zs[i]]) (vs := [x1, x2, x3]) ⟨x1, _, rfl, rep_at g2 q1 h1 s1, x2, _, rfl, rep_at g4 q2 h2 s1, x3, [], rfl, rep_at g6 q3 h3 s1, rfl⟩ hT
          exact ⟨_, k, r⟩
end
end DL
set_option linter.all false
set_option autoImplicit false
set_option maxHeartbeats 2000000
set_option maxRecDepth 100000
/-! A source of numbers: a list of a list of ints and two ints. -/
namespace DL
open PySem PySem.Spec PyProof.Rows L2
def AtA (H : Hp) (a g : Addr) (ns : List Int) (m t : Int) : Prop := a ≠ g ∧ H a = some (.lst [.ref g, .int m, .int t]) ∧ H g = some (.lst (ns.map V.int))
def PA0 (a : Addr) (fp : List Addr) (H : Hp) : Prop := ∃ g ns m t, fp = [a, g] ∧ AtA H a g ns m t
def SrcA : SrcK where
  P := PA0
  loc := fun {a fp H H'} h k => by
    obtain ⟨g, ns, m, t, rfl, h1, h2, h3⟩ := h
    exact ⟨g, ns, m, t, rfl, h1, by rw [k a (by simp)]; exact h2, by rw [k g (by simp)]; exact h3⟩
  tr := fun {a fp H} h => by
    obtain ⟨g, ns, m, t, rfl, h1, h2, h3⟩ := h
    refine ⟨by simp, fun b hb => ?_⟩
    have e : b = a ∨ b = g := by simpa using hb
    rcases e with e | e
    · rw [e, h2]; simp
    · rw [e, h3]; simp
/-- a draw -/
def spec_draw : Spec := fun ss Q _ => ∃ many : Int, ss = [.src, .d (.int many)] ∧ 0 < many ∧ many.natAbs.log2 < 9000 ∧ ∀ r : Int, 0 ≤ r → r < many → Q (.d (.int r))
theorem len_draw : ∀ ss Q Xe, spec_draw ss Q Xe → ss.length = 2 := fun ss Q Xe h => by
  obtain ⟨m, e, _⟩ := h
  rw [e] <;> rfl
/-- a new source, of a list of ints -/
def spNew (Z : SrcK) (K : PySem.W.Frag) : Sp := fun vs H Q _ => ∃ (a : Addr) (F : Hp) (ns : List Int), vs = [.ref a] ∧ Same F H ∧ Rep K F (.lst (ns.map D.int)) (.ref a) ∧ ns.length ≤ 63 ∧
  ∀ (F' H' : Hp) (p : Addr) (fp : List Addr), Same F F' → Same F' H' → (∀ b o, H b = some o → H' b = some o) → Z.P p fp H' → (∀ b ∈ fp, F' b = none ∧ H b = none) → Q (.ref p) H'
/-- what the source holds may change, and what was not there may come -/
structure Drawn (H H' : Hp) (a g : Addr) : Prop where
  keep : ∀ b o, H b = some o → b ≠ a → b ≠ g → H' b = some o
theorem Drawn.after {src : Option (Addr × List Addr)} {a g : Addr} {F H H' : Hp} {ns : List Int} {m t : Int} (h : src = some (a, [a, g])) (s : Same F H) (fa : ∀ b ∈ [a, g], F b = none) (d : Drawn H H' a g) (p : AtA H' a g ns m t) : After SrcA src (fpOf src) F H F H' := by
  subst h
  have na : ∀ b o, F b = some o → b ≠ a := fun b o e z => by rw [z, fa a (by simp)] at e; cases e
  have ng : ∀ b o, F b = some o → b ≠ g := fun b o e z => by rw [z, fa g (by simp)] at e; cases e
  refine ⟨Same.refl _, fun b o e => d.keep b o (s b o e) (na b o e) (ng b o e), fun b e => .inl e, fun b o e n => ?_, fun b e => ?_, fun a' fp' e => ?_⟩
  · have n : b ∉ [a, g] := n
    exact d.keep b o e (fun z => n (by simp [z])) (fun z => n (by simp [z]))
  · by_cases h1 : b = a
    · rw [h1, p.2.1]; simp
    · by_cases h2 : b = g
      · rw [h2, p.2.2]; simp
      · obtain ⟨o, e⟩ := ne_some e
        rw [d.keep b o e h1 h2]; simp
  · cases e
    exact ⟨⟨g, ns, m, t, rfl, p⟩, fa⟩
/-- a walk whose last part is told by the hand layer -/
def DSx (Z : SrcK) (X : Cx) (E : L2.St → XK) (sts : List Stmt) (w : SW) (t3 : TS) : Prop := ∃ t, PSs X sts t ∧ ∀ (c : Cfg) (F H : Hp) (σ : L2.St) (ρ : Env) (Xd : XD) (DD : DEnds) (D : Ends), EnvOk Z X.K c F H σ ρ → ELk Z X.K c F E Xd → w Xd DD ρ → EndsOk Z X.K c F H DD { D with nx := t3 D } → t D σ H
theorem dsx_last {Z : SrcK} {X : Cx} {E : L2.St → XK} {st : Stmt} {rest : List Stmt} {w : SW} {t3 : TS} (h : DS Z X E st w) (p : PSs X rest t3) : DSx Z X E (st :: rest) w t3 := by
  obtain ⟨t, p0, l⟩ := h
  exact ⟨_, pss_cons p0 p, fun c F H σ ρ Xd DD D e k hw q => l c F H σ ρ Xd DD _ e k hw q⟩
theorem dsx_cons {Z : SrcK} {X : Cx} {E : L2.St → XK} {st : Stmt} {rest : List Stmt} {w v : SW} {t3 : TS} (h : DS Z X E st w) (r : DSx Z X E rest v t3) : DSx Z X E (st :: rest) (sSeq w v) t3 := by
  obtain ⟨t, p0, l⟩ := h
  obtain ⟨u, p1, l1⟩ := r
  refine ⟨_, pss_cons p0 p1, fun c F H σ ρ Xd DD D e k hw q => l c F H σ ρ Xd { DD with nx := v Xd DD } _ e k hw ⟨fun σ' ρ' F' H' x e' s' n' => ?_, q.rt, q.bk, q.ct⟩⟩
  exact l1 c F' H' σ' ρ' Xd DD D e' (k.mono s') x (q.mono s' n')
theorem AtA.fresh {H : Hp} {a g p : Addr} {ns : List Int} {m t : Int} {o : HO} (h : AtA H a g ns m t) (n : H p = none) : AtA (upd H p o) a g ns m t := by
  obtain ⟨h1, h2, h3⟩ := h
  exact ⟨h1, by rw [upd_ne (ne_of_none h2 n)]; exact h2, by rw [upd_ne (ne_of_none h3 n)]; exact h3⟩
theorem Drawn.fresh {H H' : Hp} {a g p : Addr} {o : HO} (d : Drawn H H' a g) (n : H' p = none) : Drawn H (upd H' p o) a g := ⟨fun b u e h1 h2 => by
  have := d.keep b u e h1 h2
  rw [upd_ne (ne_of_none this n)]
  exact this⟩
theorem AtA.setG {H : Hp} {a g : Addr} {ns : List Int} {m t : Int} (h : AtA H a g ns m t) (ns' : List Int) : AtA (upd H g (.lst (ns'.map V.int))) a g ns' m t := by
  obtain ⟨h1, h2, h3⟩ := h
  exact ⟨h1, by rw [upd_ne h1]; exact h2, upd_same⟩
theorem AtA.setA {H : Hp} {a g : Addr} {ns : List Int} {m t : Int} (h : AtA H a g ns m t) (m' t' : Int) : AtA (upd H a (.lst [.ref g, .int m', .int t'])) a g ns m' t' := by
  obtain ⟨h1, h2, h3⟩ := h
  exact ⟨h1, upd_same, by rw [upd_ne (Ne.symm h1)]; exact h3⟩
theorem Drawn.setG {H H' : Hp} {a g : Addr} {o : HO} (d : Drawn H H' a g) : Drawn H (upd H' g o) a g := ⟨fun b u e h1 h2 => by
  rw [upd_ne h2]
  exact d.keep b u e h1 h2⟩
theorem Drawn.setA {H H' : Hp} {a g : Addr} {o : HO} (d : Drawn H H' a g) : Drawn H (upd H' a o) a g := ⟨fun b u e h1 h2 => by
  rw [upd_ne h1]
  exact d.keep b u e h1 h2⟩
theorem AtA.list {K : PySem.W.Frag} {H : Hp} {a g : Addr} {ns : List Int} {m t : Int} (h : AtA H a g ns m t) : SqL K H a [.ref g, .int m, .int t] := SqL.of h.2.1
theorem AtA.glist {K : PySem.W.Frag} {H : Hp} {a g : Addr} {ns : List Int} {m t : Int} (h : AtA H a g ns m t) : SqL K H g (ns.map V.int) := SqL.of h.2.2
theorem dpInts {K : PySem.W.Frag} {H : Hp} : ∀ ns : List Int, DpAll K H (ns.map V.int) (ns.map PyData.int)
  | [] => .nil
  | n :: ns => .cons (.int n) (dpInts ns)
theorem shapedInts (ns : List Int) : SeqAt.shaped (.list (ns.map PyData.int)) = true := by
  have h : ∀ ns : List Int, plainL 39 (ns.map D.int) = true ∧ toPyL (ns.map D.int) = ns.map PyData.int := fun ns => by
    induction ns with
    | nil => exact ⟨by simp [plainL], by simp [toPyL]⟩
    | cons n ns ih =>
      refine ⟨?_, ?_⟩
      · rw [List.map_cons, plainL, Bool.and_eq_true]
        exact ⟨rfl, ih.1⟩
      · rw [List.map_cons, toPyL, ih.2]
        rfl
  have p : plain 40 (.lst (ns.map D.int)) = true := by
    rw [plain]
    exact (h ns).1
  have s := plain_shaped p
  rw [toPy, (h ns).2] at s
  exact s
theorem ne_nil (ns : List Int) : PyData.eqv (.list (ns.map PyData.int)) (.list []) = decide (ns = []) := by
  cases ns <;> simp [PyData.eqv, PyData.eqvAll]
/-- `great != []` -/
theorem rNe_nil {K : PySem.W.Frag} {H : Hp} {g p : Addr} {ns : List Int} {Q : VK} (h : SqL K H g (ns.map V.int)) (hp : H p = some (.lst [])) (q : Q (.bl (!decide (ns = []))) H) : rNeD K (.ref g) (.ref p) H Q := by
  refine ⟨.list (ns.map PyData.int), .list [], .lst h (dpInts ns), .lst (SqL.of hp) .nil, shapedInts ns, shapedInts [], ?_⟩
  rw [ne_nil]
  exact q
theorem cond_N {K : PySem.W.Frag} {H0 H : Hp} {a g : Addr} {ns : List Int} {m t : Int} {σ : L2.St} {i : Nat} (hσ : σ[i]? = some (some (.ref g))) (dr : Drawn H0 H a g) (at0 : AtA H a g ns m t) {Q : Bool → Hp → Prop}
    (q : ∀ H1, Drawn H0 H1 a g → AtA H1 a g ns m t → Q (!decide (ns = [])) H1) : tTest (tOp (rNeD K) (tVar i) (tLst tNil)) σ H Q := by
  refine ⟨.ref g, hσ, Nat.zero_le _, fun p hp => ?_⟩
  have at2 := at0.fresh (o := .lst []) hp
  exact rNe_nil at2.glist upd_same ⟨_, rfl, q _ (dr.fresh hp) at2⟩
theorem cond_A {K : PySem.W.Frag} {H0 H : Hp} {a g : Addr} {ns : List Int} {m t : Int} {σ : L2.St} {i : Nat} (hσ : σ[i]? = some (some (.ref g))) (dr : Drawn H0 H a g) (at0 : AtA H a g ns m t) {Q : Bool → Hp → Prop}
    (q : ∀ b H1, (b = true → ∃ r, ns = 0 :: r) → Drawn H0 H1 a g → AtA H1 a g ns m t → Q b H1) : tAnd (tTest (tOp (rNeD K) (tVar i) (tLst tNil))) (tTest (tOp rEq (tOp (rIxL K) (tVar i) (tC (.int 0))) (tC (.int 0)))) σ H Q := by
  refine cond_N hσ dr at0 fun H1 d1 a1 => ?_
  cases ns with
  | nil =>
    refine ite2 (fun z => ?_) fun _ => q false H1 (fun z => nomatch z) d1 a1
    simp at z
  | cons n r =>
    refine ite2 (fun _ => ?_) fun z => absurd (by simp) z
    refine ⟨.ref g, hσ, g, _, 0, .int n, rfl, rfl, a1.glist, atI_nat (j := 0) rfl, rfl, _, rfl, ?_⟩
    refine q _ H1 (fun z => ?_) d1 a1
    have z : V.int n = V.int 0 := of_decide_eq_true z
    cases z
    exact ⟨r, rfl⟩
end DL
set_option linter.all false
set_option autoImplicit false
set_option maxHeartbeats 2000000
/-! Rules for what texts ask of data; fractions. -/
namespace DL
open PySem L2
/-! ### loops -/
/-- by what is left, and slots -/
theorem forGo_inv {g : GW} {b : SW} {X : XD} {DD : DEnds} (I : List D → Env → Prop) (step : ∀ x r ρ, I (x :: r) ρ → ∀ N : Env → Prop, (∀ ρ', I r ρ' → N ρ') → g x ρ fun ρ' => b X { DD with nx := N, ct := N, bk := DD.nx } ρ')
    (last : ∀ ρ, I [] ρ → DD.nx ρ) : ∀ xs ρ, I xs ρ → forGo g b X DD xs ρ
  | [], ρ, h => last ρ h
  | x :: r, ρ, h => step x r ρ h _ fun ρ' h' => forGo_inv I step last r ρ' h'
inductive All2 (R : D → D → Prop) : List D → List D → Prop
  | nil : All2 R [] []
  | cons {x y : D} {xs ys : List D} : R x y → All2 R xs ys → All2 R (x :: xs) (y :: ys)
/-- [f(x) for x in xs] -/
theorem compGo_map {g : GW} {a : EW} {ρ : Env} {Q : List D → Prop} (R : D → D → Prop) : ∀ (xs acc : List D), (∀ x ∈ xs, ∀ Q' : D → Prop, (∀ y, R x y → Q' y) → g x ρ fun ρ' => a X0 ρ' Q') → acc.length + xs.length ≤ 100000 →
    (∀ ys, All2 R xs ys → Q (acc ++ ys)) → compGo g tYesW a ρ Q xs acc
  | [], acc, _, _, q => by
    have := q [] .nil
    rw [List.append_nil] at this
    exact this
  | x :: r, acc, h, hl, q => by
    rw [List.length_cons] at hl
    have key : compGo g tYesW a ρ Q (x :: r) acc = g x ρ fun ρ' => a X0 ρ' fun y => acc.length < 100000 ∧ compGo g tYesW a ρ Q r (acc ++ [y]) := rfl
    rw [key]
    refine h x List.mem_cons_self _ fun y hy => ⟨by omega, ?_⟩
    refine compGo_map R r (acc ++ [y]) (fun z hz => h z (List.mem_cons_of_mem _ hz)) (by rw [List.length_append, List.length_singleton]; omega) fun ys hys => ?_
    rw [List.append_assoc]
    exact q (y :: ys) (.cons hy hys)
inductive Filt (R : D → Option D → Prop) : List D → List D → Prop
  | nil : Filt R [] []
  | take {x y : D} {xs ys : List D} : R x (some y) → Filt R xs ys → Filt R (x :: xs) (y :: ys)
  | drop {x : D} {xs ys : List D} : R x none → Filt R xs ys → Filt R (x :: xs) ys
/-- [f(x) for x in xs if t(x)] -/
theorem compGo_filt {g : GW} {t : TW} {a : EW} {ρ : Env} {Q : List D → Prop} (R : D → Option D → Prop) : ∀ (xs acc : List D), (∀ x ∈ xs, ∀ (Q' : D → Prop) (N : Prop), (∀ y, R x (some y) → Q' y) → (R x none → N) → g x ρ fun ρ' => t X0 ρ' fun k => if k = true then a X0 ρ' Q' else N) → acc.length + xs.length ≤ 100000 →
    (∀ ys, Filt R xs ys → Q (acc ++ ys)) → compGo g t a ρ Q xs acc
  | [], acc, _, _, q => by
    have := q [] .nil
    rw [List.append_nil] at this
    exact this
  | x :: r, acc, h, hl, q => by
    rw [List.length_cons] at hl
    have key : compGo g t a ρ Q (x :: r) acc = g x ρ fun ρ' => t X0 ρ' fun k => if k = true then a X0 ρ' fun y => acc.length < 100000 ∧ compGo g t a ρ Q r (acc ++ [y]) else compGo g t a ρ Q r acc := rfl
    rw [key]
    refine h x List.mem_cons_self _ _ (fun y hy => ⟨by omega, ?_⟩) fun hn => ?_
    · refine compGo_filt R r (acc ++ [y]) (fun z hz => h z (List.mem_cons_of_mem _ hz)) (by rw [List.length_append, List.length_singleton]; omega) fun ys hys => ?_
      rw [List.append_assoc]
      exact q (y :: ys) (.take hy hys)
    · exact compGo_filt R r acc (fun z hz => h z (List.mem_cons_of_mem _ hz)) (by omega) fun ys hys => q ys (.drop hn hys)
theorem Filt.all {R : D → Option D → Prop} {P : D → Prop} {xs ys : List D} (h : Filt R xs ys) (k : ∀ x y, x ∈ xs → R x (some y) → P y) : ∀ y ∈ ys, P y := by
  induction h with
  | nil => exact fun y hy => nomatch hy
  | take r _ ih =>
    intro z hz
    rcases List.mem_cons.mp hz with e | hz
    · rw [e]
      exact k _ _ List.mem_cons_self r
    · exact ih (fun x y hx => k x y (List.mem_cons_of_mem _ hx)) z hz
  | drop _ _ ih => exact ih fun x y hx => k x y (List.mem_cons_of_mem _ hx)
theorem Filt.len {R : D → Option D → Prop} {xs ys : List D} (h : Filt R xs ys) : ys.length ≤ xs.length := by
  induction h with
  | nil => exact Nat.le_refl _
  | take _ _ ih => simp only [List.length_cons]; omega
  | drop _ _ ih => simp only [List.length_cons]; omega
/-- data that are ints -/
theorem ints_of : ∀ {xs : List D}, (∀ x ∈ xs, ∃ i : Int, x = .int i) → ∃ ns : List Int, xs = ns.map D.int
  | [], _ => ⟨[], rfl⟩
  | x :: xs, h => by
    obtain ⟨i, rfl⟩ := h x List.mem_cons_self
    obtain ⟨ns, rfl⟩ := ints_of fun y hy => h y (List.mem_cons_of_mem _ hy)
    exact ⟨i :: ns, rfl⟩
theorem all2_mem {R : D → D → Prop} {xs ys : List D} (h : All2 R xs ys) : ∀ y ∈ ys, ∃ x ∈ xs, R x y := by
  induction h with
  | nil => exact fun y hy => nomatch hy
  | cons r _ ih =>
    intro z hz
    rcases List.mem_cons.mp hz with e | hz
    · exact ⟨_, List.mem_cons_self, by rw [e]; exact r⟩
    · obtain ⟨x, m, r⟩ := ih z hz
      exact ⟨x, List.mem_cons_of_mem _ m, r⟩
theorem all2_len {R : D → D → Prop} {xs ys : List D} (h : All2 R xs ys) : ys.length = xs.length := by
  induction h with
  | nil => rfl
  | cons _ _ ih => rw [List.length_cons, List.length_cons, ih]
/-! ### sizes -/
theorem imul_sz {i j : Int} {n m : Nat} (h1 : i.natAbs < 2 ^ n) (h2 : j.natAbs < 2 ^ m) (h : n + m < 999000) : IMul i j := by
  refine .inr (.inr ?_)
  have a : i.natAbs.log2 < n + 1 := PySem.Flt.log2_lt_of (by omega) (Nat.lt_of_lt_of_le h1 (Nat.pow_le_pow_right (by decide) (by omega)))
  have b : j.natAbs.log2 < m + 1 := PySem.Flt.log2_lt_of (by omega) (Nat.lt_of_lt_of_le h2 (Nat.pow_le_pow_right (by decide) (by omega)))
  omega
theorem abs_mul_lt {i j : Int} {n m : Nat} (h1 : i.natAbs < 2 ^ n) (h2 : j.natAbs < 2 ^ m) : (i * j).natAbs < 2 ^ (n + m) := by
  rw [Int.natAbs_mul, Nat.pow_add]
  exact Nat.mul_lt_mul'' h1 h2
theorem abs_add_lt {i j : Int} {n : Nat} (h1 : i.natAbs < 2 ^ n) (h2 : j.natAbs < 2 ^ n) : (i + j).natAbs < 2 ^ (n + 1) := by
  rw [Nat.pow_succ]
  omega
theorem abs_sub_lt {i j : Int} {n : Nat} (h1 : i.natAbs < 2 ^ n) (h2 : j.natAbs < 2 ^ n) : (i - j).natAbs < 2 ^ (n + 1) := by
  rw [Nat.pow_succ]
  omega
theorem log_lt {i : Int} {n m : Nat} (h : i.natAbs < 2 ^ n) (hm : n < m) : i.natAbs.log2 < m :=
  PySem.Flt.log2_lt_of (by omega) (Nat.lt_of_lt_of_le h (Nat.pow_le_pow_right (by decide) (by omega)))
/-! ### fractions -/
/-- a fraction as the texts hold it -/
def fr (q : Rat) : D := .tup [.int q.num, .int q.den]
/-- both parts below 2 ^ n -/
def Sz (n : Nat) (q : Rat) : Prop := q.num.natAbs < 2 ^ n ∧ q.den < 2 ^ n
/-- top / bottom -/
def rat (top bottom : Int) : Rat := Rat.divInt top bottom
theorem rat_self (q : Rat) : rat q.num q.den = q := Rat.num_divInt_den q
theorem rat_eq (a b : Int) : rat a b = (a : Rat) / (b : Rat) := Rat.divInt_eq_div a b
theorem num_nz {q : Rat} (h : q ≠ 0) : q.num ≠ 0 := fun z => h (by
  have e := Rat.num_divInt_den q
  rw [z, Rat.zero_divInt] at e
  exact e.symm)
theorem gcd_pos {a b : Int} (h : b ≠ 0) : 0 < Int.gcd a b := Int.gcd_pos_of_ne_zero_right a h
/-- what lowest terms are -/
theorem low_parts {top bottom : Int} (hb : bottom ≠ 0) {f : Int} (hf : f = (Int.gcd top bottom : Int) * (if 0 < bottom then 1 else -1)) : f ≠ 0 ∧ top.fdiv f = (rat top bottom).num ∧ bottom.fdiv f = (rat top bottom).den := by
  have hg : 0 < Int.gcd top bottom := gcd_pos hb
  obtain ⟨t, ht⟩ : (Int.gcd top bottom : Int) ∣ top := Int.gcd_dvd_left ..
  obtain ⟨b, hb2⟩ : (Int.gcd top bottom : Int) ∣ bottom := Int.gcd_dvd_right ..
  generalize hG : (Int.gcd top bottom : Int) = G at *
  have hG0 : 0 < G := by omega
  have e1 : (rat top bottom).num = bottom.sign * top / G := by
    unfold rat
    rw [Rat.num_divInt, Int.gcd_comm bottom top, hG]
  have e2 : ((rat top bottom).den : Int) = (bottom.natAbs : Int) / G := by
    unfold rat
    rw [Rat.den_divInt, if_neg hb, Int.gcd_comm bottom top, Int.natCast_ediv, hG]
  rw [e1, e2]
  by_cases hp : 0 < bottom
  · rw [if_pos hp, Int.mul_one] at hf
    subst hf
    refine ⟨by omega, ?_, ?_⟩
    · rw [Int.sign_eq_one_of_pos hp, Int.one_mul, Int.fdiv_eq_ediv_of_nonneg _ (by omega)]
    · rw [Int.fdiv_eq_ediv_of_nonneg _ (by omega), Int.natAbs_of_nonneg (by omega)]
  · rw [if_neg hp] at hf
    have hn : bottom < 0 := by omega
    have hf2 : f = -G := by omega
    subst hf2
    refine ⟨by omega, ?_, ?_⟩
    · rw [Int.sign_eq_neg_one_of_neg hn, ht]
      rw [show -1 * (G * t) = G * (-t) by rw [Int.mul_neg]; omega, Int.mul_ediv_cancel_left _ (by omega)]
      rw [show G * t = (-G) * (-t) by rw [Int.neg_mul_neg], Int.mul_fdiv_cancel_left _ (by omega)]
    · rw [show (bottom.natAbs : Int) = -bottom by omega]
      rw [hb2]
      rw [show -(G * b) = G * (-b) by rw [Int.mul_neg], Int.mul_ediv_cancel_left _ (by omega)]
      rw [show G * b = (-G) * (-b) by rw [Int.neg_mul_neg], Int.mul_fdiv_cancel_left _ (by omega)]
theorem gcd_le {a b : Int} (h : b ≠ 0) : Int.gcd a b ≤ b.natAbs := Int.gcd_le_natAbs_right a h
theorem plain_fr (n : Nat) (q : Rat) : plain (n + 2) (fr q) = true := by simp [fr, plain, plainL]
theorem peq_fr (p q : Rat) : peq (fr p) (fr q) = decide (p = q) := by
  simp only [fr, peq, peqL, Bool.and_true]
  by_cases h : p = q
  · subst h
    simp
  · rw [decide_eq_false h]
    rw [Bool.and_eq_false_iff]
    by_cases h1 : p.num = q.num
    · right
      rw [beq_eq_false_iff_ne]
      intro z
      exact h (Rat.ext h1 (by omega))
    · left
      rw [beq_eq_false_iff_ne]
      exact h1
theorem fr_inj {p q : Rat} (h : fr p = fr q) : p = q := by
  unfold fr at h
  injection h with h
  injection h with h1 h2
  injection h1 with h1
  injection h2 with h2
  injection h2 with h2
  exact Rat.ext h1 (by omega)
theorem Sz.den {n : Nat} {q : Rat} (h : Sz n q) : (q.den : Int).natAbs < 2 ^ n := by
  have := h.2
  omega
theorem Sz.mono {n m : Nat} {q : Rat} (h : Sz n q) (k : n ≤ m) : Sz m q :=
  ⟨Nat.lt_of_lt_of_le h.1 (Nat.pow_le_pow_right (by decide) k), Nat.lt_of_lt_of_le h.2 (Nat.pow_le_pow_right (by decide) k)⟩
/-- parts in lowest terms are no greater -/
theorem sz_rat {a b : Int} {n : Nat} (hb : b ≠ 0) (h1 : a.natAbs < 2 ^ n) (h2 : b.natAbs < 2 ^ n) : Sz n (rat a b) := by
  unfold Sz rat
  rw [Rat.num_divInt, Rat.den_divInt, if_neg hb]
  constructor
  · rw [Int.natAbs_ediv_of_dvd ?_]
    · refine Nat.lt_of_le_of_lt (Nat.div_le_self _ _) ?_
      rw [Int.natAbs_mul, Int.natAbs_sign_of_ne_zero hb, Nat.one_mul]
      exact h1
    · exact Int.dvd_mul_of_dvd_right (Int.gcd_dvd_right ..)
  · exact Nat.lt_of_le_of_lt (Nat.div_le_self _ _) h2
theorem den_nz (q : Rat) : (q.den : Int) ≠ 0 := by
  have := q.den_pos
  omega
theorem den_q (q : Rat) : ((q.den : Int) : Rat) ≠ 0 := by
  have := den_nz q
  intro z
  exact this (by exact_mod_cast z)
theorem self_div (q : Rat) : q = (q.num : Rat) / ((q.den : Int) : Rat) := by
  have := rat_self q
  rw [rat_eq] at this
  exact this.symm
theorem rat_of (a b : Int) : rat a b = (a : Rat) / (b : Rat) := rat_eq a b
theorem add_rat (p q : Rat) : rat (p.num * q.den + q.num * p.den) (p.den * q.den) = p + q := by
  have h1 := den_q p
  have h2 := den_q q
  have e1 := self_div p
  have e2 := self_div q
  rw [rat_eq, Rat.intCast_add, Rat.intCast_mul, Rat.intCast_mul, Rat.intCast_mul]
  generalize (p.num : Rat) = a at *
  generalize ((p.den : Int) : Rat) = b at *
  generalize (q.num : Rat) = c at *
  generalize ((q.den : Int) : Rat) = d at *
  subst e1 e2
  grind
theorem sub_rat (p q : Rat) : rat (p.num * q.den - q.num * p.den) (p.den * q.den) = p - q := by
  have h1 := den_q p
  have h2 := den_q q
  have e1 := self_div p
  have e2 := self_div q
  rw [rat_eq, Rat.intCast_sub, Rat.intCast_mul, Rat.intCast_mul, Rat.intCast_mul]
  generalize (p.num : Rat) = a at *
  generalize ((p.den : Int) : Rat) = b at *
  generalize (q.num : Rat) = c at *
  generalize ((q.den : Int) : Rat) = d at *
  subst e1 e2
  grind
theorem mul_rat (p q : Rat) : rat (p.num * q.num) (p.den * q.den) = p * q := by
  have h1 := den_q p
  have h2 := den_q q
  have e1 := self_div p
  have e2 := self_div q
  rw [rat_eq, Rat.intCast_mul, Rat.intCast_mul]
  generalize (p.num : Rat) = a at *
  generalize ((p.den : Int) : Rat) = b at *
  generalize (q.num : Rat) = c at *
  generalize ((q.den : Int) : Rat) = d at *
  subst e1 e2
  grind
theorem num_q {q : Rat} (h : q ≠ 0) : (q.num : Rat) ≠ 0 := fun z => num_nz h (by exact_mod_cast z)
theorem div_rat (p q : Rat) (h : q ≠ 0) : rat (p.num * q.den) (p.den * q.num) = p / q := by
  have h1 := den_q p
  have h2 := den_q q
  have h3 := num_q h
  have e1 := self_div p
  have e2 := self_div q
  rw [rat_eq, Rat.intCast_mul, Rat.intCast_mul]
  generalize (p.num : Rat) = a at *
  generalize ((p.den : Int) : Rat) = b at *
  generalize (q.num : Rat) = c at *
  generalize ((q.den : Int) : Rat) = d at *
  subst e1 e2
  grind
theorem Sz.add {n m : Nat} {p q : Rat} (h1 : Sz n p) (h2 : Sz m q) : Sz (n + m + 1) (p + q) := by
  rw [← add_rat]
  refine sz_rat (Int.mul_ne_zero (den_nz p) (den_nz q)) ?_ ?_
  · exact abs_add_lt (abs_mul_lt h1.1 h2.den) (by rw [Nat.add_comm]; exact abs_mul_lt h2.1 h1.den)
  · exact Nat.lt_of_lt_of_le (abs_mul_lt h1.den h2.den) (Nat.pow_le_pow_right (by decide) (by omega))
theorem Sz.sub {n m : Nat} {p q : Rat} (h1 : Sz n p) (h2 : Sz m q) : Sz (n + m + 1) (p - q) := by
  rw [← sub_rat]
  refine sz_rat (Int.mul_ne_zero (den_nz p) (den_nz q)) ?_ ?_
  · exact abs_sub_lt (abs_mul_lt h1.1 h2.den) (by rw [Nat.add_comm]; exact abs_mul_lt h2.1 h1.den)
  · exact Nat.lt_of_lt_of_le (abs_mul_lt h1.den h2.den) (Nat.pow_le_pow_right (by decide) (by omega))
theorem Sz.mul {n m : Nat} {p q : Rat} (h1 : Sz n p) (h2 : Sz m q) : Sz (n + m) (p * q) := by
  rw [← mul_rat]
  exact sz_rat (Int.mul_ne_zero (den_nz p) (den_nz q)) (abs_mul_lt h1.1 h2.1) (abs_mul_lt h1.den h2.den)
theorem Sz.div {n m : Nat} {p q : Rat} (h1 : Sz n p) (h2 : Sz m q) (h : q ≠ 0) : Sz (n + m) (p / q) := by
  rw [← div_rat p q h]
  exact sz_rat (Int.mul_ne_zero (den_nz p) (num_nz h)) (abs_mul_lt h1.1 h2.den) (abs_mul_lt h1.den h2.1)
theorem Sz.neg {n : Nat} {p : Rat} (h1 : Sz n p) : Sz n (-p) := by
  refine ⟨?_, ?_⟩
  · rw [Rat.neg_num, Int.natAbs_neg]
    exact h1.1
  · rw [Rat.neg_den]
    exact h1.2
end DL
set_option linter.all false
set_option autoImplicit false
set_option maxHeartbeats 2000000
/-! The law's own def. -/
namespace DL
open PySem PySem.Spec PyProof.Rows L2
def spLaw (K : PySem.W.Frag) : Sp := fun vs H Q _ => ∃ (a : Addr) (ns : List Int), vs = [.ref a] ∧ SqL K H a (ns.map V.int) ∧ ns.length ≤ 63 ∧ ∀ H', Q (.bl true) H'
/-- the def that makes the source -/
structure MadeBy (P : Program) (w : World) (K : PySem.W.Frag) (mg : Str → Option Value) (base : Heap) (Z : SrcK) (k : Nat) (x : Str) : Prop where
  ex : ∃ (f : Addr) (fd : FuncData), FnOk P w K mg base (L2.CX P w) k f fd ["script"] (spNew Z K) ∧ mg x = some (.ref f) ∧ PySem.W.keepIn K (.ref f) = true ∧ Binds K fd ["script"] []
section
variable {P : Program} {w : World} {K : PySem.W.Frag} {mg : Str → Option Value} {base : Heap} {Z : SrcK}
theorem repL_ints {F : Hp} : ∀ ns : List Int, RepL K F (ns.map D.int) (ns.map V.int)
  | [] => rfl
  | n :: ns => ⟨.int n, _, rfl, rfl, repL_ints ns⟩
theorem law_of {st : Stmt} {f : Addr} {fd : FuncData} {N : List Str} {k i : Nat} {wb : SW} {p : Pos} {y v : Str} {p1 p2 p3 p4 : Pos} (F : Fun K "law" "law" st f fd) (S : FnScope N ["script"] (defScope st))
    (hfirst : (defBody st).head? = some (.Assign [.Name v p1] (.Call (.Name y p2) [.Name "script" p3] [] p4) p))
    (h0 : ∀ (cdv : Value) (A : Around) (outer : List PySem.Env) (s : Shared) (H : Hp) (E : XK), Room k (A.deeper (envOfC "law" (defScope st) s.heap.objs.size f cdv)) →
      PS (cxOf (L2.CX P w) P w K mg base N "law" (defScope st) f cdv A outer s H E) (.Assign [.Name v p1] (.Call (.Name y p2) [.Name "script" p3] [] p4) p) (tAsg (tCallS (spNew Z K) (fun _ => E) (tCons (tVar 0) tNil)) (gName i)))
    (hN : N.length = N.length - 1 + 1) (hi : 0 < i)
    (hbody : ∀ (cdv : Value) (A : Around) (outer : List PySem.Env) (s : Shared) (H : Hp) (E : XK), Room k (A.deeper (envOfC "law" (defScope st) s.heap.objs.size f cdv)) →
      DSs Z (cxOf (L2.CX P w) P w K mg base N "law" (defScope st) f cdv A outer s H E) (fun _ => E) (defBody st).tail wb)
    (hw : ∀ ns : List Int, ns.length ≤ 63 → wb (fun _ _ => False) { nx := fun _ => False, rt := fun r => r = .d (.bl true) } ((.d (.lst (ns.map D.int)) :: List.replicate (N.length - 1) .un).set i .src)) : FnOk P w K mg base (L2.CX P w) (k + 1) f fd ["script"] (spLaw K) := by
  refine F.okX S (fun vs H Q E h => ?_) (fun cdv A outer s H vs Q E hr h => ?_)
  · obtain ⟨a, ns, rfl, _⟩ := h
    rfl
  · obtain ⟨a, ns, rfl, hS, hlen, q⟩ := h
    obtain ⟨t, p, l⟩ := hbody cdv A outer s H E hr
    have p0 := h0 cdv A outer s H E hr
    have hsplit : ∀ (b : List Stmt) (x : Stmt), b.head? = some x → b = x :: b.tail := fun b x h => by
      cases b with
      | nil => cases h
      | cons z r =>
        cases h
        rfl
    refine ⟨_, by rw [hsplit _ _ hfirst]; exact pss_cons p0 p, ?_⟩
    refine ⟨.ref a, rfl, a, H, ns, rfl, Same.refl H, ⟨a, ns.map V.int, rfl, hS, repL_ints ns⟩, hlen, fun F' H' pp fp sF sH kp hP hfp => ?_⟩
    have e0 : EnvOk Z K ⟨none, H, H⟩ H H (L2.start N [.ref a]) (([.d (.lst (ns.map D.int))] : List SV) ++ List.replicate (N.length - 1) .un) :=
      env_start (src := none) (ss := [.d (.lst (ns.map D.int))]) (Same.refl H) (fun _ _ z => nomatch z) ⟨.ref a, [], rfl, ⟨a, ns.map V.int, rfl, hS, repL_ints ns⟩, rfl⟩ (by rw [hN]; simp)
    have e1 : EnvOk Z K ⟨some (pp, fp), F', H'⟩ F' H' ((L2.start N [.ref a]).set i (some (.ref pp))) ((.d (.lst (ns.map D.int)) :: List.replicate (N.length - 1) .un).set i .src) := by
      refine EnvOk.setS (s := .src) ⟨e0.len, fun j u hj => ?_, fun i j xs ys _ h1 _ => ?_, sH, Same.refl F', fun b hb => .inl hb, fun b o hb _ => hb, fun b hb => hb, fun a' fp' e => ?_⟩ ⟨pp, fp, rfl, rfl⟩ (fun _ _ z => nomatch z)
      · obtain ⟨o, o1, o2⟩ := e0.slot j u hj
        refine ⟨o, o1, ?_⟩
        cases u with
        | un => trivial
        | d x =>
          obtain ⟨v, z1, z2⟩ := o2
          exact ⟨v, z1, Rep.mono sF _ _ z2⟩
        | own xs =>
          exfalso
          cases j with
          | zero => cases hj
          | succ j =>
            have hj : (List.replicate (N.length - 1) SV.un)[j]? = some (SV.own xs) := hj
            rw [List.getElem?_replicate] at hj
            split at hj <;> cases hj
        | src =>
          exfalso
          cases j with
          | zero => cases hj
          | succ j =>
            have hj : (List.replicate (N.length - 1) SV.un)[j]? = some SV.src := hj
            rw [List.getElem?_replicate] at hj
            split at hj <;> cases hj
      · exfalso
        cases i with
        | zero => cases h1
        | succ j =>
          have h1 : (List.replicate (N.length - 1) SV.un)[j]? = some (SV.own xs) := h1
          rw [List.getElem?_replicate] at h1
          split at h1 <;> cases h1
      · cases e
        exact ⟨hP, fun b hb => ⟨(hfp b hb).1, (Z.tr hP).2 b hb⟩⟩
    refine l ⟨some (pp, fp), F', H'⟩ F' H' _ _ _ _ _ e1 elk0 (hw ns hlen) ⟨fun _ _ _ _ z => z.elim, fun r v σ ρ F2 H2 hr e2 s2 r2 => ?_, fun _ _ _ _ z => z.elim, fun _ _ _ _ z => z.elim⟩
    subst hr
    have r2 : v = .bl true := r2
    subst r2
    exact q H2
end
/-- keywords alone: how they bind -/
theorem kw1 {fd : FuncData} {x a : Str} (h : ∀ u : Value, bindArgs fd ⟨[], [(a, u)]⟩ = pure [(a, u)]) : KwOk fd [a] [a] [0] := ⟨fun ws hl => match ws, hl with
  | [u], _ => h u, rfl⟩
/-! ### promises in short -/
def S1 (f : D → (RV → Prop) → Prop) : Spec := fun ss Q _ => ∃ x, ss = [.d x] ∧ f x Q
def S2 (f : D → D → (RV → Prop) → Prop) : Spec := fun ss Q _ => ∃ x y, ss = [.d x, .d y] ∧ f x y Q
def S3 (f : D → D → D → (RV → Prop) → Prop) : Spec := fun ss Q _ => ∃ x y z, ss = [.d x, .d y, .d z] ∧ f x y z Q
def G1 (f : (RV → Prop) → Prop) : Spec := fun ss Q _ => ss = [.src] ∧ f Q
def G2 (f : D → (RV → Prop) → Prop) : Spec := fun ss Q _ => ∃ x, ss = [.src, .d x] ∧ f x Q
def G3 (f : D → D → (RV → Prop) → Prop) : Spec := fun ss Q _ => ∃ x y, ss = [.src, .d x, .d y] ∧ f x y Q
theorem len_S1 {f : D → (RV → Prop) → Prop} : ∀ ss Q Xe, S1 f ss Q Xe → ss.length = 1 := fun ss Q Xe h => by
  obtain ⟨x, e, _⟩ := h
  rw [e] <;> rfl
theorem len_S2 {f : D → D → (RV → Prop) → Prop} : ∀ ss Q Xe, S2 f ss Q Xe → ss.length = 2 := fun ss Q Xe h => by
  obtain ⟨x, y, e, _⟩ := h
  rw [e] <;> rfl
theorem len_S3 {f : D → D → D → (RV → Prop) → Prop} : ∀ ss Q Xe, S3 f ss Q Xe → ss.length = 3 := fun ss Q Xe h => by
  obtain ⟨x, y, z, e, _⟩ := h
  rw [e] <;> rfl
theorem len_G1 {f : (RV → Prop) → Prop} : ∀ ss Q Xe, G1 f ss Q Xe → ss.length = 1 := fun ss Q Xe h => by
  obtain ⟨e, _⟩ := h
  rw [e] <;> rfl
theorem len_G2 {f : D → (RV → Prop) → Prop} : ∀ ss Q Xe, G2 f ss Q Xe → ss.length = 2 := fun ss Q Xe h => by
  obtain ⟨x, e, _⟩ := h
  rw [e] <;> rfl
theorem len_G3 {f : D → D → (RV → Prop) → Prop} : ∀ ss Q Xe, G3 f ss Q Xe → ss.length = 3 := fun ss Q Xe h => by
  obtain ⟨x, y, e, _⟩ := h
  rw [e] <;> rfl
end DL
set_option linter.all false
set_option autoImplicit false
set_option maxHeartbeats 4000000
set_option maxRecDepth 100000
namespace DL
open PySem PySem.Spec PyProof.Rows L2
def topS (i : Nat) : Stmt := PySem.Challenge.pw_fastestalong_k01_fractions_made_and_summ.main.body.getD i (.Pass ⟨0, 0, 0, 0⟩)
abbrev s__law_spring : Stmt := topS 19
abbrev s__law_low : Stmt := topS 23
abbrev s__law_drop : Stmt := topS 20
abbrev s__law_number : Stmt := topS 28
abbrev s__law_any : Stmt := topS 33
abbrev s_is_integer : Stmt := topS 5
abbrev s_common : Stmt := topS 6
abbrev s_is_fraction : Stmt := topS 9
abbrev s_check_fractions : Stmt := topS 10
abbrev s_below : Stmt := topS 16
abbrev s_lowest : Stmt := topS 8
abbrev s_plus : Stmt := topS 12
abbrev s_times : Stmt := topS 14
abbrev s_minus : Stmt := topS 13
abbrev s_over : Stmt := topS 15
abbrev s__law_handed_on_right : Stmt := topS 34
abbrev s__law_kinds : Stmt := topS 21
abbrev s__law_alike : Stmt := topS 22
abbrev s__law_is : Stmt := topS 30
abbrev s__law_means : Stmt := topS 31
abbrev s__law_pair_right : Stmt := topS 32
abbrev s__law_plus : Stmt := topS 24
abbrev s_sum_of : Stmt := topS 17
abbrev s_fraction : Stmt := topS 11
abbrev s_law : Stmt := topS 35
structure Bn (mg : Str → Option Value) : Prop where
  abs : mg "abs" = none
  all : mg "all" = none
  bool : mg "bool" = none
  int : mg "int" = none
  isinstance : mg "isinstance" = none
  len : mg "len" = none
  list : mg "list" = none
  range : mg "range" = none
  sorted : mg "sorted" = none
  str : mg "str" = none
  tuple : mg "tuple" = none
def c_NOUGHT : D := (.tup [(.int 0), (.int 1)])
structure Cn (K : PySem.W.Frag) (mg : Str → Option Value) : Prop where
  NOUGHT : Gc K mg "NOUGHT" c_NOUGHT
abbrev kws__law_spring : List (List Str × List Nat) := []
abbrev kws__law_low : List (List Str × List Nat) := []
abbrev kws__law_drop : List (List Str × List Nat) := []
abbrev kws__law_number : List (List Str × List Nat) := []
abbrev kws__law_any : List (List Str × List Nat) := []
abbrev kws_is_integer : List (List Str × List Nat) := []
abbrev kws_common : List (List Str × List Nat) := []
abbrev kws_is_fraction : List (List Str × List Nat) := [(["value"], [0])]
abbrev kws_check_fractions : List (List Str × List Nat) := []
abbrev kws_below : List (List Str × List Nat) := [(["other", "one"], [1, 0])]
abbrev kws_lowest : List (List Str × List Nat) := []
abbrev kws_plus : List (List Str × List Nat) := [(["other", "one"], [1, 0])]
abbrev kws_times : List (List Str × List Nat) := [(["other", "one"], [1, 0])]
abbrev kws_minus : List (List Str × List Nat) := [(["other", "one"], [1, 0])]
abbrev kws_over : List (List Str × List Nat) := [(["other", "one"], [1, 0])]
abbrev kws__law_handed_on_right : List (List Str × List Nat) := []
abbrev kws__law_kinds : List (List Str × List Nat) := []
abbrev kws__law_alike : List (List Str × List Nat) := []
abbrev kws__law_is : List (List Str × List Nat) := []
abbrev kws__law_means : List (List Str × List Nat) := []
abbrev kws__law_pair_right : List (List Str × List Nat) := []
abbrev kws__law_plus : List (List Str × List Nat) := []
abbrev kws_sum_of : List (List Str × List Nat) := [(["numbers"], [0])]
abbrev kws_fraction : List (List Str × List Nat) := [(["bottom", "top"], [1, 0])]
abbrev kws_law : List (List Str × List Nat) := []
end DL
set_option linter.all false
set_option autoImplicit false
set_option maxHeartbeats 2000000
/-! What fractions' functions promise. -/
namespace DL
open PySem L2
/-- what a def's text is to give -/
def VC (w : SW) (n : Nat) (sp : Spec) : Prop := ∀ ss Q Xe, sp ss Q Xe → w (fun _ => Xe) { nx := fun _ => Q (.d .non), rt := Q } (ss ++ List.replicate (n - ss.length) .un)
theorem atI0 {α : Type} {x : α} {r : List α} : atI (x :: r) 0 = some x := atI_nat (j := 0) rfl
theorem atI1 {α : Type} {x y : α} {r : List α} : atI (x :: y :: r) 1 = some y := atI_nat (j := 1) rfl
theorem atI2 {α : Type} {x y z : α} {r : List α} : atI (x :: y :: z :: r) 2 = some z := atI_nat (j := 2) rfl
theorem atI3 {α : Type} {x y z u : α} {r : List α} : atI (x :: y :: z :: u :: r) 3 = some u := atI_nat (j := 3) rfl
def isInt : D → Bool
  | .int _ => true
  | _ => false
def isFr : D → Bool
  | .tup [.int a, .int b] => decide (0 < b ∧ Int.gcd a b = 1)
  | _ => false
theorem isFr_fr (q : Rat) : isFr (fr q) = true := by
  have h1 := q.reduced
  have h2 := q.den_pos
  show decide _ = true
  rw [decide_eq_true_eq]
  refine ⟨by omega, ?_⟩
  exact h1
def sp_isint : Spec := S1 fun d Q => (tyOf d).isSome = true ∧ Q (.d (.bl (isInt d)))
def sp_gcd : Spec := S2 fun x y Q => ∃ a b : Int, x = .int a ∧ y = .int b ∧ 0 ≤ a ∧ 0 ≤ b ∧ Q (.d (.int (Int.gcd a b)))
def sp_low : Spec := S2 fun x y Q => ∃ a b : Int, x = .int a ∧ y = .int b ∧ b ≠ 0 ∧ b.natAbs.log2 < 9000 ∧ Q (.d (fr (rat a b)))
def sp_isfr : Spec := S1 fun d Q => plain 40 d = true ∧ Q (.d (.bl (isFr d)))
@[irreducible] def sp_op (n0 : Nat) (f : Rat → Rat → D) : Spec := S2 fun x y Q => ∃ (p q : Rat) (n m : Nat), x = fr p ∧ y = fr q ∧ Sz n p ∧ Sz m q ∧ n + m < n0 ∧ Q (.d (f p q))
theorem op_el {n0 : Nat} {f : Rat → Rat → D} {ss : List SV} {Q : RV → Prop} {Xe : Exc → Prop} (h : sp_op n0 f ss Q Xe) : ∃ x y, ss = [.d x, .d y] ∧ ∃ (p q : Rat) (n m : Nat), x = fr p ∧ y = fr q ∧ Sz n p ∧ Sz m q ∧ n + m < n0 ∧ Q (.d (f p q)) := by
  unfold sp_op at h
  exact h
theorem op_ok {n0 n m : Nat} {f : Rat → Rat → D} {p q : Rat} {Q : RV → Prop} {Xe : Exc → Prop} (hp : Sz n p) (hq : Sz m q) (h : n + m < n0) (k : Q (.d (f p q))) : sp_op n0 f [.d (fr p), .d (fr q)] Q Xe := by
  unfold sp_op
  exact ⟨_, _, rfl, p, q, n, m, rfl, rfl, hp, hq, h, k⟩
theorem len_op {n0 : Nat} {f : Rat → Rat → D} : ∀ ss Q Xe, sp_op n0 f ss Q Xe → ss.length = 2 := fun ss Q Xe h => by
  obtain ⟨x, y, e, _⟩ := op_el h
  rw [e] <;> rfl
/-- of two fractions, the second not 0 -/
@[irreducible] def sp_over (n0 : Nat) : Spec := S2 fun x y Q => ∃ (p q : Rat) (n m : Nat), x = fr p ∧ y = fr q ∧ q ≠ 0 ∧ Sz n p ∧ Sz m q ∧ n + m < n0 ∧ Q (.d (fr (p / q)))
theorem over_el {n0 : Nat} {ss : List SV} {Q : RV → Prop} {Xe : Exc → Prop} (h : sp_over n0 ss Q Xe) : ∃ x y, ss = [.d x, .d y] ∧ ∃ (p q : Rat) (n m : Nat), x = fr p ∧ y = fr q ∧ q ≠ 0 ∧ Sz n p ∧ Sz m q ∧ n + m < n0 ∧ Q (.d (fr (p / q))) := by
  unfold sp_over at h
  exact h
theorem over_ok {n0 n m : Nat} {p q : Rat} {Q : RV → Prop} {Xe : Exc → Prop} (hz : q ≠ 0) (hp : Sz n p) (hq : Sz m q) (h : n + m < n0) (k : Q (.d (fr (p / q)))) : sp_over n0 [.d (fr p), .d (fr q)] Q Xe := by
  unfold sp_over
  exact ⟨_, _, rfl, p, q, n, m, rfl, rfl, hz, hp, hq, h, k⟩
theorem len_ovr {n0 : Nat} : ∀ ss Q Xe, sp_over n0 ss Q Xe → ss.length = 2 := fun ss Q Xe h => by
  obtain ⟨x, y, e, _⟩ := over_el h
  rw [e] <;> rfl
/-- fractions of a tuple or a list -/
def frs (qs : List Rat) : List D := qs.map fr
theorem frs_of : ∀ {xs : List D}, (∀ x ∈ xs, ∃ q : Rat, x = fr q) → ∃ qs : List Rat, xs = frs qs
  | [], _ => ⟨[], rfl⟩
  | x :: xs, h => by
    obtain ⟨q, rfl⟩ := h x List.mem_cons_self
    obtain ⟨qs, rfl⟩ := frs_of fun y hy => h y (List.mem_cons_of_mem _ hy)
    exact ⟨q :: qs, rfl⟩
theorem bools_all {b : Bool} : ∀ {xs : List D}, (∀ x ∈ xs, x = .bl b) → bools xs = some (List.replicate xs.length b)
  | [], _ => rfl
  | x :: xs, h => by
    have e := h x List.mem_cons_self
    subst e
    rw [bools, bools_all fun y hy => h y (List.mem_cons_of_mem _ hy)]
    rfl
theorem all_replicate (n : Nat) : (List.replicate n true).all id = true := by
  rw [List.all_eq_true]
  intro x hx
  rw [List.eq_of_mem_replicate hx]
  rfl
/-! ### gcd by division -/
theorem gcd_step {a b : Int} (ha : 0 ≤ a) (hb : 0 < b) : Int.gcd b (a % b) = Int.gcd a b := by
  obtain ⟨m, rfl⟩ := Int.eq_ofNat_of_zero_le ha
  obtain ⟨n, rfl⟩ := Int.eq_ofNat_of_zero_le (Int.le_of_lt hb)
  show Nat.gcd n ((m : Int) % (n : Int)).natAbs = Nat.gcd m n
  rw [← Int.natCast_emod, Int.natAbs_natCast, Nat.gcd_comm n, ← Nat.gcd_rec, Nat.gcd_comm]
mutual
/-- data that may be compared, nested at most n deep, at most 1000 long -/
def short : Nat → D → Bool
  | 0, _ => false
  | _ + 1, .non => true
  | _ + 1, .bl _ => true
  | _ + 1, .int _ => true
  | _ + 1, .str s => PyData.strOk s
  | n + 1, .tup xs => decide (xs.length ≤ 1000) && shortL n xs
  | n + 1, .lst xs => decide (xs.length ≤ 1000) && shortL n xs
  | _ + 1, .ins _ _ _ => false
def shortL : Nat → List D → Bool
  | _, [] => true
  | n, x :: xs => short n x && shortL n xs
end
mutual
theorem short_plain : ∀ (n m : Nat) (d : D), n ≤ m → short n d = true → plain m d = true
  | 0, _, _, _, h => by simp [short] at h
  | n + 1, 0, _, hm, _ => absurd hm (by omega)
  | n + 1, m + 1, .non, _, _ => by simp [plain]
  | n + 1, m + 1, .bl _, _, _ => by simp [plain]
  | n + 1, m + 1, .int _, _, _ => by simp [plain]
  | n + 1, m + 1, .str s, _, h => by
    simp only [short] at h
    simp only [plain]
    exact h
  | n + 1, m + 1, .tup xs, hm, h => by
    simp only [short, Bool.and_eq_true] at h
    simp only [plain]
    exact shortL_plain n m xs (by omega) h.2
  | n + 1, m + 1, .lst xs, hm, h => by
    simp only [short, Bool.and_eq_true] at h
    simp only [plain]
    exact shortL_plain n m xs (by omega) h.2
  | n + 1, m + 1, .ins _ _ _, _, h => by simp [short] at h
theorem shortL_plain : ∀ (n m : Nat) (ds : List D), n ≤ m → shortL n ds = true → plainL m ds = true
  | _, _, [], _, _ => by simp [plainL]
  | n, m, x :: xs, hm, h => by
    simp only [shortL, Bool.and_eq_true] at h
    simp only [plainL, Bool.and_eq_true]
    exact ⟨short_plain n m x hm h.1, shortL_plain n m xs hm h.2⟩
end
theorem shortL_at {n : Nat} : ∀ {xs : List D}, shortL n xs = true → ∀ x ∈ xs, short n x = true
  | [], _, _, hx => nomatch hx
  | x :: xs, h, y, hy => by
    simp only [shortL, Bool.and_eq_true] at h
    rcases List.mem_cons.mp hy with e | hy
    · rw [e]
      exact h.1
    · exact shortL_at h.2 y hy
theorem shortL_of {n : Nat} : ∀ {xs : List D}, (∀ x ∈ xs, short n x = true) → shortL n xs = true
  | [], _ => by simp [shortL]
  | x :: xs, h => by
    simp only [shortL, Bool.and_eq_true]
    exact ⟨h x List.mem_cons_self, shortL_of fun y hy => h y (List.mem_cons_of_mem _ hy)⟩
theorem short_fr (n : Nat) (q : Rat) : short (n + 2) (fr q) = true := by simp [fr, short, shortL]
mutual
theorem peq_refl : ∀ d : D, (∀ n, plain n d = true → peq d d = true)
  | .non, _, _ => by simp [peq]
  | .bl _, _, _ => by simp [peq]
  | .int _, _, _ => by simp [peq]
  | .str _, _, _ => by simp [peq]
  | .tup xs, 0, h => by simp [plain] at h
  | .tup xs, n + 1, h => by
    simp only [plain] at h
    simp only [peq]
    exact peqL_refl xs n h
  | .lst xs, 0, h => by simp [plain] at h
  | .lst xs, n + 1, h => by
    simp only [plain] at h
    simp only [peq]
    exact peqL_refl xs n h
  | .ins _ _ _, 0, h => by simp [plain] at h
  | .ins _ _ _, n + 1, h => by simp [plain] at h
theorem peqL_refl : ∀ ds : List D, (∀ n, plainL n ds = true → peqL ds ds = true)
  | [], _, _ => by simp [peqL]
  | x :: xs, n, h => by
    simp only [plainL, Bool.and_eq_true] at h
    simp only [peqL, Bool.and_eq_true]
    exact ⟨peq_refl x n h.1, peqL_refl xs n h.2⟩
end
theorem plain_ty : ∀ {n : Nat} {d : D}, plain n d = true → (tyOf d).isSome = true
  | 0, _, h => by simp [plain] at h
  | n + 1, .ins _ _ _, h => by simp [plain] at h
  | n + 1, .non, _ => rfl
  | n + 1, .bl _, _ => rfl
  | n + 1, .int _, _ => rfl
  | n + 1, .str _, _ => rfl
  | n + 1, .tup _, _ => rfl
  | n + 1, .lst _, _ => rfl
theorem plain_at {n : Nat} : ∀ {xs : List D}, plainL n xs = true → ∀ x ∈ xs, plain n x = true
  | [], _, _, hx => nomatch hx
  | x :: xs, h, y, hy => by
    simp only [plainL, Bool.and_eq_true] at h
    rcases List.mem_cons.mp hy with e | hy
    · rw [e]
      exact h.1
    · exact plain_at h.2 y hy
theorem isInt_of {d : D} (h : isInt d = true) : ∃ i : Int, d = .int i := by
  cases d with
  | int i => exact ⟨i, rfl⟩
  | _ => cases h
/-- a pair that is no fraction for want of ints -/
theorem isFr_no1 {x y : D} (h : isInt x = false) : isFr (.tup [x, y]) = false := by
  cases x with
  | int i => cases h
  | _ => rfl
theorem isFr_no2 {x y : D} (h : isInt y = false) : isFr (.tup [x, y]) = false := by
  cases y with
  | int i => cases h
  | _ => cases x <;> rfl
theorem isFr_len {xs : List D} (h : xs.length ≠ 2) : isFr (.tup xs) = false := by
  unfold isFr
  cases xs with
  | nil => rfl
  | cons x r =>
    cases r with
    | nil => cases x <;> rfl
    | cons y t =>
      cases t with
      | nil => exact absurd rfl h
      | cons z u => cases x <;> cases y <;> rfl
theorem peq_int {i j : Int} : peq (.int i) (.int j) = decide (i = j) := by
  simp only [peq]
  by_cases h : i = j
  · subst h
    simp
  · rw [decide_eq_false h]
    exact beq_false_of_ne h
theorem bcases (b : Bool) : b = true ∨ b = false := by cases b <;> simp
end DL
set_option linter.all false
set_option autoImplicit false
set_option maxHeartbeats 4000000
set_option maxRecDepth 100000
namespace DL
open PySem PySem.Spec PyProof.Rows L2
abbrev spec__law_drop : Spec := spec_draw
abbrev spec_is_integer : Spec := sp_isint
abbrev spec_common : Spec := sp_gcd
abbrev spec_lowest : Spec := sp_low
abbrev spec__law_low : Spec := sp_low
abbrev spec_fraction : Spec := sp_low
abbrev spec_is_fraction : Spec := sp_isfr
abbrev spec_plus : Spec := sp_op 8900 fun p q => fr (p + q)
abbrev spec__law_plus : Spec := sp_op 8900 fun p q => fr (p + q)
abbrev spec_minus : Spec := sp_op 8900 fun p q => fr (p - q)
abbrev spec_times : Spec := sp_op 8900 fun p q => fr (p * q)
abbrev spec_below : Spec := sp_op 8900 fun p q => .bl (decide (p < q))
abbrev spec_over : Spec := sp_over 8900
def spec_check_fractions : Spec := S1 fun d Q => ∃ qs : List Rat, seqD d = some (frs qs) ∧ qs.length ≤ 50000 ∧ Q (.d .non)
def spec_sum_of : Spec := S1 fun d Q => ∃ (qs : List Rat) (n : Nat), d = .tup (frs qs) ∧ (∀ q ∈ qs, Sz n q) ∧ (n + 1) * (qs.length + 2) < 8900 ∧ qs.length ≤ 50000 ∧ Q (.d (fr qs.sum))
def kinds (d : D) : D := .lst [.bl (tyOf d == some "bool"), .bl (tyOf d == some "int" || tyOf d == some "bool"), .bl (tyOf d == some "str"), .bl (tyOf d == some "tuple"), .bl (tyOf d == some "list"), .bl (tyOf d == some "NoneType")]
def spec__law_kinds : Spec := S1 fun d Q => (tyOf d).isSome = true ∧ Q (.d (kinds d))
def spec__law_alike (n : Nat) : Spec := S2 fun x y Q => x = y ∧ short n x = true ∧ Q (.d (.bl true))
def spec__law_number : Spec := G1 fun Q => ∀ q : Rat, Sz 22 q → Q (.d (fr q))
def spec__law_any : Spec := G1 fun Q => ∀ q : Rat, Sz 134 q → Q (.d (fr q))
def spec__law_is : Spec := S1 fun d Q => plain 40 d = true ∧ (∀ a b : Int, d = .tup [.int a, .int b] → b.natAbs.log2 < 9000) ∧ Q (.d (.bl (isFr d)))
def spec__law_means : Spec := S3 fun f t b Q => ∃ (q : Rat) (n : Nat) (top bottom : Int), f = fr q ∧ t = .int top ∧ b = .int bottom ∧ Sz n q ∧ top.natAbs < 2 ^ n ∧ bottom.natAbs < 2 ^ n ∧ n < 4000 ∧ q.num * bottom = top * q.den ∧ Q (.d (.bl true))
def spec__law_pair_right : Spec := S2 fun x y Q => ∃ p q : Rat, x = fr p ∧ y = fr q ∧ Sz 134 p ∧ Sz 134 q ∧ Q (.d (.bl true))
def spec__law_handed_on_right : Spec := S3 fun x y z Q => ∃ p q r : Rat, x = fr p ∧ y = fr q ∧ z = fr r ∧ Sz 134 p ∧ Sz 134 q ∧ Sz 134 r ∧ Q (.d (.bl true))
theorem len_is_integer : ∀ ss Q Xe, spec_is_integer ss Q Xe → ss.length = 1 := len_S1
theorem len_common : ∀ ss Q Xe, spec_common ss Q Xe → ss.length = 2 := len_S2
theorem len_lowest : ∀ ss Q Xe, spec_lowest ss Q Xe → ss.length = 2 := len_S2
theorem len__law_low : ∀ ss Q Xe, spec__law_low ss Q Xe → ss.length = 2 := len_S2
theorem len_fraction : ∀ ss Q Xe, spec_fraction ss Q Xe → ss.length = 2 := len_S2
theorem len_is_fraction : ∀ ss Q Xe, spec_is_fraction ss Q Xe → ss.length = 1 := len_S1
theorem len_plus : ∀ ss Q Xe, spec_plus ss Q Xe → ss.length = 2 := len_op
theorem len__law_plus : ∀ ss Q Xe, spec__law_plus ss Q Xe → ss.length = 2 := len_op
theorem len_minus : ∀ ss Q Xe, spec_minus ss Q Xe → ss.length = 2 := len_op
theorem len_times : ∀ ss Q Xe, spec_times ss Q Xe → ss.length = 2 := len_op
theorem len_below : ∀ ss Q Xe, spec_below ss Q Xe → ss.length = 2 := len_op
theorem len_over : ∀ ss Q Xe, spec_over ss Q Xe → ss.length = 2 := len_ovr
theorem len_check_fractions : ∀ ss Q Xe, spec_check_fractions ss Q Xe → ss.length = 1 := len_S1
theorem len_sum_of : ∀ ss Q Xe, spec_sum_of ss Q Xe → ss.length = 1 := len_S1
theorem len__law_kinds : ∀ ss Q Xe, spec__law_kinds ss Q Xe → ss.length = 1 := len_S1
theorem len__law_number : ∀ ss Q Xe, spec__law_number ss Q Xe → ss.length = 1 := len_G1
theorem len__law_any : ∀ ss Q Xe, spec__law_any ss Q Xe → ss.length = 1 := len_G1
theorem len__law_is : ∀ ss Q Xe, spec__law_is ss Q Xe → ss.length = 1 := len_S1
theorem len__law_means : ∀ ss Q Xe, spec__law_means ss Q Xe → ss.length = 3 := len_S3
theorem len__law_pair_right : ∀ ss Q Xe, spec__law_pair_right ss Q Xe → ss.length = 2 := len_S2
theorem len__law_handed_on_right : ∀ ss Q Xe, spec__law_handed_on_right ss Q Xe → ss.length = 3 := len_S3
end DL
set_option linter.all false
set_option autoImplicit false
set_option maxHeartbeats 4000000
set_option maxRecDepth 100000
namespace DL
open PySem PySem.Spec PyProof.Rows L2
def w__law_low_2 : SW := (sSeq (sAsg (wIf (tB (wBin bGt (wVar 1) (wC (.int 0)))) (wVar 2) (wUn bNeg (wVar 2))) (gNm 2))
  (sRet (wTup (wCons (wBin bFdivN (wVar 0) (wVar 2)) (wCons (wBin bFdivN (wVar 1) (wVar 2)) wNil)))))
def w__law_low_1 : SW := (sSeq (sWhile (tB (wBin bGt (wVar 3) (wC (.int 0))))
  (sPar [2, 3] (wCons (wVar 3) (wCons (wBin bMod (wCB bInt (wCons (wVar 2) wNil)) (wVar 3)) wNil))))
  w__law_low_2)
def w__law_low : SW := (sSeq (sPar [2, 3] (wCons (wCB bAbs (wCons (wVar 0) wNil)) (wCons (wCB bAbs (wCons (wVar 1) wNil)) wNil)))
  w__law_low_1)

def w__law_number_3 : SW := (sSeq (sIf (tB (wBin bLt (wVar 1) (wC (.int 5))))
  (sRet (wCall spec__law_low (wCons (wBin bSub (wCall spec__law_drop (wConsS 0 (wCons (wC (.int 41)) wNil))) (wC (.int 20))) (wCons (wBin bAdd (wC (.int 1)) (wCall spec__law_drop (wConsS 0 (wCons (wC (.int 12)) wNil)))) wNil))))
  sNext)
  (sRet (wCall spec__law_low (wCons (wBin bSub (wCall spec__law_drop (wConsS 0 (wCons (wC (.int 2000001)) wNil))) (wC (.int 1000000))) (wCons (wBin bAdd (wC (.int 1)) (wCall spec__law_drop (wConsS 0 (wCons (wC (.int 1000)) wNil)))) wNil)))))
def w__law_number_2 : SW := (sSeq (sIf (tB (wBin bLt (wVar 1) (wC (.int 3))))
  (sRet (wCall spec__law_low (wCons (wBin bSub (wCall spec__law_drop (wConsS 0 (wCons (wC (.int 2000001)) wNil))) (wC (.int 1000000))) (wCons (wBin bIx (wLst (wCons (wC (.int 100)) (wCons (wC (.int 1000)) (wCons (wC (.int 8)) (wCons (wC (.int 20)) wNil))))) (wCall spec__law_drop (wConsS 0 (wCons (wC (.int 4)) wNil)))) wNil))))
  sNext)
  w__law_number_3)
def w__law_number_1 : SW := (sSeq (sIf (tB (wBin bEq (wVar 1) (wC (.int 0))))
  (sRet (wTup (wCons (wBin bSub (wCall spec__law_drop (wConsS 0 (wCons (wC (.int 2001)) wNil))) (wC (.int 1000))) (wCons (wC (.int 1)) wNil))))
  sNext)
  w__law_number_2)
def w__law_number : SW := (sSeq (sAsg (wCall spec__law_drop (wConsS 0 (wCons (wC (.int 6)) wNil))) (gNm 1))
  w__law_number_1)

def w__law_any : SW := (sSeq (sIf (tB (wBin bGt (wCall spec__law_drop (wConsS 0 (wCons (wC (.int 4)) wNil))) (wC (.int 0))))
  (sRet (wCall spec__law_number (wConsS 0 wNil)))
  sNext)
  (sRet (wCall spec__law_low (wCons (wBin bSub (wCall spec__law_drop (wConsS 0 (wCons (wBin bPow (wC (.int 10)) (wC (.int 40))) wNil))) (wBin bPow (wC (.int 10)) (wC (.int 39)))) (wCons (wBin bAdd (wC (.int 1)) (wCall spec__law_drop (wConsS 0 (wCons (wBin bIx (wLst (wCons (wBin bPow (wC (.int 10)) (wC (.int 40))) (wCons (wBin bPow (wC (.int 10)) (wC (.int 9))) wNil))) (wCall spec__law_drop (wConsS 0 (wCons (wC (.int 2)) wNil)))) wNil)))) wNil)))))

def w_is_integer : SW := (sRet (wAnd (wUn (bIsi "int") (wVar 0)) (wNot (wUn (bIsi "bool") (wVar 0)))))

def w_common : SW := (sSeq (sWhile (tB (wBin bGt (wVar 1) (wC (.int 0))))
  (sPar [0, 1] (wCons (wVar 1) (wCons (wBin bMod (wVar 0) (wVar 1)) wNil))))
  (sRet (wVar 0)))

def w_is_fraction : SW := (sSeq (sIf (tOrW (tNotW (tB (wUn (bIsi "tuple") (wVar 0)))) (tOrW (tB (wBin bNe (wCB bLen (wCons (wVar 0) wNil)) (wC (.int 2)))) (tOrW (tNotW (tB (wCall spec_is_integer (wCons (wBin bIx (wVar 0) (wC (.int 0))) wNil)))) (tNotW (tB (wCall spec_is_integer (wCons (wBin bIx (wVar 0) (wC (.int 1))) wNil)))))))
  (sRet (wC (.bl false)))
  sNext)
  (sRet (wAnd (wBin bGt (wBin bIx (wVar 0) (wC (.int 1))) (wC (.int 0))) (wBin bEq (wCall spec_common (wCons (wCB bAbs (wCons (wBin bIx (wVar 0) (wC (.int 0))) wNil)) (wCons (wBin bIx (wVar 0) (wC (.int 1))) wNil))) (wC (.int 1))))))

def w_check_fractions : SW := (sIf (tNotW (tB (wCB bAll (wCons (wOfL (lComp (iSeq (wVar 0)) (gNm 1) tYesW (wCall spec_is_fraction (wCons (wVar 1) wNil)) [1])) wNil))))
  sNever
  sNext)

def w_below : SW := (sSeq (sDrop (wCall spec_check_fractions (wCons (wTup (wCons (wVar 0) (wCons (wVar 1) wNil))) wNil)))
  (sRet (wBin bLt (wBin bMul (wBin bIx (wVar 0) (wC (.int 0))) (wBin bIx (wVar 1) (wC (.int 1)))) (wBin bMul (wBin bIx (wVar 1) (wC (.int 0))) (wBin bIx (wVar 0) (wC (.int 1)))))))

def w_lowest : SW := (sSeq (sAsg (wBin bMul (wCall spec_common (wCons (wCB bAbs (wCons (wVar 0) wNil)) (wCons (wCB bAbs (wCons (wVar 1) wNil)) wNil))) (wIf (tB (wBin bGt (wVar 1) (wC (.int 0)))) (wC (.int 1)) (wUn bNeg (wC (.int 1))))) (gNm 2))
  (sRet (wTup (wCons (wBin bFdivN (wVar 0) (wVar 2)) (wCons (wBin bFdivN (wVar 1) (wVar 2)) wNil)))))

def w_plus : SW := (sSeq (sDrop (wCall spec_check_fractions (wCons (wTup (wCons (wVar 0) (wCons (wVar 1) wNil))) wNil)))
  (sRet (wCall spec_lowest (wCons (wBin bAdd (wBin bMul (wBin bIx (wVar 0) (wC (.int 0))) (wBin bIx (wVar 1) (wC (.int 1)))) (wBin bMul (wBin bIx (wVar 1) (wC (.int 0))) (wBin bIx (wVar 0) (wC (.int 1))))) (wCons (wBin bMul (wBin bIx (wVar 0) (wC (.int 1))) (wBin bIx (wVar 1) (wC (.int 1)))) wNil)))))

def w_times : SW := (sSeq (sDrop (wCall spec_check_fractions (wCons (wTup (wCons (wVar 0) (wCons (wVar 1) wNil))) wNil)))
  (sRet (wCall spec_lowest (wCons (wBin bMul (wBin bIx (wVar 0) (wC (.int 0))) (wBin bIx (wVar 1) (wC (.int 0)))) (wCons (wBin bMul (wBin bIx (wVar 0) (wC (.int 1))) (wBin bIx (wVar 1) (wC (.int 1)))) wNil)))))

def w_minus : SW := (sSeq (sDrop (wCall spec_check_fractions (wCons (wTup (wCons (wVar 0) (wCons (wVar 1) wNil))) wNil)))
  (sRet (wCall spec_lowest (wCons (wBin bSub (wBin bMul (wBin bIx (wVar 0) (wC (.int 0))) (wBin bIx (wVar 1) (wC (.int 1)))) (wBin bMul (wBin bIx (wVar 1) (wC (.int 0))) (wBin bIx (wVar 0) (wC (.int 1))))) (wCons (wBin bMul (wBin bIx (wVar 0) (wC (.int 1))) (wBin bIx (wVar 1) (wC (.int 1)))) wNil)))))

def w_over_1 : SW := (sSeq (sIf (tB (wBin bEq (wBin bIx (wVar 1) (wC (.int 0))) (wC (.int 0))))
  sNever
  sNext)
  (sRet (wCall spec_lowest (wCons (wBin bMul (wBin bIx (wVar 0) (wC (.int 0))) (wBin bIx (wVar 1) (wC (.int 1)))) (wCons (wBin bMul (wBin bIx (wVar 0) (wC (.int 1))) (wBin bIx (wVar 1) (wC (.int 0)))) wNil)))))
def w_over : SW := (sSeq (sDrop (wCall spec_check_fractions (wCons (wTup (wCons (wVar 0) (wCons (wVar 1) wNil))) wNil)))
  w_over_1)

def w__law_handed_on_right_4 : SW := (sSeq (sIf (tOrW (tB (wBin bIsNot (wCall spec_below (wCons (wVar 0) (wCons (wCall spec_plus (wCons (wVar 0) (wCons (wVar 3) wNil))) wNil))) (wC (.bl true)))) (tOrW (tB (wBin bIsNot (wCall spec_below (wCons (wCall spec_plus (wCons (wVar 0) (wCons (wVar 3) wNil))) (wCons (wVar 0) wNil))) (wC (.bl false)))) (tB (wBin bIsNot (wCall spec_below (wCons (wCall spec_minus (wCons (wVar 0) (wCons (wVar 3) wNil))) (wCons (wVar 0) wNil))) (wC (.bl true))))))
  (sRet (wC (.bl false)))
  sNext)
  (sRet (wBin bEq (wCall spec_below (wCons (wCall spec_times (wCons (wVar 0) (wCons (wVar 2) wNil))) (wCons (wCall spec_times (wCons (wVar 1) (wCons (wVar 2) wNil))) wNil))) (wIf (tB (wBin bGt (wBin bIx (wVar 2) (wC (.int 0))) (wC (.int 0)))) (wCall spec_below (wCons (wVar 0) (wCons (wVar 1) wNil))) (wAnd (wBin bLt (wBin bIx (wVar 2) (wC (.int 0))) (wC (.int 0))) (wCall spec_below (wCons (wVar 1) (wCons (wVar 0) wNil))))))))
def w__law_handed_on_right_3 : SW := (sSeq (sAsg (wTup (wCons (wC (.int 1)) (wCons (wBin bPow (wC (.int 10)) (wC (.int 40))) wNil))) (gNm 3))
  w__law_handed_on_right_4)
def w__law_handed_on_right_2 : SW := (sSeq (sIf (tAndW (tB (wBin bNe (wBin bIx (wVar 1) (wC (.int 0))) (wC (.int 0)))) (tOrW (tB (wBin bNe (wCall spec_over (wCons (wCall spec_times (wCons (wVar 0) (wCons (wVar 1) wNil))) (wCons (wVar 1) wNil))) (wVar 0))) (tOrW (tB (wBin bNe (wCall spec_times (wCons (wCall spec_over (wCons (wVar 0) (wCons (wVar 1) wNil))) (wCons (wVar 1) wNil))) (wVar 0))) (tB (wBin bNe (wCall spec_over (wCons (wCall spec_over (wCons (wVar 2) (wCons (wVar 1) wNil))) (wCons (wVar 1) wNil))) (wCall spec_over (wCons (wVar 2) (wCons (wCall spec_times (wCons (wVar 1) (wCons (wVar 1) wNil))) wNil))))))))
  (sRet (wC (.bl false)))
  sNext)
  w__law_handed_on_right_3)
def w__law_handed_on_right_1 : SW := (sSeq (sIf (tOrW (tB (wBin bNe (wCall spec_times (wCons (wVar 0) (wCons (wCall spec_plus (wCons (wVar 1) (wCons (wVar 2) wNil))) wNil))) (wCall spec_plus (wCons (wCall spec_times (wCons (wVar 0) (wCons (wVar 1) wNil))) (wCons (wCall spec_times (wCons (wVar 0) (wCons (wVar 2) wNil))) wNil))))) (tOrW (tB (wBin bNe (wCall spec_minus (wCons (wCall spec_plus (wCons (wVar 0) (wCons (wVar 1) wNil))) (wCons (wVar 1) wNil))) (wVar 0))) (tB (wBin bNe (wCall spec_plus (wCons (wCall spec_minus (wCons (wVar 0) (wCons (wVar 2) wNil))) (wCons (wVar 2) wNil))) (wVar 0)))))
  (sRet (wC (.bl false)))
  sNext)
  w__law_handed_on_right_2)
def w__law_handed_on_right : SW := (sSeq (sIf (tOrW (tB (wBin bNe (wCall spec_plus (wCons (wCall spec_plus (wCons (wVar 0) (wCons (wVar 1) wNil))) (wCons (wVar 2) wNil))) (wCall spec_plus (wCons (wVar 0) (wCons (wCall spec_plus (wCons (wVar 1) (wCons (wVar 2) wNil))) wNil))))) (tB (wBin bNe (wCall spec_times (wCons (wCall spec_times (wCons (wVar 0) (wCons (wVar 1) wNil))) (wCons (wVar 2) wNil))) (wCall spec_times (wCons (wVar 0) (wCons (wCall spec_times (wCons (wVar 1) (wCons (wVar 2) wNil))) wNil))))))
  (sRet (wC (.bl false)))
  sNext)
  w__law_handed_on_right_1)

def w__law_kinds : SW := (sSeq (sAsg (wLst (wCons (wUn (bIsi "bool") (wVar 0)) (wCons (wUn (bIsi "int") (wVar 0)) (wCons (wUn (bIsi "str") (wVar 0)) wNil)))) (gNm 1))
  (sRet (wBin bAdd (wVar 1) (wLst (wCons (wUn (bIsi "tuple") (wVar 0)) (wCons (wUn (bIsi "list") (wVar 0)) (wCons (wUn bIsN (wVar 0)) wNil)))))))

def w__law_alike (n : Nat) : SW := (sSeq (sIf (tB (wBin bNe (wCall spec__law_kinds (wCons (wVar 0) wNil)) (wCall spec__law_kinds (wCons (wVar 1) wNil))))
  (sRet (wC (.bl false)))
  sNext)
  (sSeq (sIf (tB (wUn (bIsi2 "tuple" "list") (wVar 1)))
  (sRet (wAnd (wBin bEq (wCB bLen (wCons (wVar 0) wNil)) (wCB bLen (wCons (wVar 1) wNil))) (wCB bAll (wCons (wOfL (lComp (iRange1 (wCB bLen (wCons (wVar 1) wNil))) (gNm 2) tYesW (wCall (spec__law_alike n) (wCons (wBin bIx (wVar 0) (wVar 2)) (wCons (wBin bIx (wVar 1) (wVar 2)) wNil))) [2])) wNil))))
  sNext)
  (sRet (wBin bEq (wVar 0) (wVar 1)))))

def w__law_is_1 : SW := (sSeq (sIf (tNotW (tB (wCB bAll (wCons (wOfL (lComp (iSeq (wVar 0)) (gNm 1) tYesW (wAnd (wUn (bIsi "int") (wVar 1)) (wNot (wUn (bIsi "bool") (wVar 1)))) [1])) wNil))))
  (sRet (wC (.bl false)))
  sNext)
  (sRet (wAnd (wBin bGt (wBin bIx (wVar 0) (wC (.int 1))) (wC (.int 0))) (wBin bEq (wCall spec__law_low (wCons (wBin bIx (wVar 0) (wC (.int 0))) (wCons (wBin bIx (wVar 0) (wC (.int 1))) wNil))) (wVar 0)))))
def w__law_is : SW := (sSeq (sIf (tOrW (tNotW (tB (wUn (bIsi "tuple") (wVar 0)))) (tB (wBin bNe (wCB bLen (wCons (wVar 0) wNil)) (wC (.int 2)))))
  (sRet (wC (.bl false)))
  sNext)
  w__law_is_1)

def w__law_means : SW := (sRet (wAnd (wCall spec__law_is (wCons (wVar 0) wNil)) (wBin bEq (wBin bMul (wBin bIx (wVar 0) (wC (.int 0))) (wVar 2)) (wBin bMul (wVar 1) (wBin bIx (wVar 0) (wC (.int 1)))))))

def w__law_pair_right_6 : SW := (sSeq (sAsg (wBin bLt (wBin bMul (wVar 4) (wVar 7)) (wBin bMul (wVar 6) (wVar 5))) (gNm 3))
  (sRet (wCall (spec__law_alike 6) (wCons (wLst (wCons (wCall spec_below (wCons (wVar 0) (wCons (wVar 1) wNil))) (wCons (wCallK spec_below [1, 0] (wCons (wVar 1) (wCons (wVar 0) wNil))) (wCons (wCall spec_below (wCons (wVar 0) (wCons (wVar 0) wNil))) wNil)))) (wCons (wLst (wCons (wVar 3) (wCons (wVar 3) (wCons (wC (.bl false)) wNil)))) wNil)))))
def w__law_pair_right_5 : SW := (sSeq (sIf (tBorrow 2 (tNotW (tB (wCB bAll (wCons (wOfL (lComp (iSeq (wVar 2)) (gTupW (gConsW (gNm 8) (gConsW (gNm 9) (gConsW (gNm 10) gNilW)))) tYesW (wCall spec__law_means (wCons (wVar 8) (wCons (wVar 9) (wCons (wVar 10) wNil)))) [8, 9, 10])) wNil)))))
  (sRet (wC (.bl false)))
  sNext)
  w__law_pair_right_6)
def w__law_pair_right_4 : SW := (sSeq (sIf (tB (wBin bNe (wVar 6) (wC (.int 0))))
  (sFreeze 2 (sSetL 2 (lCat (wVar 2) (wLst (wCons (wLst (wCons (wCall spec_over (wCons (wVar 0) (wCons (wVar 1) wNil))) (wCons (wBin bMul (wVar 4) (wVar 7)) (wCons (wBin bMul (wVar 5) (wVar 6)) wNil)))) (wCons (wLst (wCons (wCallK spec_over [1, 0] (wCons (wVar 1) (wCons (wVar 0) wNil))) (wCons (wBin bMul (wVar 4) (wVar 7)) (wCons (wBin bMul (wVar 5) (wVar 6)) wNil)))) wNil))))))
  sNext)
  w__law_pair_right_5)
def w__law_pair_right_3 : SW := (sSeq (sAppend 2 (wLst (wCons (wCallK spec_times [1, 0] (wCons (wVar 1) (wCons (wVar 0) wNil))) (wCons (wBin bMul (wVar 4) (wVar 6)) (wCons (wBin bMul (wVar 5) (wVar 7)) wNil)))))
  w__law_pair_right_4)
def w__law_pair_right_2 : SW := (sFreeze 2 (sSeq (sSetL 2 (lCat (wVar 2) (wLst (wCons (wLst (wCons (wCallK spec_plus [1, 0] (wCons (wVar 1) (wCons (wVar 0) wNil))) (wCons (wBin bAdd (wBin bMul (wVar 4) (wVar 7)) (wBin bMul (wVar 6) (wVar 5))) (wCons (wBin bMul (wVar 5) (wVar 7)) wNil)))) (wCons (wLst (wCons (wCallK spec_minus [1, 0] (wCons (wVar 1) (wCons (wVar 0) wNil))) (wCons (wBin bSub (wBin bMul (wVar 4) (wVar 7)) (wBin bMul (wVar 6) (wVar 5))) (wCons (wBin bMul (wVar 5) (wVar 7)) wNil)))) wNil)))))
  w__law_pair_right_3))
def w__law_pair_right_1 : SW := (sSeq (sSetL 2 (lLst (wCons (wLst (wCons (wCall spec_plus (wCons (wVar 0) (wCons (wVar 1) wNil))) (wCons (wBin bAdd (wBin bMul (wVar 4) (wVar 7)) (wBin bMul (wVar 6) (wVar 5))) (wCons (wBin bMul (wVar 5) (wVar 7)) wNil)))) (wCons (wLst (wCons (wCall spec_minus (wCons (wVar 0) (wCons (wVar 1) wNil))) (wCons (wBin bSub (wBin bMul (wVar 4) (wVar 7)) (wBin bMul (wVar 6) (wVar 5))) (wCons (wBin bMul (wVar 5) (wVar 7)) wNil)))) (wCons (wLst (wCons (wCall spec_times (wCons (wVar 0) (wCons (wVar 1) wNil))) (wCons (wBin bMul (wVar 4) (wVar 6)) (wCons (wBin bMul (wVar 5) (wVar 7)) wNil)))) wNil)))))
  w__law_pair_right_2)
def w__law_pair_right : SW := (sSeq (sAsg (wTup (wCons (wBin bIx (wVar 0) (wC (.int 0))) (wCons (wBin bIx (wVar 0) (wC (.int 1))) (wCons (wBin bIx (wVar 1) (wC (.int 0))) (wCons (wBin bIx (wVar 1) (wC (.int 1))) wNil))))) (gTupW (gConsW (gNm 4) (gConsW (gNm 5) (gConsW (gNm 6) (gConsW (gNm 7) gNilW))))))
  w__law_pair_right_1)

def w__law_plus : SW := (sRet (wCall spec__law_low (wCons (wBin bAdd (wBin bMul (wBin bIx (wVar 0) (wC (.int 0))) (wBin bIx (wVar 1) (wC (.int 1)))) (wBin bMul (wBin bIx (wVar 1) (wC (.int 0))) (wBin bIx (wVar 0) (wC (.int 1))))) (wCons (wBin bMul (wBin bIx (wVar 0) (wC (.int 1))) (wBin bIx (wVar 1) (wC (.int 1)))) wNil))))

def w_sum_of_3 : SW := (sSeq (sFor (iSeq (wVar 0)) (gNm 2)
  (sAsg (wCall spec_lowest (wCons (wBin bAdd (wBin bMul (wBin bIx (wVar 1) (wC (.int 0))) (wBin bIx (wVar 2) (wC (.int 1)))) (wBin bMul (wBin bIx (wVar 2) (wC (.int 0))) (wBin bIx (wVar 1) (wC (.int 1))))) (wCons (wBin bMul (wBin bIx (wVar 1) (wC (.int 1))) (wBin bIx (wVar 2) (wC (.int 1)))) wNil))) (gNm 1)))
  (sRet (wVar 1)))
def w_sum_of_2 : SW := (sSeq (sAsg (wC c_NOUGHT) (gNm 1))
  w_sum_of_3)
def w_sum_of_1 : SW := (sSeq (sDrop (wCall spec_check_fractions (wCons (wVar 0) wNil)))
  w_sum_of_2)
def w_sum_of : SW := (sSeq (sIf (tNotW (tB (wUn (bIsi "tuple") (wVar 0))))
  sNever
  sNext)
  w_sum_of_1)

def w_fraction : SW := (sSeq (sIf (tOrW (tNotW (tB (wCall spec_is_integer (wCons (wVar 0) wNil)))) (tOrW (tNotW (tB (wCall spec_is_integer (wCons (wVar 1) wNil)))) (tB (wBin bEq (wVar 1) (wC (.int 0))))))
  sNever
  sNext)
  (sRet (wCall spec_lowest (wCons (wVar 0) (wCons (wVar 1) wNil)))))

def w_law_L20 : SW := (sSeq (sAsg (wLst (wCons (wCall spec_sum_of (wCons (wCB bTuple (wCons (wVar 6) wNil)) wNil)) (wCons (wCall spec_sum_of (wCons (wCB bTuple (wCons (wUn bRev (wVar 6)) wNil)) wNil)) (wCons (wCallK spec_sum_of [0] (wCons (wCB bTuple (wCons (wOfL (lCB bSorted (wCons (wVar 6) wNil))) wNil)) wNil)) wNil)))) (gNm 9))
  (sIf (tNotW (tB (wCall (spec__law_alike 6) (wCons (wVar 9) (wCons (wLst (wCons (wVar 7) (wCons (wVar 7) (wCons (wVar 7) wNil)))) wNil)))))
  (sRet (wC (.bl false)))
  sNext))
def w_law_L18 : SW := (sSeq (sFor (iSeq (wVar 6)) (gNm 8)
  (sAsg (wCall spec__law_plus (wCons (wVar 7) (wCons (wVar 8) wNil))) (gNm 7)))
  w_law_L20)
def w_law_L17 : SW := (sSeq (sAsg (wTup (wCons (wC (.int 0)) (wCons (wC (.int 1)) wNil))) (gNm 7))
  w_law_L18)
def w_law_L16 : SW := (sSeq (sAsg (wOfL (lComp (iRange1 (wCall spec__law_drop (wConsS 1 (wCons (wBin bIx (wLst (wCons (wC (.int 10)) (wCons (wC (.int 31)) wNil))) (wCB bInt (wCons (wBin bEq (wVar 2) (wC (.int 0))) wNil))) wNil)))) (gNm 12) tYesW (wCall spec__law_any (wConsS 1 wNil)) [12])) (gNm 6))
  w_law_L17)
def w_law_L12 : SW := (sSeq (sFor (iSeq (wBin bAdd (wVar 4) (wLst (wCons (wTup (wCons (wC (.int 1)) (wCons (wC (.bl true)) wNil))) (wCons (wTup (wCons (wC (.int 1)) wNil)) (wCons (wTup wNil) (wCons (wTup (wCons (wC (.str "1")) (wCons (wC (.int 2)) wNil))) (wCons (wTup (wCons (wVar 10) (wCons (wVar 10) wNil))) (wCons (wTup (wCons (wC (.int 0)) (wCons (wC (.int 1)) wNil))) (wCons (wTup (wCons (wBin bIx (wVar 10) (wC (.int 1))) (wCons (wBin bIx (wVar 10) (wC (.int 0))) wNil))) wNil)))))))))) (gNm 5)
  (sSeq (sAsg (wCall spec__law_is (wCons (wVar 5) wNil)) (gNm 7))
  (sIf (tNotW (tB (wCall (spec__law_alike 6) (wCons (wLst (wCons (wCall spec_is_fraction (wCons (wVar 5) wNil)) (wCons (wCallK spec_is_fraction [0] (wCons (wVar 5) wNil)) wNil))) (wCons (wLst (wCons (wVar 7) (wCons (wVar 7) wNil))) wNil)))))
  (sRet (wC (.bl false)))
  sNext)))
  w_law_L16)
def w_law_L11 : SW := (sSeq (sAsg (wLst (wCons (wVar 10) (wCons (wTup (wCons (wBin bMul (wBin bIx (wVar 10) (wC (.int 0))) (wC (.int 2))) (wCons (wBin bMul (wBin bIx (wVar 10) (wC (.int 1))) (wC (.int 2))) wNil))) (wCons (wTup (wCons (wBin bIx (wVar 10) (wC (.int 0))) (wCons (wUn bNeg (wBin bIx (wVar 10) (wC (.int 1)))) wNil))) (wCons (wTup (wCons (wBin bIx (wVar 10) (wC (.int 0))) (wCons (wC (.int 0)) wNil))) (wCons (wTup (wCons (wC (.int 0)) (wCons (wBin bIx (wVar 10) (wC (.int 1))) wNil))) (wCons (wOfL (lCB bList (wCons (wVar 10) wNil))) (wCons (wBin bAdd (wVar 10) (wTup (wCons (wC (.int 1)) wNil))) (wCons (wBin bIx (wVar 10) (wC (.int 0))) (wCons (wC .non) (wCons (wC (.str "1/2")) (wCons (wTup (wCons (wC (.bl true)) (wCons (wC (.int 1)) wNil))) wNil)))))))))))) (gNm 4))
  w_law_L12)
def w_law_L9 : SW := (sSeq (sIf (tNotW (tB (wCall (spec__law_alike 6) (wCons (wLst (wCons (wCall spec_fraction (wCons (wBin bMul (wBin bIx (wVar 10) (wC (.int 0))) (wVar 3)) (wCons (wBin bMul (wBin bIx (wVar 10) (wC (.int 1))) (wVar 3)) wNil))) (wCons (wCallK spec_fraction [1, 0] (wCons (wBin bMul (wBin bIx (wVar 10) (wC (.int 1))) (wVar 3)) (wCons (wBin bMul (wBin bIx (wVar 10) (wC (.int 0))) (wVar 3)) wNil))) wNil))) (wCons (wLst (wCons (wVar 10) (wCons (wVar 10) wNil))) wNil)))))
  (sRet (wC (.bl false)))
  sNext)
  w_law_L11)
def w_law_L8 : SW := (sSeq (sAsg (wBin bIx (wLst (wCons (wC (.int 1)) (wCons (wUn bNeg (wC (.int 1))) (wCons (wC (.int 2)) (wCons (wUn bNeg (wC (.int 6))) (wCons (wC (.int 100)) (wCons (wBin bPow (wC (.int 10)) (wC (.int 12))) wNil))))))) (wCall spec__law_drop (wConsS 1 (wCons (wC (.int 6)) wNil)))) (gNm 3))
  w_law_L9)
def w_law_L6 : SW := (sSeq (sIf (tNotW (tB (wCall spec__law_pair_right (wCons (wVar 10) (wCons (wBin bIx (wLst (wCons (wVar 10) (wCons (wVar 11) (wCons (wVar 11) (wCons (wTup (wCons (wUn bNeg (wBin bIx (wVar 10) (wC (.int 0)))) (wCons (wBin bIx (wVar 10) (wC (.int 1))) wNil))) wNil))))) (wCall spec__law_drop (wConsS 1 (wCons (wC (.int 4)) wNil)))) wNil)))))
  (sRet (wC (.bl false)))
  sNext)
  w_law_L8)
def w_law_L4 : SW := (sSeq (sIf (tNotW (tB (wCall spec__law_handed_on_right (wCons (wVar 10) (wCons (wVar 11) (wCons (wCall spec__law_any (wConsS 1 wNil)) wNil))))))
  (sRet (wC (.bl false)))
  sNext)
  w_law_L6)
def w_law : SW := (sSeq (sFor (iRange1 (wC (.int 8))) (gNm 2)
  (sSeq (sPar [10, 11] (wCons (wCall spec__law_any (wConsS 1 wNil)) (wCons (wCall spec__law_any (wConsS 1 wNil)) wNil)))
  w_law_L4))
  (sRet (wC (.bl true))))
end DL
set_option linter.all false
set_option autoImplicit false
set_option maxHeartbeats 4000000
set_option maxRecDepth 100000
namespace DL
open PySem PySem.Spec PyProof.Rows L2
theorem vc_is_integer : VC w_is_integer 1 spec_is_integer := by
  rintro ss Q Xe ⟨d, rfl, h, q⟩
  show w_is_integer _ _ [.d d]
  cases d with
  | ins _ _ _ => cases h
  | _ => exact q
theorem gcd_loop {X : XD} {DD : DEnds} {wr : Nat} (a b : Int) (ha : 0 ≤ a) (hb : 0 ≤ b) (q : ∀ u : Int, u = (Int.gcd a b : Int) → DD.nx [.d (.int u), .d (.int 0)]) :
    sWhile (DL.tB (wBin bGt (wVar 1) (wC (.int 0)))) (sPar [0, 1] (wCons (wVar 1) (wCons (wBin bMod (wVar 0) (wVar 1)) wNil))) X DD [.d (.int a), .d (.int b)] := by
  refine ⟨fun m ρ => ∃ x y : Int, ρ = [.d (.int x), .d (.int y)] ∧ 0 ≤ x ∧ 0 ≤ y ∧ y.toNat = m ∧ Int.gcd x y = Int.gcd a b, ⟨b.toNat, a, b, rfl, ha, hb, rfl, rfl⟩, ?_⟩
  rintro m ρ ⟨x, y, rfl, hx, hy, hm, hg⟩
  refine ite2 (fun z => ?_) fun z => ?_
  · have hy0 : 0 < y := of_decide_eq_true z
    refine ⟨hy0, (x % y).toNat, ?_, y, x % y, rfl, by omega, Int.emod_nonneg _ (by omega), rfl, ?_⟩
    · have := Int.emod_lt_of_pos x hy0
      have := Int.emod_nonneg x (show y ≠ 0 by omega)
      omega
    · rw [gcd_step hx hy0, hg]
  · have hy0 : ¬ 0 < y := fun k => z (decide_eq_true k)
    have e : y = 0 := by omega
    subst e
    refine q x ?_
    rw [← hg, Int.gcd_zero_right]
    omega
theorem vc_common : VC w_common 2 spec_common := by
  rintro ss Q Xe ⟨x, y, rfl, a, b, rfl, rfl, ha, hb, q⟩
  exact gcd_loop (wr := 0) a b ha hb fun u e => by
    subst e
    exact q
theorem vc_lowest : VC w_lowest 3 spec_lowest := by
  rintro ss Q Xe ⟨x, y, rfl, a, b, rfl, rfl, hb, hlog, q⟩
  refine ⟨_, _, rfl, (if a < 0 then -a else a), (if b < 0 then -b else b), rfl, rfl, by split <;> omega, by split <;> omega, ?_⟩
  have e1 : (if a < 0 then -a else a) = (a.natAbs : Int) := by split <;> omega
  have e2 : (if b < 0 then -b else b) = (b.natAbs : Int) := by split <;> omega
  rw [e1, e2]
  have eg : Int.gcd (a.natAbs : Int) (b.natAbs : Int) = Int.gcd a b := rfl
  rw [eg]
  have fin : ∀ f : Int, f = (Int.gcd a b : Int) * (if 0 < b then 1 else -1) → (f ≠ 0 ∧ f.natAbs.log2 < 9000) ∧ (f ≠ 0 ∧ f.natAbs.log2 < 9000) ∧ 2 ≤ 100000 ∧ Q (.d (.tup [.int (a.fdiv f), .int (b.fdiv f)])) := fun f hf => by
    obtain ⟨h1, h2, h3⟩ := low_parts (top := a) hb hf
    have hn : f.natAbs = Int.gcd a b := by
      rw [hf]
      split <;> omega
    have hl : f.natAbs.log2 < 9000 := by
      rw [hn]
      refine Nat.lt_of_le_of_lt ?_ hlog
      rw [Nat.le_log2 (by omega)]
      exact Nat.le_trans (Nat.log2_self_le (Nat.pos_iff_ne_zero.mp (gcd_pos hb))) (gcd_le hb)
    rw [h2, h3]
    exact ⟨⟨h1, hl⟩, ⟨h1, hl⟩, by decide, q⟩
  refine ite2 (fun z => ?_) fun z => ?_
  · have hp : 0 < b := of_decide_eq_true z
    exact ⟨.inr (.inl (by decide)), fin _ (by rw [if_pos hp])⟩
  · have hp : ¬ 0 < b := fun k => z (decide_eq_true k)
    exact ⟨.inr (.inl (by decide)), fin _ (by rw [if_neg hp])⟩
theorem vc_fraction : VC w_fraction 2 spec_fraction := by
  rintro ss Q Xe ⟨x, y, rfl, a, b, rfl, rfl, hb, hlog, q⟩
  refine ⟨_, rfl, rfl, _, rfl, rfl, by rfl, by rfl, ?_⟩
  have e : peq (.int b) (.int 0) = false := by
    simp only [peq]
    exact beq_false_of_ne hb
  rw [e]
  exact ⟨_, _, rfl, a, b, rfl, rfl, hb, hlog, q⟩
/-- parts of a fraction that stands in a slot -/
theorem vc_is_fraction : VC w_is_fraction 1 spec_is_fraction := by
  rintro ss Q Xe ⟨d, rfl, h, q⟩
  show w_is_fraction _ _ [.d d]
  cases d with
  | ins _ _ _ => simp [plain] at h
  | tup xs =>
    refine ⟨rfl, rfl, ?_⟩
    rw [peq_int]
    rcases bcases (decide ((xs.length : Int) = 2)) with e | e
    · have hl : xs.length = 2 := by
        have := of_decide_eq_true e
        omega
      obtain ⟨x, y, rfl⟩ := len2 hl
      have hx : plain 39 x = true := plain_at (by simpa only [plain] using h) x (by simp)
      have hy : plain 39 y = true := plain_at (by simpa only [plain] using h) y (by simp)
      refine ⟨x, rfl, plain_ty hx, ?_⟩
      rcases bcases (isInt x) with e1 | e1
      · obtain ⟨i, rfl⟩ := isInt_of e1
        refine ⟨y, rfl, plain_ty hy, ?_⟩
        rcases bcases (isInt y) with e2 | e2
        · obtain ⟨j, rfl⟩ := isInt_of e2
          show if decide (0 < j) = true then _ else _
          refine ite2 (fun z => ?_) fun z => ?_
          · have hj : 0 < j := of_decide_eq_true z
            refine ⟨_, _, rfl, _, _, rfl, rfl, by split <;> omega, by omega, rfl, rfl, ?_⟩
            have e3 : (if i < 0 then -i else i) = (i.natAbs : Int) := by split <;> omega
            rw [e3]
            show Q (.d (.bl (peq (.int (Int.gcd (i.natAbs : Int) j : Int)) (.int 1))))
            rw [peq_int]
            have e4 : decide ((Int.gcd (i.natAbs : Int) j : Int) = 1) = isFr (.tup [.int i, .int j]) := by
              show _ = decide _
              have : Int.gcd (i.natAbs : Int) j = Int.gcd i j := rfl
              rw [this]
              by_cases hg : Int.gcd i j = 1
              · simp [hg, hj]
              · rw [decide_eq_false (show ¬ ((Int.gcd i j : Int) = 1) by omega), decide_eq_false (fun k => hg k.2)]
            rw [e4]
            exact q
          · have e4 : isFr (.tup [.int i, .int j]) = false := by
              show decide _ = false
              have hj : ¬ 0 < j := fun k => z (decide_eq_true k)
              simp [hj]
            rw [e4] at q
            exact q
        · rw [isFr_no2 e2] at q
          rw [e2]
          exact q
      · rw [isFr_no1 e1] at q
        rw [e1]
        exact q
    · rw [isFr_len (fun k => of_decide_eq_false e (by omega))] at q
      rw [e]
      exact q
  | _ => exact q
theorem bools_fr : ∀ {xs : List D}, (∀ x ∈ xs, x = .bl true) → ∃ bs, bools xs = some bs ∧ bs.all id = true := fun {xs} h => ⟨_, bools_all h, all_replicate _⟩
theorem vc_check_fractions : VC w_check_fractions 2 spec_check_fractions := by
  rintro ss Q Xe ⟨d, rfl, qs, hd, hl, q⟩
  show w_check_fractions _ _ [.d d, .un]
  have key : ∀ xs : List D, xs = frs qs → compGo (gNm 1) tYesW (wCall spec_is_fraction (wCons (wVar 1) wNil)) [.d d, .un] (fun xs => (match bools xs with
    | some bs => (fun (x : D) => match x with
      | .bl k => if (!k) = true then sNever (fun _ => Xe) { nx := fun _ => Q (.d .non), rt := Q } [.d d, .un] else Q (.d .non)
      | _ => False) (D.bl (bs.all id))
    | none => False)) xs [] := fun xs e => by
    subst e
    refine compGo_map (fun _ y => y = D.bl true) _ _ (fun x hx Q' q1 => ?_) (by simp [frs]; omega) fun ys hys => ?_
    · obtain ⟨p, hp, rfl⟩ := List.mem_map.mp hx
      refine ⟨_, rfl, plain_fr _ _, ?_⟩
      rw [isFr_fr]
      exact q1 _ rfl
    · obtain ⟨bs, e1, e2⟩ := bools_fr (xs := ys) fun y hy => (all2_mem hys y hy).elim fun x hx => hx.2
      rw [List.nil_append, e1]
      show if (!bs.all id) = true then _ else _
      rw [e2]
      exact q
  cases d with
  | tup xs => exact key xs (Option.some.inj hd)
  | lst xs => exact key xs (Option.some.inj hd)
  | _ => cases hd
theorem vc_plus : VC w_plus 2 spec_plus := by
  intro ss Q Xe h
  obtain ⟨x, y, rfl, p, q, n, m, rfl, rfl, hp, hq, hn, h⟩ := op_el h
  refine ⟨(show 2 ≤ 100000 by decide), _, rfl, [p, q], rfl, (show 2 ≤ 50000 by decide), ?_⟩
  refine ⟨imul_sz hp.1 hq.den (by omega), imul_sz hq.1 hp.den (by omega), imul_sz hp.den hq.den (by omega), _, _, rfl, _, _, rfl, rfl, Int.mul_ne_zero (den_nz p) (den_nz q), log_lt (abs_mul_lt hp.den hq.den) (by omega), ?_⟩
  rw [add_rat]
  exact h
theorem vc__law_plus : VC w__law_plus 2 spec__law_plus := by
  intro ss Q Xe h
  obtain ⟨x, y, rfl, p, q, n, m, rfl, rfl, hp, hq, hn, h⟩ := op_el h
  refine ⟨imul_sz hp.1 hq.den (by omega), imul_sz hq.1 hp.den (by omega), imul_sz hp.den hq.den (by omega), _, _, rfl, _, _, rfl, rfl, Int.mul_ne_zero (den_nz p) (den_nz q), log_lt (abs_mul_lt hp.den hq.den) (by omega), ?_⟩
  rw [add_rat]
  exact h
theorem vc_minus : VC w_minus 2 spec_minus := by
  intro ss Q Xe h
  obtain ⟨x, y, rfl, p, q, n, m, rfl, rfl, hp, hq, hn, h⟩ := op_el h
  refine ⟨(show 2 ≤ 100000 by decide), _, rfl, [p, q], rfl, (show 2 ≤ 50000 by decide), ?_⟩
  refine ⟨imul_sz hp.1 hq.den (by omega), imul_sz hq.1 hp.den (by omega), imul_sz hp.den hq.den (by omega), _, _, rfl, _, _, rfl, rfl, Int.mul_ne_zero (den_nz p) (den_nz q), log_lt (abs_mul_lt hp.den hq.den) (by omega), ?_⟩
  rw [sub_rat]
  exact h
theorem vc_times : VC w_times 2 spec_times := by
  intro ss Q Xe h
  obtain ⟨x, y, rfl, p, q, n, m, rfl, rfl, hp, hq, hn, h⟩ := op_el h
  refine ⟨(show 2 ≤ 100000 by decide), _, rfl, [p, q], rfl, (show 2 ≤ 50000 by decide), ?_⟩
  refine ⟨imul_sz hp.1 hq.1 (by omega), imul_sz hp.den hq.den (by omega), _, _, rfl, _, _, rfl, rfl, Int.mul_ne_zero (den_nz p) (den_nz q), log_lt (abs_mul_lt hp.den hq.den) (by omega), ?_⟩
  rw [mul_rat]
  exact h
theorem vc_over : VC w_over 2 spec_over := by
  intro ss Q Xe h
  obtain ⟨x, y, rfl, p, q, n, m, rfl, rfl, hz, hp, hq, hn, h⟩ := over_el h
  refine ⟨(show 2 ≤ 100000 by decide), _, rfl, [p, q], rfl, (show 2 ≤ 50000 by decide), rfl, rfl, ?_⟩
  have e : peq (.int q.num) (.int 0) = false := by
    rw [peq_int]
    exact decide_eq_false (num_nz hz)
  rw [e]
  refine ⟨imul_sz hp.1 hq.den (by omega), imul_sz hp.den hq.1 (by omega), _, _, rfl, _, _, rfl, rfl, Int.mul_ne_zero (den_nz p) (num_nz hz), log_lt (abs_mul_lt hp.den hq.1) (by omega), ?_⟩
  rw [div_rat p q hz]
  exact h
theorem vc_below : VC w_below 2 spec_below := by
  intro ss Q Xe h
  obtain ⟨x, y, rfl, p, q, n, m, rfl, rfl, hp, hq, hn, h⟩ := op_el h
  refine ⟨(show 2 ≤ 100000 by decide), _, rfl, [p, q], rfl, (show 2 ≤ 50000 by decide), ?_⟩
  refine ⟨imul_sz hp.1 hq.den (by omega), imul_sz hq.1 hp.den (by omega), ?_⟩
  have e : decide (p < q) = decide (p.num * (q.den : Int) < q.num * (p.den : Int)) := by
    rw [decide_eq_decide]
    exact Rat.lt_iff p q
  have h : Q (.d (.bl (decide (p < q)))) := h
  rw [e] at h
  exact h
theorem low_loop {X : XD} {DD : DEnds} {u v : SV} (a b : Int) (ha : 0 ≤ a) (hb : 0 ≤ b) (q : ∀ r : Int, r = (Int.gcd a b : Int) → DD.nx [u, v, .d (.int r), .d (.int 0)]) :
    sWhile (DL.tB (wBin bGt (wVar 3) (wC (.int 0)))) (sPar [2, 3] (wCons (wVar 3) (wCons (wBin bMod (wCB bInt (wCons (wVar 2) wNil)) (wVar 3)) wNil))) X DD [u, v, .d (.int a), .d (.int b)] := by
  refine ⟨fun m ρ => ∃ x y : Int, ρ = [u, v, .d (.int x), .d (.int y)] ∧ 0 ≤ x ∧ 0 ≤ y ∧ y.toNat = m ∧ Int.gcd x y = Int.gcd a b, ⟨b.toNat, a, b, rfl, ha, hb, rfl, rfl⟩, ?_⟩
  rintro m ρ ⟨x, y, rfl, hx, hy, hm, hg⟩
  refine ite2 (fun z => ?_) fun z => ?_
  · have hy0 : 0 < y := of_decide_eq_true z
    refine ⟨hy0, (x % y).toNat, ?_, y, x % y, rfl, by omega, Int.emod_nonneg _ (by omega), rfl, ?_⟩
    · have := Int.emod_lt_of_pos x hy0
      have := Int.emod_nonneg x (show y ≠ 0 by omega)
      omega
    · rw [gcd_step hx hy0, hg]
  · have hy0 : ¬ 0 < y := fun k => z (decide_eq_true k)
    have e : y = 0 := by omega
    subst e
    refine q x ?_
    rw [← hg, Int.gcd_zero_right]
    omega
/-- how both ways to lowest terms end -/
theorem low_fin {Q : RV → Prop} {a b : Int} (hb : b ≠ 0) (hlog : b.natAbs.log2 < 9000) (q : Q (.d (fr (rat a b)))) : ∀ f : Int, f = (Int.gcd a b : Int) * (if 0 < b then 1 else -1) → (f ≠ 0 ∧ f.natAbs.log2 < 9000) ∧ (f ≠ 0 ∧ f.natAbs.log2 < 9000) ∧ 2 ≤ 100000 ∧ Q (.d (.tup [.int (a.fdiv f), .int (b.fdiv f)])) := fun f hf => by
  obtain ⟨h1, h2, h3⟩ := low_parts (top := a) hb hf
  have hn : f.natAbs = Int.gcd a b := by
    rw [hf]
    split <;> omega
  have hl : f.natAbs.log2 < 9000 := by
    rw [hn]
    refine Nat.lt_of_le_of_lt ?_ hlog
    rw [Nat.le_log2 (by omega)]
    exact Nat.le_trans (Nat.log2_self_le (Nat.pos_iff_ne_zero.mp (gcd_pos hb))) (gcd_le hb)
  rw [h2, h3]
  exact ⟨⟨h1, hl⟩, ⟨h1, hl⟩, by decide, q⟩
theorem vc__law_low : VC w__law_low 4 spec__law_low := by
  rintro ss Q Xe ⟨x, y, rfl, a, b, rfl, rfl, hb, hlog, q⟩
  refine low_loop (if a < 0 then -a else a) (if b < 0 then -b else b) (by split <;> omega) (by split <;> omega) fun r hr => ?_
  have e1 : (if a < 0 then -a else a) = (a.natAbs : Int) := by split <;> omega
  have e2 : (if b < 0 then -b else b) = (b.natAbs : Int) := by split <;> omega
  rw [e1, e2] at hr
  have eg : Int.gcd (a.natAbs : Int) (b.natAbs : Int) = Int.gcd a b := rfl
  rw [eg] at hr
  refine ite2 (fun z => ?_) fun z => ?_
  · have hp : 0 < b := of_decide_eq_true z
    exact low_fin hb hlog q _ (by rw [if_pos hp]; omega)
  · have hp : ¬ 0 < b := fun k => z (decide_eq_true k)
    exact low_fin hb hlog q _ (by rw [if_neg hp]; omega)
theorem vc__law_kinds : VC w__law_kinds 2 spec__law_kinds := by
  rintro ss Q Xe ⟨d, rfl, h, q⟩
  cases d with
  | ins _ _ _ => cases h
  | _ => exact ⟨(show 3 ≤ 100000 by decide), (show 3 ≤ 100000 by decide), (show 6 ≤ 100000 by decide), q⟩
theorem len__law_alike (n : Nat) : ∀ ss Q Xe, spec__law_alike n ss Q Xe → ss.length = 2 := len_S2
theorem vc0__law_alike : VC sNever 3 (spec__law_alike 0) := by
  rintro ss Q Xe ⟨x, y, rfl, rfl, h, q⟩
  simp [short] at h
theorem bAll_true {ys : List D} {Q : D → Prop} (h : ∀ y ∈ ys, y = .bl true) (q : Q (.bl true)) : bAll [.lst ys] Q := by
  obtain ⟨bs, e1, e2⟩ := bools_fr h
  show match bools ys with
    | some bs => Q (.bl (bs.all id))
    | none => False
  rw [e1]
  show Q (.bl (bs.all id))
  rw [e2]
  exact q
theorem mem_range {lo : Int} {n : Nat} {x : D} (h : x ∈ rangeD lo n) : ∃ k : Nat, k < n ∧ x = .int (lo + k) := by
  obtain ⟨k, hk, rfl⟩ := List.mem_map.mp h
  exact ⟨k, List.mem_range.mp hk, rfl⟩
theorem alike_seq {n : Nat} {xs : List D} {d : D} (hd : seqD d = some xs) (h : shortL n xs = true) {X : XD} {Q : D → Prop} (hl : xs.length ≤ 1000) (q : Q (.bl true)) :
    wCB bAll (wCons (wOfL (lComp (iRange1 (wCB bLen (wCons (wVar 1) wNil))) (gNm 2) tYesW (wCall (spec__law_alike n) (wCons (wBin bIx (wVar 0) (wVar 2)) (wCons (wBin bIx (wVar 1) (wVar 2)) wNil))) [2])) wNil) X [.d d, .d d, .un] Q := by
  have key : compGo (gNm 2) tYesW (wCall (spec__law_alike n) (wCons (wBin bIx (wVar 0) (wVar 2)) (wCons (wBin bIx (wVar 1) (wVar 2)) wNil))) [.d d, .d d, .un] (fun ys => bAll [.lst ys] Q) (rangeD 0 (xs.length : Int).toNat) [] := by
    refine compGo_map (fun _ y => y = D.bl true) _ _ (fun x hx Q' q1 => ?_) (by rw [rangeD_len]; simp; omega) fun ys hys => ?_
    · obtain ⟨k, hk, rfl⟩ := mem_range hx
      have hk : k < xs.length := by omega
      have hat : atI xs (0 + (k : Int)) = some xs[k] := by
        rw [Int.zero_add]
        exact atI_nat (List.getElem?_eq_getElem hk)
      have hs := shortL_at h xs[k] (List.getElem_mem hk)
      have fin : spec__law_alike n [.d xs[k], .d xs[k]] (fun r => Q' r.toD) (fun _ => False) := ⟨_, _, rfl, rfl, hs, q1 _ rfl⟩
      cases d with
      | tup zs =>
        cases hd
        show match atI xs (0 + (k : Int)) with
          | some x => match atI xs (0 + (k : Int)) with
            | some y => spec__law_alike n [.d x, .d y] (fun r => Q' r.toD) (fun _ => False)
            | none => False
          | none => False
        rw [hat]
        exact fin
      | lst zs =>
        cases hd
        show match atI xs (0 + (k : Int)) with
          | some x => match atI xs (0 + (k : Int)) with
            | some y => spec__law_alike n [.d x, .d y] (fun r => Q' r.toD) (fun _ => False)
            | none => False
          | none => False
        rw [hat]
        exact fin
      | _ => cases hd
    · rw [List.nil_append]
      exact bAll_true (fun y hy => (all2_mem hys y hy).elim fun x hx => hx.2) q
  cases d with
  | tup zs =>
    cases hd
    exact ⟨⟨by omega, by omega⟩, key⟩
  | lst zs =>
    cases hd
    exact ⟨⟨by omega, by omega⟩, key⟩
  | _ => cases hd
theorem kinds_plain (d : D) : plain 40 (kinds d) = true := by simp [kinds, plain, plainL]
theorem vc__law_alike (n : Nat) : VC (w__law_alike n) 3 (spec__law_alike (n + 1)) := by
  rintro ss Q Xe ⟨x, y, rfl, rfl, h, q⟩
  have hp : ∀ z : D, short (n + 1) z = true → plain (n + 1) z = true := fun z => short_plain _ _ z (Nat.le_refl _)
  have ht := plain_ty (hp x h)
  refine ⟨_, rfl, ht, _, rfl, ht, kinds_plain x, kinds_plain x, ?_⟩
  have e1 : peq (kinds x) (kinds x) = true := peq_refl _ 40 (kinds_plain x)
  dsimp only [RV.toD]
  rw [e1]
  have one : ∀ m : Int, peq (.int m) (.int m) = true := fun m => by
    rw [peq_int]
    exact decide_eq_true rfl
  cases x with
  | ins _ _ _ => cases ht
  | tup xs =>
    simp only [short, Bool.and_eq_true, decide_eq_true_eq] at h
    refine ⟨rfl, rfl, ?_⟩
    rw [one]
    exact alike_seq rfl h.2 h.1 q
  | lst xs =>
    simp only [short, Bool.and_eq_true, decide_eq_true_eq] at h
    refine ⟨rfl, rfl, ?_⟩
    rw [one]
    exact alike_seq rfl h.2 h.1 q
  | non => exact ⟨rfl, rfl, q⟩
  | bl b =>
    refine ⟨rfl, rfl, ?_⟩
    rw [peq_refl _ 1 rfl]
    exact q
  | int b =>
    refine ⟨rfl, rfl, ?_⟩
    rw [one]
    exact q
  | str b =>
    have hb : plain 40 (.str b) = true := by
      simp only [short] at h
      simp only [plain]
      exact h
    refine ⟨hb, hb, ?_⟩
    rw [peq_refl _ 40 hb]
    exact q
theorem isFr_low {i j : Int} (hj : 0 < j) : peq (fr (rat i j)) (.tup [.int i, .int j]) = isFr (.tup [.int i, .int j]) := by
  have e1 : (rat i j).num = i / (Int.gcd j i : Int) := by
    unfold rat
    rw [Rat.num_divInt, Int.sign_eq_one_of_pos hj, Int.one_mul]
  have e2 : (rat i j).den = j.natAbs / Int.gcd j i := by
    unfold rat
    rw [Rat.den_divInt, if_neg (by omega)]
  show (((rat i j).num == i) && (((rat i j).den : Int) == j && true)) = decide (0 < j ∧ Int.gcd i j = 1)
  by_cases hg : Int.gcd i j = 1
  · have hg2 : Int.gcd j i = 1 := by rw [Int.gcd_comm]; exact hg
    rw [hg2] at e1 e2
    rw [e1, e2, decide_eq_true ⟨hj, hg⟩]
    have a1 : i / ((1 : Nat) : Int) = i := by simp
    have a2 : ((j.natAbs / 1 : Nat) : Int) = j := by
      rw [Nat.div_one]
      omega
    rw [a1, a2]
    simp
  · rw [decide_eq_false (fun k => hg k.2)]
    rw [Bool.and_eq_false_iff]
    by_cases h1 : (rat i j).num = i
    · right
      rw [Bool.and_true]
      refine beq_false_of_ne fun h2 => hg ?_
      have r := (rat i j).reduced
      rw [h1] at r
      have h3 : (rat i j).den = j.natAbs := by omega
      rw [h3] at r
      exact r
    · left
      exact beq_false_of_ne h1
theorem vc__law_is : VC w__law_is 2 spec__law_is := by
  rintro ss Q Xe ⟨d, rfl, h, hb, q⟩
  cases d with
  | ins _ _ _ => simp [plain] at h
  | tup xs =>
    refine ⟨rfl, rfl, ?_⟩
    rw [peq_int]
    rcases bcases (decide ((xs.length : Int) = 2)) with e | e
    · have hl : xs.length = 2 := by
        have := of_decide_eq_true e
        omega
      obtain ⟨x, y, rfl⟩ := len2 hl
      have h2 : plainL 39 [x, y] = true := by simpa only [plain] using h
      have hx : plain 39 x = true := plain_at h2 x (by simp)
      have hy : plain 39 y = true := plain_at h2 y (by simp)
      -- the list of the kinds
      have key : compGo (gNm 1) tYesW (wAnd (wUn (bIsi "int") (wVar 1)) (wNot (wUn (bIsi "bool") (wVar 1)))) [.d (.tup [x, y]), .un] (fun ys => bAll [.lst ys] fun z => match z with
        | .bl k => if (!k) = true then Q (.d (.bl false)) else (sRet (wAnd (wBin bGt (wBin bIx (wVar 0) (wC (.int 1))) (wC (.int 0))) (wBin bEq (wCall spec__law_low (wCons (wBin bIx (wVar 0) (wC (.int 0))) (wCons (wBin bIx (wVar 0) (wC (.int 1))) wNil))) (wVar 0)))) (fun _ => Xe) { nx := fun _ => Q (.d .non), rt := Q } [.d (.tup [x, y]), .un]
        | _ => False) [x, y] [] := by
        refine compGo_map (fun u v => v = D.bl (isInt u)) _ _ (fun u hu Q' q1 => ?_) (show 0 + 2 ≤ 100000 by decide) fun ys hys => ?_
        · have hu : plain 39 u = true := plain_at h2 u hu
          cases u with
          | ins _ _ _ => simp [plain] at hu
          | _ => exact q1 _ rfl
        · cases hys with
          | cons r1 hys =>
            cases hys with
            | cons r2 hys =>
              cases hys
              subst r1 r2
              show if (!(isInt x && (isInt y && true))) = true then _ else _
              rcases bcases (isInt x) with e1 | e1
              · obtain ⟨i, rfl⟩ := isInt_of e1
                rcases bcases (isInt y) with e2 | e2
                · obtain ⟨j, rfl⟩ := isInt_of e2
                  show if decide (0 < j) = true then _ else _
                  refine ite2 (fun z => ?_) fun z => ?_
                  · have hj : 0 < j := of_decide_eq_true z
                    refine ⟨_, _, rfl, _, _, rfl, rfl, by omega, hb i j rfl, plain_fr _ _, h, ?_⟩
                    dsimp only [RV.toD]
                    rw [isFr_low hj]
                    exact q
                  · have e4 : isFr (.tup [.int i, .int j]) = false := by
                      show decide _ = false
                      have hj : ¬ 0 < j := fun k => z (decide_eq_true k)
                      simp [hj]
                    rw [e4] at q
                    exact q
                · rw [isFr_no2 e2] at q
                  rw [e2]
                  exact q
              · rw [isFr_no1 e1] at q
                rw [e1]
                exact q
      exact key
    · rw [isFr_len (fun k => of_decide_eq_false e (by omega))] at q
      rw [e]
      exact q
  | _ => exact q
theorem vc__law_means : VC w__law_means 3 spec__law_means := by
  rintro ss Q Xe ⟨x, y, z, rfl, p, n, top, bottom, rfl, rfl, rfl, hp, ht, hb, hn, he, q⟩
  refine ⟨_, rfl, plain_fr _ _, fun a b e => ?_, ?_⟩
  · have e1 : (fr p) = .tup [.int a, .int b] := e
    unfold fr at e1
    injection e1 with e1
    injection e1 with e1 e2
    injection e2 with e2
    injection e2 with e2
    rw [← e2]
    exact log_lt hp.den (by omega)
  · dsimp only [RV.toD]
    rw [isFr_fr]
    refine ⟨imul_sz hp.1 hb (by omega), imul_sz ht hp.den (by omega), rfl, rfl, ?_⟩
    rw [peq_int, he, decide_eq_true rfl]
    exact q
theorem fr_int (k : Int) : fr (k : Rat) = .tup [.int k, .int 1] := rfl
theorem vc__law_number : VC w__law_number 2 spec__law_number := by
  rintro ss Q Xe ⟨rfl, q⟩
  have two : (2 : Nat) ^ 22 = 4194304 := by decide
  refine ⟨6, rfl, by decide, by decide, fun way h0 h1 => ⟨rfl, rfl, ?_⟩⟩
  refine ite2 (fun z => ?_) fun z => ?_
  · refine ⟨2001, rfl, by decide, by decide, fun r r0 r1 => ⟨(show 2 ≤ 100000 by decide), ?_⟩⟩
    exact q ((r - 1000 : Int) : Rat) ⟨by show (r - 1000).natAbs < _; omega, (show 1 < 2 ^ 22 by decide)⟩
  · refine ite2 (fun z => ?_) fun z => ?_
    · refine ⟨2000001, rfl, by decide, by decide, fun r r0 r1 => ⟨(show 4 ≤ 100000 by decide), 4, rfl, by decide, by decide, fun k k0 k1 => ?_⟩⟩
      have key : ∀ b : Int, 0 < b → b ≤ 1000 → spec__law_low [.d (.int (r - 1000000)), .d (.int b)] (fun r => Q (.d r.toD)) Xe := fun b b0 b1 =>
        ⟨_, _, rfl, _, _, rfl, rfl, by omega, log_lt (n := 22) (by omega) (by decide), q _ (sz_rat (by omega) (by omega) (by omega))⟩
      have hk : k = 0 ∨ k = 1 ∨ k = 2 ∨ k = 3 := by omega
      rcases hk with rfl | rfl | rfl | rfl
      · exact key 100 (by decide) (by decide)
      · exact key 1000 (by decide) (by decide)
      · exact key 8 (by decide) (by decide)
      · exact key 20 (by decide) (by decide)
    · refine ite2 (fun z => ?_) fun z => ?_
      · refine ⟨41, rfl, by decide, by decide, fun r r0 r1 => ⟨12, rfl, by decide, by decide, fun k k0 k1 => ?_⟩⟩
        exact ⟨_, _, rfl, _, _, rfl, rfl, by omega, log_lt (n := 22) (by omega) (by decide), q _ (sz_rat (by omega) (by omega) (by omega))⟩
      · refine ⟨2000001, rfl, by decide, by decide, fun r r0 r1 => ⟨1000, rfl, by decide, by decide, fun k k0 k1 => ?_⟩⟩
        exact ⟨_, _, rfl, _, _, rfl, rfl, by omega, log_lt (n := 22) (by omega) (by decide), q _ (sz_rat (by omega) (by omega) (by omega))⟩
theorem vc__law_any : VC w__law_any 1 spec__law_any := by
  rintro ss Q Xe ⟨rfl, q⟩
  have two : (2 : Nat) ^ 134 = 21778071482940061661655974875633165533184 := by decide
  refine ⟨4, rfl, by decide, by decide, fun way h0 h1 => ?_⟩
  refine ite2 (fun z => ?_) fun z => ?_
  · exact ⟨rfl, fun p hp => q p (hp.mono (by decide))⟩
  · refine ⟨by decide, 10 ^ 40, rfl, by decide, by decide, fun r r0 r1 => ⟨by decide, by decide, by decide, (show 2 ≤ 100000 by decide), 2, rfl, by decide, by decide, fun k k0 k1 => ?_⟩⟩
    have hk : k = 0 ∨ k = 1 := by omega
    have r1 : r < 10 ^ 40 := r1
    rcases hk with rfl | rfl
    · refine ⟨10 ^ 40, rfl, by decide, by decide, fun t t0 t1 => ?_⟩
      refine ⟨_, _, rfl, r - 10 ^ 39, 1 + t, rfl, rfl, by omega, log_lt (n := 134) (by omega) (by decide), q _ (sz_rat (by omega) (by omega) (by omega))⟩
    · refine ⟨10 ^ 9, rfl, by decide, by decide, fun t t0 t1 => ?_⟩
      refine ⟨_, _, rfl, r - 10 ^ 39, 1 + t, rfl, rfl, by omega, log_lt (n := 134) (by omega) (by decide), q _ (sz_rat (by omega) (by omega) (by omega))⟩
theorem frs_len (qs : List Rat) : (frs qs).length = qs.length := by simp [frs]
theorem plainL_frs (n : Nat) (qs : List Rat) : plainL (n + 2) (frs qs) = true := by
  induction qs with
  | nil => simp [frs, plainL]
  | cons q qs ih =>
    simp only [frs, List.map_cons, plainL, Bool.and_eq_true]
    exact ⟨plain_fr n q, ih⟩
theorem rsum_snoc (t : Rat) : ∀ ps : List Rat, (ps ++ [t]).sum = ps.sum + t
  | [] => by
    show t + 0 = 0 + t
    rw [Rat.add_zero, Rat.zero_add]
  | p :: ps => by
    show p + (ps ++ [t]).sum = (p + ps.sum) + t
    rw [rsum_snoc t ps, Rat.add_assoc]
theorem vc_sum_of : VC w_sum_of 3 spec_sum_of := by
  rintro ss Q Xe ⟨d, rfl, qs, n, rfl, hs, hn, hl, q⟩
  refine ⟨_, rfl, qs, rfl, hl, ?_⟩
  refine forGo_inv (fun r ρ => ∃ (rs ps : List Rat) (u : SV), r = frs rs ∧ qs = ps ++ rs ∧ ρ = [.d (.tup (frs qs)), .d (fr ps.sum), u] ∧ Sz ((n + 1) * (ps.length + 1)) ps.sum) ?_ ?_ _ _ ⟨qs, [], .un, rfl, rfl, rfl, ?_⟩
  · rintro x r ρ ⟨rs, ps, u, hr, rfl, rfl, hz⟩ N hN
    cases rs with
    | nil => cases hr
    | cons t rs =>
      cases hr
      have ht := hs t (by simp)
      have hlen : (n + 1) * (ps.length + 1) + n < 8900 := by
        have : (n + 1) * (ps.length + 1) + (n + 1) ≤ (n + 1) * ((ps ++ t :: rs).length + 2) := by
          rw [show (n + 1) * (ps.length + 1) + (n + 1) = (n + 1) * (ps.length + 2) by rw [Nat.mul_succ (n + 1) (ps.length + 1)]]
          refine Nat.mul_le_mul_left _ ?_
          simp
        omega
      refine ⟨imul_sz hz.1 ht.den (by omega), imul_sz ht.1 hz.den (by omega), imul_sz hz.den ht.den (by omega), _, _, rfl, _, _, rfl, rfl, Int.mul_ne_zero (den_nz _) (den_nz _), log_lt (abs_mul_lt hz.den ht.den) (by omega), ?_⟩
      rw [add_rat]
      refine hN _ ⟨rs, ps ++ [t], .d (fr t), rfl, by simp, ?_, ?_⟩
      · rw [rsum_snoc]
        rfl
      · rw [rsum_snoc]
        have h2 := hz.add ht
        refine Sz.mono h2 ?_
        rw [List.length_append, List.length_singleton, Nat.mul_succ (n + 1) (ps.length + 1)]
        omega
  · rintro ρ ⟨rs, ps, u, hr, rfl, rfl, hz⟩
    cases rs with
    | cons _ _ => cases hr
    | nil =>
      rw [List.append_nil] at q
      exact q
  · exact ⟨(show 0 < 2 ^ _ from Nat.two_pow_pos _), (show 1 < 2 ^ _ from Nat.one_lt_two_pow (by simp))⟩
end DL
set_option linter.all false
set_option autoImplicit false
set_option maxHeartbeats 4000000
set_option maxRecDepth 100000
namespace DL
open PySem PySem.Spec PyProof.Rows L2
theorem ne_t {a b : Rat} (h : a = b) : ¬ (!peq (fr a) (fr b)) = true := by
  subst h
  rw [peq_fr, decide_eq_true rfl]
  simp
theorem isnot_t {x b : Bool} (h : x = b) : ¬ (!decide (x = b)) = true := by
  subst h
  simp
theorem num_ne {q : Rat} (h : (!peq (.int q.num) (.int 0)) = true) : q ≠ 0 := fun z => by
  subst z
  rw [peq_int] at h
  simp at h
theorem num_pos {q : Rat} (h : 0 < q.num) : 0 < q := by
  rw [Rat.lt_iff]
  simpa using h
theorem num_neg {q : Rat} (h : q.num < 0) : q < 0 := by
  rw [Rat.lt_iff]
  simpa using h
theorem num_nil {q : Rat} (h : q.num = 0) : q = 0 := by
  by_cases k : q = 0
  · exact k
  · exact absurd h (num_nz k)
theorem mul_lt_neg {p q r : Rat} (h : r < 0) : p * r < q * r ↔ q < p := by
  have h2 : 0 < -r := by grind
  have e : q * -r < p * -r ↔ q < p := Rat.mul_lt_mul_right h2
  rw [Rat.mul_neg, Rat.mul_neg] at e
  rw [← e]
  constructor <;> intro k <;> grind
def tiny : Rat := rat 1 (10 ^ 40)
theorem tiny_pos : 0 < tiny := num_pos (by decide +kernel)
theorem tiny_sz : Sz 134 tiny := ⟨by decide +kernel, by decide +kernel⟩
theorem tiny_fr : D.tup [.int 1, .int (10 ^ (40 : Int).toNat)] = fr tiny := by
  have h1 : tiny.num = 1 := by decide +kernel
  have h2 : tiny.den = 10 ^ 40 := by decide +kernel
  unfold fr
  rw [h1, h2]
  rfl
section
variable {p q r : Rat} (hp : Sz 134 p) (hq : Sz 134 q) (hr : Sz 134 r) {Q : RV → Prop} {Xe : Exc → Prop} (h : Q (.d (.bl true)))
include hp hq hr h
theorem hand4 : w__law_handed_on_right_4 (fun _ => Xe) { nx := fun _ => Q (.d .non), rt := Q } [.d (fr p), .d (fr q), .d (fr r), .d (fr tiny)] := by
  refine op_ok hp tiny_sz (by omega) ?_
  refine op_ok hp (hp.add tiny_sz) (by omega) ?_
  refine ite2 (fun z => absurd z (isnot_t (decide_eq_true (by have := tiny_pos; grind)))) fun _ => ?_
  refine op_ok hp tiny_sz (by omega) ?_
  refine op_ok (hp.add tiny_sz) hp (by omega) ?_
  refine ite2 (fun z => absurd z (isnot_t (decide_eq_false (by have := tiny_pos; grind)))) fun _ => ?_
  refine op_ok hp tiny_sz (by omega) ?_
  refine op_ok (hp.sub tiny_sz) hp (by omega) ?_
  refine ite2 (fun z => absurd z (isnot_t (decide_eq_true (by have := tiny_pos; grind)))) fun _ => ?_
  refine op_ok hp hr (by omega) ?_
  refine op_ok hq hr (by omega) ?_
  refine op_ok (hp.mul hr) (hq.mul hr) (by omega) ?_
  have fin : ∀ b : Bool, decide (p * r < q * r) = b → Q (.d (.bl (peq (.bl (decide (p * r < q * r))) (.bl b)))) := fun b e => by
    rw [e]
    rw [peq_refl _ 1 rfl]
    exact h
  refine ite2 (fun z => ?_) fun z => ?_
  · have hr0 : 0 < r := num_pos (of_decide_eq_true z)
    refine op_ok hp hq (by omega) ?_
    exact ⟨rfl, rfl, fin _ (by rw [decide_eq_decide]; exact Rat.mul_lt_mul_right hr0)⟩
  · have hr0 : ¬ 0 < r.num := fun k => z (decide_eq_true k)
    refine ite2 (fun z => ?_) fun z => ?_
    · have hr1 : r < 0 := num_neg (of_decide_eq_true z)
      refine op_ok hq hp (by omega) ?_
      refine ⟨rfl, rfl, fin _ ?_⟩
      rw [decide_eq_decide]
      exact mul_lt_neg hr1
    · have hr1 : ¬ r.num < 0 := fun k => z (decide_eq_true k)
      have hr2 : r = 0 := num_nil (by omega)
      refine ⟨rfl, rfl, fin _ (decide_eq_false ?_)⟩
      rw [hr2]
      grind
theorem hand3 : w__law_handed_on_right_3 (fun _ => Xe) { nx := fun _ => Q (.d .non), rt := Q } [.d (fr p), .d (fr q), .d (fr r), .un] := by
  refine ⟨by decide, (show 2 ≤ 100000 by decide), ?_⟩
  show w__law_handed_on_right_4 (fun _ => Xe) { nx := fun _ => Q (.d .non), rt := Q } [.d (fr p), .d (fr q), .d (fr r), .d (.tup [.int 1, .int (10 ^ (40 : Int).toNat)])]
  rw [tiny_fr]
  exact hand4 hp hq hr h
theorem hand2 : w__law_handed_on_right_2 (fun _ => Xe) { nx := fun _ => Q (.d .non), rt := Q } [.d (fr p), .d (fr q), .d (fr r), .un] := by
  refine ⟨rfl, rfl, ?_⟩
  refine ite2 (fun z => ?_) fun _ => hand3 hp hq hr h
  have hq0 : q ≠ 0 := num_ne z
  refine op_ok hp hq (by omega) ?_
  refine over_ok hq0 (hp.mul hq) hq (by omega) ?_
  refine ⟨plain_fr _ _, plain_fr _ _, ?_⟩
  refine ite2 (fun z => absurd z (ne_t (by grind))) fun _ => ?_
  refine over_ok hq0 hp hq (by omega) ?_
  refine op_ok (hp.div hq hq0) hq (by omega) ?_
  refine ⟨plain_fr _ _, plain_fr _ _, ?_⟩
  refine ite2 (fun z => absurd z (ne_t (by grind))) fun _ => ?_
  have hqq : q * q ≠ 0 := by grind
  refine over_ok hq0 hr hq (by omega) ?_
  refine over_ok hq0 (hr.div hq hq0) hq (by omega) ?_
  refine op_ok hq hq (by omega) ?_
  refine over_ok hqq hr (hq.mul hq) (by omega) ?_
  refine ⟨plain_fr _ _, plain_fr _ _, ?_⟩
  refine ite2 (fun z => absurd z (ne_t (by grind))) fun _ => ?_
  exact hand3 hp hq hr h
theorem hand1 : w__law_handed_on_right_1 (fun _ => Xe) { nx := fun _ => Q (.d .non), rt := Q } [.d (fr p), .d (fr q), .d (fr r), .un] := by
  refine op_ok hq hr (by omega) ?_
  refine op_ok hp (hq.add hr) (by omega) ?_
  refine op_ok hp hq (by omega) ?_
  refine op_ok hp hr (by omega) ?_
  refine op_ok (hp.mul hq) (hp.mul hr) (by omega) ?_
  refine ⟨plain_fr _ _, plain_fr _ _, ?_⟩
  refine ite2 (fun z => absurd z (ne_t (by grind))) fun _ => ?_
  refine op_ok hp hq (by omega) ?_
  refine op_ok (hp.add hq) hq (by omega) ?_
  refine ⟨plain_fr _ _, plain_fr _ _, ?_⟩
  refine ite2 (fun z => absurd z (ne_t (by grind))) fun _ => ?_
  refine op_ok hp hr (by omega) ?_
  refine op_ok (hp.sub hr) hr (by omega) ?_
  refine ⟨plain_fr _ _, plain_fr _ _, ?_⟩
  refine ite2 (fun z => absurd z (ne_t (by grind))) fun _ => ?_
  exact hand2 hp hq hr h
theorem hand0 : w__law_handed_on_right (fun _ => Xe) { nx := fun _ => Q (.d .non), rt := Q } [.d (fr p), .d (fr q), .d (fr r), .un] := by
  refine op_ok hp hq (by omega) ?_
  refine op_ok (hp.add hq) hr (by omega) ?_
  refine op_ok hq hr (by omega) ?_
  refine op_ok hp (hq.add hr) (by omega) ?_
  refine ⟨plain_fr _ _, plain_fr _ _, ?_⟩
  refine ite2 (fun z => absurd z (ne_t (by grind))) fun _ => ?_
  refine op_ok hp hq (by omega) ?_
  refine op_ok (hp.mul hq) hr (by omega) ?_
  refine op_ok hq hr (by omega) ?_
  refine op_ok hp (hq.mul hr) (by omega) ?_
  refine ⟨plain_fr _ _, plain_fr _ _, ?_⟩
  refine ite2 (fun z => absurd z (ne_t (by grind))) fun _ => ?_
  exact hand1 hp hq hr h
end
theorem vc__law_handed_on_right : VC w__law_handed_on_right 4 spec__law_handed_on_right := by
  rintro ss Q Xe ⟨x, y, z, rfl, p, q, r, rfl, rfl, rfl, hp, hq, hr, h⟩
  exact hand0 hp hq hr h
end DL
set_option linter.all false
set_option autoImplicit false
set_option maxHeartbeats 4000000
set_option maxRecDepth 100000
set_option exponentiation.threshold 20000
namespace DL
open PySem PySem.Spec PyProof.Rows L2
theorem cross {t b : Int} (hb : b ≠ 0) : (rat t b).num * b = t * (rat t b).den := by
  have h1 := den_q (rat t b)
  have h2 : (b : Rat) ≠ 0 := fun z => hb (by exact_mod_cast z)
  have e : (t : Rat) / (b : Rat) = ((rat t b).num : Rat) / (((rat t b).den : Int) : Rat) := (rat_of t b).symm.trans (self_div _)
  have e3 : (((rat t b).num * b : Int) : Rat) = ((t * (rat t b).den : Int) : Rat) := by
    rw [Rat.intCast_mul, Rat.intCast_mul]
    generalize ((rat t b).num : Rat) = x at *
    generalize (((rat t b).den : Int) : Rat) = y at *
    generalize (t : Rat) = u at *
    generalize (b : Rat) = v at *
    grind
  exact_mod_cast e3
def GoodRow (row : D) : Prop := ∃ (x : Rat) (t b : Int), row = .lst [fr x, .int t, .int b] ∧ Sz 300 x ∧ t.natAbs < 2 ^ 300 ∧ b.natAbs < 2 ^ 300 ∧ x.num * b = t * x.den
theorem good_row {x : Rat} {t b : Int} (hb : b ≠ 0) (h : rat t b = x) (ht : t.natAbs < 2 ^ 300) (hb2 : b.natAbs < 2 ^ 300) : GoodRow (.lst [fr x, .int t, .int b]) := by
  subst h
  exact ⟨_, t, b, rfl, sz_rat hb ht hb2, ht, hb2, cross hb⟩
theorem lt300 {i : Int} {n : Nat} (h : i.natAbs < 2 ^ n) (k : n ≤ 300) : i.natAbs < 2 ^ 300 := Nat.lt_of_lt_of_le h (Nat.pow_le_pow_right (by decide) k)
section
variable {p q : Rat} (hp : Sz 134 p) (hq : Sz 134 q) {Q : RV → Prop} {Xe : Exc → Prop} (h : Q (.d (.bl true)))
include hp hq h
theorem pair6 {u : SV} : w__law_pair_right_6 (fun _ => Xe) { nx := fun _ => Q (.d .non), rt := Q } [.d (fr p), .d (fr q), u, .un, .d (.int p.num), .d (.int p.den), .d (.int q.num), .d (.int q.den), .un, .un, .un] := by
  refine ⟨imul_sz hp.1 hq.den (by omega), imul_sz hq.1 hp.den (by omega), ?_⟩
  refine op_ok hp hq (by omega) ?_
  refine ⟨rfl, ?_⟩
  refine op_ok hp hq (by omega) ?_
  refine op_ok hp hp (by omega) ?_
  refine ⟨(show 3 ≤ 100000 by decide), (show 3 ≤ 100000 by decide), ?_⟩
  have e : decide (p.num * (q.den : Int) < q.num * (p.den : Int)) = decide (p < q) := by
    rw [decide_eq_decide]
    exact (Rat.lt_iff p q).symm
  have e2 : decide (p < p) = false := decide_eq_false Rat.lt_irrefl
  refine ⟨_, _, rfl, ?_, by rfl, h⟩
  show D.lst [.bl (decide (p < q)), .bl (decide (p < q)), .bl (decide (p < p))] = .lst [.bl (decide (p.num * (q.den : Int) < q.num * (p.den : Int))), .bl (decide (p.num * (q.den : Int) < q.num * (p.den : Int))), .bl false]
  rw [e, e2]
theorem pair5 {rs : List D} (hr : ∀ r ∈ rs, GoodRow r) (hl : rs.length ≤ 100) : w__law_pair_right_5 (fun _ => Xe) { nx := fun _ => Q (.d .non), rt := Q } [.d (fr p), .d (fr q), .own rs, .un, .d (.int p.num), .d (.int p.den), .d (.int q.num), .d (.int q.den), .un, .un, .un] := by
  have key : compGo (gTupW (gConsW (gNm 8) (gConsW (gNm 9) (gConsW (gNm 10) gNilW)))) tYesW (wCall spec__law_means (wCons (wVar 8) (wCons (wVar 9) (wCons (wVar 10) wNil)))) [.d (fr p), .d (fr q), .d (.lst rs), .un, .d (.int p.num), .d (.int p.den), .d (.int q.num), .d (.int q.den), .un, .un, .un]
      (fun ys => bAll [.lst ys] fun z => match z with
        | .bl k => if (!k) = true then Q (.d (.bl false)) else w__law_pair_right_6 (fun _ => Xe) { nx := fun _ => Q (.d .non), rt := Q } [.d (fr p), .d (fr q), .own rs, .un, .d (.int p.num), .d (.int p.den), .d (.int q.num), .d (.int q.den), .un, .un, .un]
        | _ => False) rs [] := by
    refine compGo_map (fun _ y => y = D.bl true) _ _ (fun x hx Q' q1 => ?_) (by simp; omega) fun ys hys => ?_
    · obtain ⟨x, t, b, rfl, hx, ht, hb, he⟩ := hr x hx
      exact ⟨rfl, _, _, _, rfl, x, 300, t, b, rfl, rfl, rfl, hx, ht, hb, by decide, he, q1 _ rfl⟩
    · rw [List.nil_append]
      refine bAll_true (fun y hy => (all2_mem hys y hy).elim fun x hx => hx.2) ?_
      exact pair6 hp hq h
  exact key
theorem pair4 {rs : List D} (hr : ∀ r ∈ rs, GoodRow r) (hl : rs.length ≤ 90) : w__law_pair_right_4 (fun _ => Xe) { nx := fun _ => Q (.d .non), rt := Q } [.d (fr p), .d (fr q), .own rs, .un, .d (.int p.num), .d (.int p.den), .d (.int q.num), .d (.int q.den), .un, .un, .un] := by
  refine ⟨rfl, rfl, ?_⟩
  refine ite2 (fun z => ?_) fun _ => pair5 hp hq h hr (by omega)
  have hq0 : q ≠ 0 := num_ne z
  refine over_ok hq0 hp hq (by omega) ?_
  refine ⟨imul_sz hp.1 hq.den (by omega), imul_sz hp.den hq.1 (by omega), (show 3 ≤ 100000 by decide), ?_⟩
  refine ⟨rfl, ?_⟩
  refine over_ok hq0 hp hq (by omega) ?_
  refine ⟨imul_sz hp.1 hq.den (by omega), imul_sz hp.den hq.1 (by omega), (show 3 ≤ 100000 by decide), (show 2 ≤ 100000 by decide), (show rs.length + 2 ≤ 100000 by omega), ?_⟩
  have g : GoodRow (.lst [fr (p / q), .int (p.num * q.den), .int (p.den * q.num)]) := good_row (Int.mul_ne_zero (den_nz p) (num_nz hq0)) (div_rat p q hq0) (lt300 (abs_mul_lt hp.1 hq.den) (by decide)) (lt300 (abs_mul_lt hp.den hq.1) (by decide))
  refine pair5 hp hq h (rs := rs ++ [_, _]) (fun r hr2 => ?_) (by rw [List.length_append]; show rs.length + 2 ≤ 100; omega)
  rcases List.mem_append.mp hr2 with k | k
  · exact hr r k
  · have e : r = .lst [fr (p / q), .int (p.num * q.den), .int (p.den * q.num)] := by simpa [RV.toD] using k
    rw [e]
    exact g
theorem row_add : GoodRow (.lst [fr (p + q), .int (p.num * q.den + q.num * p.den), .int (p.den * q.den)]) := good_row (Int.mul_ne_zero (den_nz p) (den_nz q)) (add_rat p q) (lt300 (n := 269) (abs_add_lt (abs_mul_lt hp.1 hq.den) (abs_mul_lt hq.1 hp.den)) (by decide)) (lt300 (abs_mul_lt hp.den hq.den) (by decide))
theorem row_sub : GoodRow (.lst [fr (p - q), .int (p.num * q.den - q.num * p.den), .int (p.den * q.den)]) := good_row (Int.mul_ne_zero (den_nz p) (den_nz q)) (sub_rat p q) (lt300 (n := 269) (abs_sub_lt (abs_mul_lt hp.1 hq.den) (abs_mul_lt hq.1 hp.den)) (by decide)) (lt300 (abs_mul_lt hp.den hq.den) (by decide))
theorem row_mul : GoodRow (.lst [fr (p * q), .int (p.num * q.num), .int (p.den * q.den)]) := good_row (Int.mul_ne_zero (den_nz p) (den_nz q)) (mul_rat p q) (lt300 (abs_mul_lt hp.1 hq.1) (by decide)) (lt300 (abs_mul_lt hp.den hq.den) (by decide))
theorem pair3 {rs : List D} (hr : ∀ r ∈ rs, GoodRow r) (hl : rs.length ≤ 80) : w__law_pair_right_3 (fun _ => Xe) { nx := fun _ => Q (.d .non), rt := Q } [.d (fr p), .d (fr q), .own rs, .un, .d (.int p.num), .d (.int p.den), .d (.int q.num), .d (.int q.den), .un, .un, .un] := by
  refine ⟨rfl, ?_⟩
  refine op_ok hp hq (by omega) ?_
  refine ⟨imul_sz hp.1 hq.1 (by omega), imul_sz hp.den hq.den (by omega), (show 3 ≤ 100000 by decide), (show rs.length < 100000 by omega), ?_⟩
  refine pair4 hp hq h (rs := rs ++ [_]) (fun r hr2 => ?_) (by rw [List.length_append]; show rs.length + 1 ≤ 90; omega)
  rcases List.mem_append.mp hr2 with k | k
  · exact hr r k
  · have e : r = .lst [fr (p * q), .int (p.num * q.num), .int (p.den * q.den)] := by simpa [RV.toD] using k
    rw [e]
    exact row_mul hp hq h
theorem pair2 {rs : List D} (hr : ∀ r ∈ rs, GoodRow r) (hl : rs.length ≤ 70) : w__law_pair_right_2 (fun _ => Xe) { nx := fun _ => Q (.d .non), rt := Q } [.d (fr p), .d (fr q), .own rs, .un, .d (.int p.num), .d (.int p.den), .d (.int q.num), .d (.int q.den), .un, .un, .un] := by
  refine ⟨rfl, ?_⟩
  refine op_ok hp hq (by omega) ?_
  refine ⟨imul_sz hp.1 hq.den (by omega), imul_sz hq.1 hp.den (by omega), imul_sz hp.den hq.den (by omega), (show 3 ≤ 100000 by decide), ?_⟩
  refine ⟨rfl, ?_⟩
  refine op_ok hp hq (by omega) ?_
  refine ⟨imul_sz hp.1 hq.den (by omega), imul_sz hq.1 hp.den (by omega), imul_sz hp.den hq.den (by omega), (show 3 ≤ 100000 by decide), (show 2 ≤ 100000 by decide), (show rs.length + 2 ≤ 100000 by omega), ?_⟩
  refine pair3 hp hq h (rs := rs ++ [_, _]) (fun r hr2 => ?_) (by rw [List.length_append]; show rs.length + 2 ≤ 80; omega)
  rcases List.mem_append.mp hr2 with k | k
  · exact hr r k
  · have e : r = .lst [fr (p + q), .int (p.num * q.den + q.num * p.den), .int (p.den * q.den)] ∨ r = .lst [fr (p - q), .int (p.num * q.den - q.num * p.den), .int (p.den * q.den)] := by simpa [RV.toD] using k
    rcases e with e | e
    · rw [e]
      exact row_add hp hq h
    · rw [e]
      exact row_sub hp hq h
theorem pair1 : w__law_pair_right_1 (fun _ => Xe) { nx := fun _ => Q (.d .non), rt := Q } [.d (fr p), .d (fr q), .un, .un, .d (.int p.num), .d (.int p.den), .d (.int q.num), .d (.int q.den), .un, .un, .un] := by
  refine op_ok hp hq (by omega) ?_
  refine ⟨imul_sz hp.1 hq.den (by omega), imul_sz hq.1 hp.den (by omega), imul_sz hp.den hq.den (by omega), (show 3 ≤ 100000 by decide), ?_⟩
  refine op_ok hp hq (by omega) ?_
  refine ⟨imul_sz hp.1 hq.den (by omega), imul_sz hq.1 hp.den (by omega), imul_sz hp.den hq.den (by omega), (show 3 ≤ 100000 by decide), ?_⟩
  refine op_ok hp hq (by omega) ?_
  refine ⟨imul_sz hp.1 hq.1 (by omega), imul_sz hp.den hq.den (by omega), (show 3 ≤ 100000 by decide), (show 3 ≤ 100000 by decide), ?_⟩
  refine pair2 hp hq h (rs := [_, _, _]) (fun r hr2 => ?_) (show 3 ≤ 70 by decide)
  have e : r = .lst [fr (p + q), .int (p.num * q.den + q.num * p.den), .int (p.den * q.den)] ∨ r = .lst [fr (p - q), .int (p.num * q.den - q.num * p.den), .int (p.den * q.den)] ∨ r = .lst [fr (p * q), .int (p.num * q.num), .int (p.den * q.den)] := by simpa [RV.toD] using hr2
  rcases e with e | e | e
  · rw [e]
    exact row_add hp hq h
  · rw [e]
    exact row_sub hp hq h
  · rw [e]
    exact row_mul hp hq h
end
theorem vc__law_pair_right : VC w__law_pair_right 11 spec__law_pair_right := by
  rintro ss Q Xe ⟨x, y, rfl, p, q, rfl, rfl, hp, hq, h⟩
  exact ⟨(show 4 ≤ 100000 by decide), rfl, pair1 hp hq h⟩
end DL
set_option linter.all false
set_option autoImplicit false
set_option maxHeartbeats 4000000
set_option maxRecDepth 100000
set_option exponentiation.threshold 20000
namespace DL
open PySem PySem.Spec PyProof.Rows L2
def unfr : D → Rat
  | .tup [.int a, .int b] => rat a b
  | _ => 0
theorem unfr_fr (q : Rat) : unfr (fr q) = q := rat_self q
theorem unfr_frs (qs : List Rat) : (frs qs).map unfr = qs := by
  induction qs with
  | nil => rfl
  | cons q qs ih =>
    show unfr (fr q) :: (frs qs).map unfr = q :: qs
    rw [ih, unfr_fr]
theorem rsum_perm {xs ys : List Rat} (h : xs.Perm ys) : xs.sum = ys.sum := by
  induction h with
  | nil => rfl
  | cons x _ ih =>
    exact congrArg (x + ·) ih
  | swap x y l =>
    show y + (x + l.sum) = x + (y + l.sum)
    rw [← Rat.add_assoc, ← Rat.add_assoc, Rat.add_comm y x]
  | trans _ _ h1 h2 => exact h1.trans h2
theorem rat_scale {p : Rat} {f : Int} (hf : f ≠ 0) : rat (p.num * f) (p.den * f) = p := by
  unfold rat
  rw [Rat.divInt_mul_right hf]
  exact rat_self p
theorem fr_neg (p : Rat) : D.tup [.int (-p.num), .int p.den] = fr (-p) := by
  unfold fr
  rw [Rat.neg_num, Rat.neg_den]
theorem frs_rev (qs : List Rat) : (frs qs).reverse = frs qs.reverse := by simp [frs]
def OkV (v : D) : Prop := plain 40 v = true ∧ ∀ a b : Int, v = .tup [.int a, .int b] → b.natAbs.log2 < 9000
section
variable {N B : Env → Prop} {s : D} (hN : ∀ t f so v m d nu to o1 o2 : SV, N [.d s, .src, t, f, so, v, m, d, nu, to, o1, o2, .un])
/-- how a turn may end -/
abbrev DDN (N B : Env → Prop) : DEnds := { nx := N, rt := fun r => r = .d (.bl true), ct := N, bk := B }
abbrev X1 : XD := fun _ _ => False
include hN
theorem law20 {t f so v nu to o1 o2 : SV} {qs : List Rat} (hq : ∀ q ∈ qs, Sz 134 q) (hl : qs.length ≤ 31) : w_law_L20 X1 (DDN N B) [.d s, .src, t, f, so, v, .d (.lst (frs qs)), .d (fr qs.sum), nu, to, o1, o2, .un] := by
  have hn : ∀ rs : List Rat, rs.length = qs.length → (134 + 1) * (rs.length + 2) < 8900 := fun rs e => by omega
  refine ⟨_, rfl, qs, 134, rfl, hq, hn qs rfl, by omega, ?_⟩
  refine ⟨_, rfl, qs.reverse, 134, ?_, fun q h => hq q (List.mem_reverse.mp h), hn _ (List.length_reverse), by rw [List.length_reverse]; omega, ?_⟩
  · rw [frs_rev]
  refine ⟨fun x hx => ?_, fun ys hp => ?_⟩
  · obtain ⟨q, hq, rfl⟩ := List.mem_map.mp hx
    exact ⟨q.num, q.den, rfl⟩
  · have hys : ∃ rs : List Rat, ys = frs rs := frs_of fun x hx => by
      obtain ⟨q, _, rfl⟩ := List.mem_map.mp (hp.mem_iff.mp hx)
      exact ⟨q, rfl⟩
    obtain ⟨rs, rfl⟩ := hys
    have hp2 : rs.Perm qs := by
      have := hp.map unfr
      rw [unfr_frs, unfr_frs] at this
      exact this
    refine ⟨rfl, _, rfl, rs, 134, rfl, fun q h => hq q (hp2.mem_iff.mp h), hn rs hp2.length_eq, by rw [hp2.length_eq]; omega, ?_⟩
    refine ⟨(show 3 ≤ 100000 by decide), (show 3 ≤ 100000 by decide), ?_⟩
    refine ⟨_, _, rfl, ?_, ?_, hN _ _ _ _ _ _ _ _ _ _⟩
    · show D.lst [fr qs.sum, fr qs.reverse.sum, fr rs.sum] = .lst [fr qs.sum, fr qs.sum, fr qs.sum]
      rw [rsum_perm (List.reverse_perm qs), rsum_perm hp2]
    · show short 6 (D.lst [fr qs.sum, fr qs.reverse.sum, fr rs.sum]) = true
      simp [short, shortL, short_fr]
theorem law18 {t f so v nu to o1 o2 : SV} {qs : List Rat} (hq : ∀ q ∈ qs, Sz 134 q) (hl : qs.length ≤ 31) : w_law_L18 X1 (DDN N B) [.d s, .src, t, f, so, v, .d (.lst (frs qs)), .d (fr 0), nu, to, o1, o2, .un] := by
  refine forGo_inv (fun r ρ => ∃ (rs ps : List Rat) (u : SV), r = frs rs ∧ qs = ps ++ rs ∧ ρ = [.d s, .src, t, f, so, v, .d (.lst (frs qs)), .d (fr ps.sum), u, to, o1, o2, .un] ∧ Sz ((134 + 1) * (ps.length + 1)) ps.sum) ?_ ?_ _ _ ⟨qs, [], nu, rfl, rfl, rfl, ?_⟩
  · rintro x r ρ ⟨rs, ps, u, hr, rfl, rfl, hz⟩ M hM
    cases rs with
    | nil => cases hr
    | cons y rs =>
      cases hr
      have hy := hq y (by simp)
      have hlen : ps.length + 1 ≤ 31 := by
        rw [List.length_append, List.length_cons] at hl
        omega
      refine op_ok hz hy (by omega) ?_
      refine hM _ ⟨rs, ps ++ [y], .d (fr y), rfl, by simp, ?_, ?_⟩
      · rw [rsum_snoc]
        rfl
      · rw [rsum_snoc]
        refine Sz.mono (hz.add hy) ?_
        rw [List.length_append, List.length_singleton]
        omega
  · rintro ρ ⟨rs, ps, u, hr, rfl, rfl, hz⟩
    cases rs with
    | cons _ _ => cases hr
    | nil =>
      have e : ps ++ [] = ps := List.append_nil ps
      rw [e] at hq hl ⊢
      exact law20 hN hq hl
  · exact ⟨(show 0 < 2 ^ _ from Nat.two_pow_pos _), (show 1 < 2 ^ _ from Nat.one_lt_two_pow (by simp))⟩
theorem law17 {t f so v d nu to o1 o2 : SV} {qs : List Rat} (hq : ∀ q ∈ qs, Sz 134 q) (hl : qs.length ≤ 31) : w_law_L17 X1 (DDN N B) [.d s, .src, t, f, so, v, .d (.lst (frs qs)), d, nu, to, o1, o2, .un] :=
  ⟨(show 2 ≤ 100000 by decide), law18 hN hq hl⟩
theorem law16 {k : Int} {f so v m d nu to o1 o2 : SV} : w_law_L16 X1 (DDN N B) [.d s, .src, .d (.int k), f, so, v, m, d, nu, to, o1, o2, .un] := by
  have key : ∀ n : Int, 0 < n → n ≤ 31 → spec__law_drop [.src, .d (.int n)] (fun r => (fun x => match x with
      | D.int n => (-(2 ^ 62) ≤ n ∧ n < 2 ^ 62) ∧ compGo (gNm 12) tYesW (wCall spec__law_any (wConsS 1 wNil)) [.d s, .src, .d (.int k), f, so, v, m, d, nu, to, o1, o2, .un] (fun xs => w_law_L17 X1 (DDN N B) [.d s, .src, .d (.int k), f, so, v, .d (.lst xs), d, nu, to, o1, o2, .un]) (rangeD 0 n.toNat) []
      | _ => False) r.toD) (fun _ => False) := fun n n0 n1 => by
    refine ⟨n, rfl, n0, log_lt (n := 5) (by omega) (by decide), fun r r0 r1 => ⟨⟨by omega, by omega⟩, ?_⟩⟩
    refine compGo_map (fun _ y => ∃ q : Rat, y = fr q ∧ Sz 134 q) _ _ (fun x hx Q' q1 => ?_) (by rw [rangeD_len]; simp; omega) fun ys hys => ?_
    · exact ⟨rfl, fun q hq => q1 _ ⟨q, rfl, hq⟩⟩
    · have hy : ∀ y ∈ ys, ∃ q : Rat, y = fr q ∧ Sz 134 q := fun y hy => (all2_mem hys y hy).elim fun x hx => hx.2
      obtain ⟨qs, rfl⟩ := frs_of fun y m => (hy y m).elim fun q h => ⟨q, h.1⟩
      rw [List.nil_append]
      refine law17 hN (fun q m => ?_) ?_
      · obtain ⟨q', e, h⟩ := hy (fr q) (List.mem_map.mpr ⟨q, m, rfl⟩)
        rw [fr_inj e]
        exact h
      · have := all2_len hys
        rw [rangeD_len, frs_len] at this
        omega
  refine ⟨(show 2 ≤ 100000 by decide), rfl, rfl, ?_⟩
  rcases bcases (peq (.int k) (.int 0)) with e | e
  · rw [e]
    exact key 31 (by decide) (by decide)
  · rw [e]
    exact key 10 (by decide) (by decide)
theorem law12 {k : Int} {f v m d nu to o2 : SV} {p : Rat} (hp : Sz 134 p) {xs : List D} (hx : ∀ x ∈ xs, OkV x) (hl : xs.length ≤ 100) : w_law_L12 X1 (DDN N B) [.d s, .src, .d (.int k), f, .d (.lst xs), v, m, d, nu, to, .d (fr p), o2, .un] := by
  refine ⟨(show 2 ≤ 100000 by decide), (show 1 ≤ 100000 by decide), (show 0 ≤ 100000 by decide), (show 2 ≤ 100000 by decide), (show 2 ≤ 100000 by decide), (show 2 ≤ 100000 by decide), (show 2 ≤ 100000 by decide), (show 7 ≤ 100000 by decide), (show xs.length + 7 ≤ 100000 by omega), ?_⟩
  refine forGo_inv (fun r ρ => (∀ x ∈ r, OkV x) ∧ ∃ v d : SV, ρ = [.d s, .src, .d (.int k), f, .d (.lst xs), v, m, d, nu, to, .d (fr p), o2, .un]) ?_ ?_ _ _ ⟨?_, v, d, rfl⟩
  · rintro x r ρ ⟨hr, v, d, rfl⟩ M hM
    obtain ⟨h1, h2⟩ := hr x List.mem_cons_self
    refine ⟨_, rfl, h1, h2, ?_⟩
    refine ⟨_, rfl, h1, rfl, _, rfl, h1, (show 2 ≤ 100000 by decide), (show 2 ≤ 100000 by decide), ?_⟩
    exact ⟨_, _, rfl, rfl, rfl, hM _ ⟨fun y hy => hr y (List.mem_cons_of_mem _ hy), _, _, rfl⟩⟩
  · rintro ρ ⟨_, v, d, rfl⟩
    exact law16 hN
  · intro x hm
    rcases List.mem_append.mp hm with h | h
    · exact hx x h
    · have e : x = .tup [.int 1, .bl true] ∨ x = .tup [.int 1] ∨ x = .tup [] ∨ x = .tup [.str "1", .int 2] ∨ x = .tup [fr p, fr p] ∨ x = .tup [.int 0, .int 1] ∨ x = .tup [.int p.den, .int p.num] := by simpa using h
      rcases e with rfl | rfl | rfl | rfl | rfl | rfl | rfl
      · exact ⟨by simp [plain, plainL], fun a b e => by simp at e⟩
      · exact ⟨by simp [plain, plainL], fun a b e => by simp at e⟩
      · exact ⟨by simp [plain, plainL], fun a b e => by simp at e⟩
      · exact ⟨by decide +kernel, fun a b e => by simp at e⟩
      · exact ⟨by simp [plain, plainL, fr], fun a b e => by simp [fr] at e⟩
      · refine ⟨by simp [plain, plainL], fun a b e => ?_⟩
        injection e with e
        injection e with _ e
        injection e with e _
        injection e with e
        rw [← e]
        decide
      · refine ⟨by simp [plain, plainL], fun a b e => ?_⟩
        injection e with e
        injection e with _ e
        injection e with e _
        injection e with e
        rw [← e]
        exact log_lt hp.1 (by decide)
theorem law11 {k : Int} {f so v m d nu to o2 : SV} {p : Rat} (hp : Sz 134 p) : w_law_L11 X1 (DDN N B) [.d s, .src, .d (.int k), f, so, v, m, d, nu, to, .d (fr p), o2, .un] := by
  refine ⟨imul_sz (m := 2) hp.1 (by decide) (by decide), imul_sz (m := 2) hp.den (by decide) (by decide), (show 2 ≤ 100000 by decide), (show 2 ≤ 100000 by decide), (show 2 ≤ 100000 by decide), (show 2 ≤ 100000 by decide), (show 1 ≤ 100000 by decide), (show 3 ≤ 100000 by decide), (show 2 ≤ 100000 by decide), (show 11 ≤ 100000 by decide), ?_⟩
  refine law12 hN hp (xs := [_, _, _, _, _, _, _, _, _, _, _]) (fun x hm => ?_) (show 11 ≤ 100 by decide)
  have two : ∀ i j : Int, j.natAbs < 2 ^ 200 → OkV (.tup [.int i, .int j]) := fun i j hj => by
    refine ⟨by simp [plain, plainL], fun a b e => ?_⟩
    injection e with e
    injection e with _ e
    injection e with e _
    injection e with e
    rw [← e]
    exact log_lt hj (by decide)
  have hd : (p.den : Int).natAbs < 2 ^ 134 := hp.den
  have e : x = fr p ∨ x = .tup [.int (p.num * 2), .int (p.den * 2)] ∨ x = .tup [.int p.num, .int (-p.den)] ∨ x = .tup [.int p.num, .int 0] ∨ x = .tup [.int 0, .int p.den] ∨ x = .lst [.int p.num, .int p.den] ∨ x = .tup [.int p.num, .int p.den, .int 1] ∨ x = .int p.num ∨ x = .non ∨ x = .str "1/2" ∨ x = .tup [.bl true, .int 1] := by simpa using hm
  rcases e with rfl | rfl | rfl | rfl | rfl | rfl | rfl | rfl | rfl | rfl | rfl
  · exact two _ _ (by omega)
  · exact two _ _ (by omega)
  · exact two _ _ (by omega)
  · exact two _ _ (by omega)
  · exact two _ _ (by omega)
  · exact ⟨by simp [plain, plainL], fun a b e => by simp at e⟩
  · exact ⟨by simp [plain, plainL], fun a b e => by simp at e⟩
  · exact ⟨by simp [plain, plainL], fun a b e => by simp at e⟩
  · exact ⟨by simp [plain, plainL], fun a b e => by simp at e⟩
  · exact ⟨by decide +kernel, fun a b e => by simp at e⟩
  · exact ⟨by simp [plain, plainL], fun a b e => by simp at e⟩
theorem law9 {k fa : Int} {so v m d nu to o2 : SV} {p : Rat} (hp : Sz 134 p) (hf : fa ≠ 0) (hf2 : fa.natAbs < 2 ^ 41) : w_law_L9 X1 (DDN N B) [.d s, .src, .d (.int k), .d (.int fa), so, v, m, d, nu, to, .d (fr p), o2, .un] := by
  refine ⟨imul_sz hp.1 hf2 (by decide), imul_sz hp.den hf2 (by decide), ?_⟩
  refine ⟨_, _, rfl, _, _, rfl, rfl, Int.mul_ne_zero (den_nz p) hf, log_lt (abs_mul_lt hp.den hf2) (by decide), ?_⟩
  refine ⟨imul_sz hp.den hf2 (by decide), imul_sz hp.1 hf2 (by decide), rfl, ?_⟩
  refine ⟨_, _, rfl, _, _, rfl, rfl, Int.mul_ne_zero (den_nz p) hf, log_lt (abs_mul_lt hp.den hf2) (by decide), ?_⟩
  rw [rat_scale hf]
  refine ⟨(show 2 ≤ 100000 by decide), (show 2 ≤ 100000 by decide), _, _, rfl, rfl, ?_, ?_⟩
  · show short 6 (D.lst [fr p, fr p]) = true
    simp [short, shortL, short_fr]
  · exact law11 hN hp
theorem law8 {k : Int} {f so v m d nu to o2 : SV} {p : Rat} (hp : Sz 134 p) : w_law_L8 X1 (DDN N B) [.d s, .src, .d (.int k), f, so, v, m, d, nu, to, .d (fr p), o2, .un] := by
  refine ⟨by decide, (show 6 ≤ 100000 by decide), 6, rfl, by decide, by decide, fun r r0 r1 => ?_⟩
  have hr : r = 0 ∨ r = 1 ∨ r = 2 ∨ r = 3 ∨ r = 4 ∨ r = 5 := by omega
  rcases hr with rfl | rfl | rfl | rfl | rfl | rfl
  · exact law9 hN hp (fa := 1) (by decide) (by decide)
  · exact law9 hN hp (fa := -1) (by decide) (by decide)
  · exact law9 hN hp (fa := 2) (by decide) (by decide)
  · exact law9 hN hp (fa := -6) (by decide) (by decide)
  · exact law9 hN hp (fa := 100) (by decide) (by decide)
  · exact law9 hN hp (fa := 10 ^ 12) (by decide) (by decide)
theorem law6 {k : Int} {f so v m d nu to : SV} {p q : Rat} (hp : Sz 134 p) (hq : Sz 134 q) : w_law_L6 X1 (DDN N B) [.d s, .src, .d (.int k), f, so, v, m, d, nu, to, .d (fr p), .d (fr q), .un] := by
  refine ⟨(show 2 ≤ 100000 by decide), (show 4 ≤ 100000 by decide), 4, rfl, by decide, by decide, fun r r0 r1 => ?_⟩
  have hr : r = 0 ∨ r = 1 ∨ r = 2 ∨ r = 3 := by omega
  rcases hr with rfl | rfl | rfl | rfl
  · exact ⟨_, _, rfl, p, p, rfl, rfl, hp, hp, law8 hN hp⟩
  · exact ⟨_, _, rfl, p, q, rfl, rfl, hp, hq, law8 hN hp⟩
  · exact ⟨_, _, rfl, p, q, rfl, rfl, hp, hq, law8 hN hp⟩
  · exact ⟨_, _, rfl, p, -p, rfl, fr_neg p, hp, hp.neg, law8 hN hp⟩
theorem law4 {k : Int} {f so v m d nu to : SV} {p q : Rat} (hp : Sz 134 p) (hq : Sz 134 q) : w_law_L4 X1 (DDN N B) [.d s, .src, .d (.int k), f, so, v, m, d, nu, to, .d (fr p), .d (fr q), .un] :=
  ⟨rfl, fun r hr => ⟨_, _, _, rfl, p, q, r, rfl, rfl, rfl, hp, hq, hr, law6 hN hp hq⟩⟩
end
theorem vc_law : ∀ ns : List Int, ns.length ≤ 63 → w_law (fun _ _ => False) { nx := fun _ => False, rt := fun r => r = .d (.bl true) } ((.d (.lst (ns.map D.int)) :: List.replicate (["script", "spring", "turn", "factor", "some", "value", "many", "due", "number", "told", "one", "other", "k"].length - 1) SV.un).set 1 .src) := by
  intro ns _
  refine ⟨⟨by decide, by decide⟩, ?_⟩
  refine forGo_inv (fun r ρ => (∀ x ∈ r, ∃ k : Int, x = .int k) ∧ ∃ t f so v m d nu to o1 o2 : SV, ρ = [.d (.lst (ns.map D.int)), .src, t, f, so, v, m, d, nu, to, o1, o2, .un]) ?_ ?_ _ _ ⟨?_, .un, .un, .un, .un, .un, .un, .un, .un, .un, .un, rfl⟩
  · rintro x r ρ ⟨hr, t, f, so, v, m, d, nu, to, o1, o2, rfl⟩ M hM
    obtain ⟨k, rfl⟩ := hr x List.mem_cons_self
    refine ⟨rfl, fun p hp => ⟨rfl, fun q hq => ?_⟩⟩
    exact law4 (fun t f so v m d nu to o1 o2 => hM _ ⟨fun y hy => hr y (List.mem_cons_of_mem _ hy), _, _, _, _, _, _, _, _, _, _, rfl⟩) hp hq
  · rintro ρ ⟨_, t, f, so, v, m, d, nu, to, o1, o2, rfl⟩
    rfl
  · intro x hx
    obtain ⟨k, _, rfl⟩ := mem_range hx
    exact ⟨_, rfl⟩
end DL
set_option linter.all false
set_option autoImplicit false
set_option maxHeartbeats 4000000
set_option maxRecDepth 100000
namespace DL
open PySem PySem.Spec PyProof.Rows L2
section
variable {P : Program} {w : World} {K : PySem.W.Frag} {mg : Str → Option Value} {base : Heap}
theorem sc__law_low : FnScope ["top", "bottom", "one", "other"] ["top", "bottom"] (defScope s__law_low) := ⟨rfl, rfl, rfl, by decide +kernel, rfl, by decide +kernel, by decide +kernel⟩
theorem fd__law_low (B : Bn mg) (C : Cn K mg)  {fa : Addr} {fd : FuncData} (F : Fun K "_law_low" "_law_low" s__law_low fa fd) (hm : mg "_law_low" = some (.ref fa)) (hb : Binds K fd ["top", "bottom"] []) (hk : ∀ p ∈ kws__law_low, KwOk fd ["top", "bottom"] p.1 p.2) : Fd P w K mg base SrcA 1 "_law_low" ["top", "bottom"] kws__law_low spec__law_low :=
  fd_of (wb := w__law_low) F sc__law_low hm hb hk len__law_low (fun cdv A0 outer s0 H0 E0 hr => have A := at_cx (P := P) (w := w) (K := K) (mg := mg) (base := base) (N := ["top", "bottom", "one", "other"]) (outer := outer) (H := H0) (E := E0) hr
   (dss_cons (ds_par2 2 3 sc__law_low.nd (dao_cons (de_cb call_abs lcb_abs B.abs (by decide +kernel) (da_cons (de_var 0) da_nil)) (dao_cons (de_cb call_abs lcb_abs B.abs (by decide +kernel) (da_cons (de_var 1) da_nil)) dao_nil)))
    (dss_cons (ds_while PassesOwn.cx (dt_cmp op_gt lop_gt (de_var 3) de_int (nomark _))
    (dss_one (ds_par2 2 3 sc__law_low.nd (dao_cons (de_var 3) (dao_cons (de_bin op_mod lop_mod (de_cty call_int1 lcb_int B.int (by decide +kernel) (da_cons (de_var 2) da_nil)) (de_var 3)) dao_nil)))))
    (dss_cons (ds_set 2 sc__law_low.nd (de_if (dt_cmp op_gt lop_gt (de_var 1) de_int (nomark _)) (de_var 2) (de_un un_neg lun_neg (de_var 2))))
    (dss_one (ds_ret (de_tup (da_cons (de_bin op_fdivNW lop_fdivN (de_var 0) (de_var 2)) (da_cons (de_bin op_fdivNW lop_fdivN (de_var 1) (de_var 2)) da_nil))))))))) vc__law_low

theorem sc__law_number : FnScope ["spring", "way"] ["spring"] (defScope s__law_number) := ⟨rfl, rfl, rfl, by decide +kernel, rfl, by decide +kernel, by decide +kernel⟩
theorem fd__law_number (B : Bn mg) (C : Cn K mg) (G__law_drop : Fd P w K mg base SrcA 1 "_law_drop" ["spring", "many"] kws__law_drop spec__law_drop) (G__law_low : Fd P w K mg base SrcA 1 "_law_low" ["top", "bottom"] kws__law_low spec__law_low) {fa : Addr} {fd : FuncData} (F : Fun K "_law_number" "_law_number" s__law_number fa fd) (hm : mg "_law_number" = some (.ref fa)) (hb : Binds K fd ["spring"] []) (hk : ∀ p ∈ kws__law_number, KwOk fd ["spring"] p.1 p.2) : Fd P w K mg base SrcA 2 "_law_number" ["spring"] kws__law_number spec__law_number :=
  fd_of (wb := w__law_number) F sc__law_number hm hb hk len__law_number (fun cdv A0 outer s0 H0 E0 hr => have A := at_cx (P := P) (w := w) (K := K) (mg := mg) (base := base) (N := ["spring", "way"]) (outer := outer) (H := H0) (E := E0) hr
   (dss_cons (ds_set 1 sc__law_number.nd (de_call A (by omega) G__law_drop (da_src 0 (da_cons de_int da_nil))))
    (dss_cons (ds_if (dt_cmp (op_eqD A.room.units) lop_eq (de_var 1) de_int (nomark _))
    (dss_one (ds_ret (de_tup (da_cons (de_bin op_sub lop_sub (de_call A (by omega) G__law_drop (da_src 0 (da_cons de_int da_nil))) de_int) (da_cons de_int da_nil)))))
    dss_nil)
    (dss_cons (ds_if (dt_cmp op_lt lop_lt (de_var 1) de_int (nomark _))
    (dss_one (ds_ret (de_call A (by omega) G__law_low (da_cons (de_bin op_sub lop_sub (de_call A (by omega) G__law_drop (da_src 0 (da_cons de_int da_nil))) de_int) (da_cons (de_ix (de_lst (da_cons de_int (da_cons de_int (da_cons de_int (da_cons de_int da_nil))))) (de_call A (by omega) G__law_drop (da_src 0 (da_cons de_int da_nil)))) da_nil)))))
    dss_nil)
    (dss_cons (ds_if (dt_cmp op_lt lop_lt (de_var 1) de_int (nomark _))
    (dss_one (ds_ret (de_call A (by omega) G__law_low (da_cons (de_bin op_sub lop_sub (de_call A (by omega) G__law_drop (da_src 0 (da_cons de_int da_nil))) de_int) (da_cons (de_bin op_addD lop_add de_int (de_call A (by omega) G__law_drop (da_src 0 (da_cons de_int da_nil)))) da_nil)))))
    dss_nil)
    (dss_one (ds_ret (de_call A (by omega) G__law_low (da_cons (de_bin op_sub lop_sub (de_call A (by omega) G__law_drop (da_src 0 (da_cons de_int da_nil))) de_int) (da_cons (de_bin op_addD lop_add de_int (de_call A (by omega) G__law_drop (da_src 0 (da_cons de_int da_nil)))) da_nil)))))))))) vc__law_number

theorem sc__law_any : FnScope ["spring"] ["spring"] (defScope s__law_any) := ⟨rfl, rfl, rfl, by decide +kernel, rfl, by decide +kernel, by decide +kernel⟩
theorem fd__law_any (B : Bn mg) (C : Cn K mg) (G__law_drop : Fd P w K mg base SrcA 1 "_law_drop" ["spring", "many"] kws__law_drop spec__law_drop) (G__law_low : Fd P w K mg base SrcA 1 "_law_low" ["top", "bottom"] kws__law_low spec__law_low) (G__law_number : Fd P w K mg base SrcA 2 "_law_number" ["spring"] kws__law_number spec__law_number) {fa : Addr} {fd : FuncData} (F : Fun K "_law_any" "_law_any" s__law_any fa fd) (hm : mg "_law_any" = some (.ref fa)) (hb : Binds K fd ["spring"] []) (hk : ∀ p ∈ kws__law_any, KwOk fd ["spring"] p.1 p.2) : Fd P w K mg base SrcA 3 "_law_any" ["spring"] kws__law_any spec__law_any :=
  fd_of (wb := w__law_any) F sc__law_any hm hb hk len__law_any (fun cdv A0 outer s0 H0 E0 hr => have A := at_cx (P := P) (w := w) (K := K) (mg := mg) (base := base) (N := ["spring"]) (outer := outer) (H := H0) (E := E0) hr
   (dss_cons (ds_if (dt_cmp op_gt lop_gt (de_call A (by omega) G__law_drop (da_src 0 (da_cons de_int da_nil))) de_int (nomark _))
    (dss_one (ds_ret (de_call A (by omega) G__law_number (da_src 0 da_nil))))
    dss_nil)
    (dss_one (ds_ret (de_call A (by omega) G__law_low (da_cons (de_bin op_sub lop_sub (de_call A (by omega) G__law_drop (da_src 0 (da_cons (de_bin op_pow lop_pow de_int de_int) da_nil))) (de_bin op_pow lop_pow de_int de_int)) (da_cons (de_bin op_addD lop_add de_int (de_call A (by omega) G__law_drop (da_src 0 (da_cons (de_ix (de_lst (da_cons (de_bin op_pow lop_pow de_int de_int) (da_cons (de_bin op_pow lop_pow de_int de_int) da_nil))) (de_call A (by omega) G__law_drop (da_src 0 (da_cons de_int da_nil)))) da_nil)))) da_nil))))))) vc__law_any

theorem sc_is_integer : FnScope ["value"] ["value"] (defScope s_is_integer) := ⟨rfl, rfl, rfl, by decide +kernel, rfl, by decide +kernel, by decide +kernel⟩
theorem fd_is_integer (B : Bn mg) (C : Cn K mg)  {fa : Addr} {fd : FuncData} (F : Fun K "is_integer" "is_integer" s_is_integer fa fd) (hm : mg "is_integer" = some (.ref fa)) (hb : Binds K fd ["value"] []) (hk : ∀ p ∈ kws_is_integer, KwOk fd ["value"] p.1 p.2) : Fd P w K mg base SrcA 1 "is_integer" ["value"] kws_is_integer spec_is_integer :=
  fd_of (wb := w_is_integer) F sc_is_integer hm hb hk len_is_integer (fun cdv A0 outer s0 H0 E0 hr => have A := at_cx (P := P) (w := w) (K := K) (mg := mg) (base := base) (N := ["value"]) (outer := outer) (H := H0) (E := E0) hr
   (dss_one (ds_ret (de_and (de_isi good_int B.isinstance B.int (by decide +kernel) (de_var 0)) (de_one (de_not (de_isi good_bool B.isinstance B.bool (by decide +kernel) (de_var 0)))))))) vc_is_integer

theorem sc_common : FnScope ["one", "other"] ["one", "other"] (defScope s_common) := ⟨rfl, rfl, rfl, by decide +kernel, rfl, by decide +kernel, by decide +kernel⟩
theorem fd_common (B : Bn mg) (C : Cn K mg)  {fa : Addr} {fd : FuncData} (F : Fun K "common" "common" s_common fa fd) (hm : mg "common" = some (.ref fa)) (hb : Binds K fd ["one", "other"] []) (hk : ∀ p ∈ kws_common, KwOk fd ["one", "other"] p.1 p.2) : Fd P w K mg base SrcA 1 "common" ["one", "other"] kws_common spec_common :=
  fd_of (wb := w_common) F sc_common hm hb hk len_common (fun cdv A0 outer s0 H0 E0 hr => have A := at_cx (P := P) (w := w) (K := K) (mg := mg) (base := base) (N := ["one", "other"]) (outer := outer) (H := H0) (E := E0) hr
   (dss_cons (ds_while PassesOwn.cx (dt_cmp op_gt lop_gt (de_var 1) de_int (nomark _))
    (dss_one (ds_par2 0 1 sc_common.nd (dao_cons (de_var 1) (dao_cons (de_bin op_mod lop_mod (de_var 0) (de_var 1)) dao_nil)))))
    (dss_one (ds_ret (de_var 0))))) vc_common

theorem sc_is_fraction : FnScope ["value"] ["value"] (defScope s_is_fraction) := ⟨rfl, rfl, rfl, by decide +kernel, rfl, by decide +kernel, by decide +kernel⟩
theorem fd_is_fraction (B : Bn mg) (C : Cn K mg) (G_is_integer : Fd P w K mg base SrcA 1 "is_integer" ["value"] kws_is_integer spec_is_integer) (G_common : Fd P w K mg base SrcA 1 "common" ["one", "other"] kws_common spec_common) {fa : Addr} {fd : FuncData} (F : Fun K "is_fraction" "is_fraction" s_is_fraction fa fd) (hm : mg "is_fraction" = some (.ref fa)) (hb : Binds K fd ["value"] []) (hk : ∀ p ∈ kws_is_fraction, KwOk fd ["value"] p.1 p.2) : Fd P w K mg base SrcA 2 "is_fraction" ["value"] kws_is_fraction spec_is_fraction :=
  fd_of (wb := w_is_fraction) F sc_is_fraction hm hb hk len_is_fraction (fun cdv A0 outer s0 H0 E0 hr => have A := at_cx (P := P) (w := w) (K := K) (mg := mg) (base := base) (N := ["value"]) (outer := outer) (H := H0) (E := E0) hr
   (dss_cons (ds_if (DW.dt (dw_or (dt_not (dt_val (de_isi good_tuple B.isinstance B.tuple (by decide +kernel) (de_var 0)))) (dw_or (dt_cmp (op_neD A.room.units) lop_ne (de_cb call_lenE lcb_len B.len (by decide +kernel) (da_cons (de_var 0) da_nil)) de_int (nomark _)) (dw_or (dt_not (dt_val (de_call A (by omega) G_is_integer (da_cons (de_ix (de_var 0) de_int) da_nil)))) (dw_or1 (dt_not (dt_val (de_call A (by omega) G_is_integer (da_cons (de_ix (de_var 0) de_int) da_nil)))))))))
    (dss_one (ds_ret de_bl))
    dss_nil)
    (dss_one (ds_ret (de_and (de_cmp op_gt lop_gt (de_ix (de_var 0) de_int) de_int (nomark _)) (de_one (de_cmp (op_eqD A.room.units) lop_eq (de_call A (by omega) G_common (da_cons (de_cb call_abs lcb_abs B.abs (by decide +kernel) (da_cons (de_ix (de_var 0) de_int) da_nil)) (da_cons (de_ix (de_var 0) de_int) da_nil))) de_int (nomark _)))))))) vc_is_fraction

theorem sc_check_fractions : FnScope ["numbers", "number"] ["numbers"] (defScope s_check_fractions) := ⟨rfl, rfl, rfl, by decide +kernel, rfl, by decide +kernel, by decide +kernel⟩
theorem fd_check_fractions (B : Bn mg) (C : Cn K mg) (G_is_fraction : Fd P w K mg base SrcA 2 "is_fraction" ["value"] kws_is_fraction spec_is_fraction) {fa : Addr} {fd : FuncData} (F : Fun K "check_fractions" "check_fractions" s_check_fractions fa fd) (hm : mg "check_fractions" = some (.ref fa)) (hb : Binds K fd ["numbers"] []) (hk : ∀ p ∈ kws_check_fractions, KwOk fd ["numbers"] p.1 p.2) : Fd P w K mg base SrcA 3 "check_fractions" ["numbers"] kws_check_fractions spec_check_fractions :=
  fd_of (wb := w_check_fractions) F sc_check_fractions hm hb hk len_check_fractions (fun cdv A0 outer s0 H0 E0 hr => have A := at_cx (P := P) (w := w) (K := K) (mg := mg) (base := base) (N := ["numbers", "number"]) (outer := outer) (H := H0) (E := E0) hr
   (dss_one (ds_if (dt_not (dt_val (de_cb (cr_all rfl) lcb_all B.all (by decide +kernel) (da_cons (de_ofL (dl_comp (own := [("number", 1)]) rfl sc_check_fractions.nd (di_seq (de_var 0)) (blkOk_by (own := [("number", 1)]) rfl) (fun s H C cl fp => (dgw_name 1 sc_check_fractions.nd (by decide))) (fun s H C cl fp => dts_nil) (fun s H C cl fp => (de_call (A.blk s H _ _ fp) (by omega) G_is_fraction (da_cons (de_var 1) da_nil))))) da_nil))))
    (dss_one ds_never)
    dss_nil))) vc_check_fractions

theorem sc_below : FnScope ["one", "other"] ["one", "other"] (defScope s_below) := ⟨rfl, rfl, rfl, by decide +kernel, rfl, by decide +kernel, by decide +kernel⟩
theorem fd_below (B : Bn mg) (C : Cn K mg) (G_check_fractions : Fd P w K mg base SrcA 3 "check_fractions" ["numbers"] kws_check_fractions spec_check_fractions) {fa : Addr} {fd : FuncData} (F : Fun K "below" "below" s_below fa fd) (hm : mg "below" = some (.ref fa)) (hb : Binds K fd ["one", "other"] []) (hk : ∀ p ∈ kws_below, KwOk fd ["one", "other"] p.1 p.2) : Fd P w K mg base SrcA 4 "below" ["one", "other"] kws_below spec_below :=
  fd_of (wb := w_below) F sc_below hm hb hk len_below (fun cdv A0 outer s0 H0 E0 hr => have A := at_cx (P := P) (w := w) (K := K) (mg := mg) (base := base) (N := ["one", "other"]) (outer := outer) (H := H0) (E := E0) hr
   (dss_cons (ds_drop (de_call A (by omega) G_check_fractions (da_cons (de_tup (da_cons (de_var 0) (da_cons (de_var 1) da_nil))) da_nil)))
    (dss_one (ds_ret (de_cmp op_lt lop_lt (de_bin op_mulD lop_mul (de_ix (de_var 0) de_int) (de_ix (de_var 1) de_int)) (de_bin op_mulD lop_mul (de_ix (de_var 1) de_int) (de_ix (de_var 0) de_int)) (nomark _)))))) vc_below

theorem sc_lowest : FnScope ["top", "bottom", "factor"] ["top", "bottom"] (defScope s_lowest) := ⟨rfl, rfl, rfl, by decide +kernel, rfl, by decide +kernel, by decide +kernel⟩
theorem fd_lowest (B : Bn mg) (C : Cn K mg) (G_common : Fd P w K mg base SrcA 1 "common" ["one", "other"] kws_common spec_common) {fa : Addr} {fd : FuncData} (F : Fun K "lowest" "lowest" s_lowest fa fd) (hm : mg "lowest" = some (.ref fa)) (hb : Binds K fd ["top", "bottom"] []) (hk : ∀ p ∈ kws_lowest, KwOk fd ["top", "bottom"] p.1 p.2) : Fd P w K mg base SrcA 2 "lowest" ["top", "bottom"] kws_lowest spec_lowest :=
  fd_of (wb := w_lowest) F sc_lowest hm hb hk len_lowest (fun cdv A0 outer s0 H0 E0 hr => have A := at_cx (P := P) (w := w) (K := K) (mg := mg) (base := base) (N := ["top", "bottom", "factor"]) (outer := outer) (H := H0) (E := E0) hr
   (dss_cons (ds_set 2 sc_lowest.nd (de_bin op_mulD lop_mul (de_call A (by omega) G_common (da_cons (de_cb call_abs lcb_abs B.abs (by decide +kernel) (da_cons (de_var 0) da_nil)) (da_cons (de_cb call_abs lcb_abs B.abs (by decide +kernel) (da_cons (de_var 1) da_nil)) da_nil))) (de_if (dt_cmp op_gt lop_gt (de_var 1) de_int (nomark _)) de_int (de_un un_neg lun_neg de_int))))
    (dss_one (ds_ret (de_tup (da_cons (de_bin op_fdivNW lop_fdivN (de_var 0) (de_var 2)) (da_cons (de_bin op_fdivNW lop_fdivN (de_var 1) (de_var 2)) da_nil))))))) vc_lowest

theorem sc_plus : FnScope ["one", "other"] ["one", "other"] (defScope s_plus) := ⟨rfl, rfl, rfl, by decide +kernel, rfl, by decide +kernel, by decide +kernel⟩
theorem fd_plus (B : Bn mg) (C : Cn K mg) (G_lowest : Fd P w K mg base SrcA 2 "lowest" ["top", "bottom"] kws_lowest spec_lowest) (G_check_fractions : Fd P w K mg base SrcA 3 "check_fractions" ["numbers"] kws_check_fractions spec_check_fractions) {fa : Addr} {fd : FuncData} (F : Fun K "plus" "plus" s_plus fa fd) (hm : mg "plus" = some (.ref fa)) (hb : Binds K fd ["one", "other"] []) (hk : ∀ p ∈ kws_plus, KwOk fd ["one", "other"] p.1 p.2) : Fd P w K mg base SrcA 4 "plus" ["one", "other"] kws_plus spec_plus :=
  fd_of (wb := w_plus) F sc_plus hm hb hk len_plus (fun cdv A0 outer s0 H0 E0 hr => have A := at_cx (P := P) (w := w) (K := K) (mg := mg) (base := base) (N := ["one", "other"]) (outer := outer) (H := H0) (E := E0) hr
   (dss_cons (ds_drop (de_call A (by omega) G_check_fractions (da_cons (de_tup (da_cons (de_var 0) (da_cons (de_var 1) da_nil))) da_nil)))
    (dss_one (ds_ret (de_call A (by omega) G_lowest (da_cons (de_bin op_addD lop_add (de_bin op_mulD lop_mul (de_ix (de_var 0) de_int) (de_ix (de_var 1) de_int)) (de_bin op_mulD lop_mul (de_ix (de_var 1) de_int) (de_ix (de_var 0) de_int))) (da_cons (de_bin op_mulD lop_mul (de_ix (de_var 0) de_int) (de_ix (de_var 1) de_int)) da_nil))))))) vc_plus

theorem sc_times : FnScope ["one", "other"] ["one", "other"] (defScope s_times) := ⟨rfl, rfl, rfl, by decide +kernel, rfl, by decide +kernel, by decide +kernel⟩
theorem fd_times (B : Bn mg) (C : Cn K mg) (G_lowest : Fd P w K mg base SrcA 2 "lowest" ["top", "bottom"] kws_lowest spec_lowest) (G_check_fractions : Fd P w K mg base SrcA 3 "check_fractions" ["numbers"] kws_check_fractions spec_check_fractions) {fa : Addr} {fd : FuncData} (F : Fun K "times" "times" s_times fa fd) (hm : mg "times" = some (.ref fa)) (hb : Binds K fd ["one", "other"] []) (hk : ∀ p ∈ kws_times, KwOk fd ["one", "other"] p.1 p.2) : Fd P w K mg base SrcA 4 "times" ["one", "other"] kws_times spec_times :=
  fd_of (wb := w_times) F sc_times hm hb hk len_times (fun cdv A0 outer s0 H0 E0 hr => have A := at_cx (P := P) (w := w) (K := K) (mg := mg) (base := base) (N := ["one", "other"]) (outer := outer) (H := H0) (E := E0) hr
   (dss_cons (ds_drop (de_call A (by omega) G_check_fractions (da_cons (de_tup (da_cons (de_var 0) (da_cons (de_var 1) da_nil))) da_nil)))
    (dss_one (ds_ret (de_call A (by omega) G_lowest (da_cons (de_bin op_mulD lop_mul (de_ix (de_var 0) de_int) (de_ix (de_var 1) de_int)) (da_cons (de_bin op_mulD lop_mul (de_ix (de_var 0) de_int) (de_ix (de_var 1) de_int)) da_nil))))))) vc_times

theorem sc_minus : FnScope ["one", "other"] ["one", "other"] (defScope s_minus) := ⟨rfl, rfl, rfl, by decide +kernel, rfl, by decide +kernel, by decide +kernel⟩
theorem fd_minus (B : Bn mg) (C : Cn K mg) (G_lowest : Fd P w K mg base SrcA 2 "lowest" ["top", "bottom"] kws_lowest spec_lowest) (G_check_fractions : Fd P w K mg base SrcA 3 "check_fractions" ["numbers"] kws_check_fractions spec_check_fractions) {fa : Addr} {fd : FuncData} (F : Fun K "minus" "minus" s_minus fa fd) (hm : mg "minus" = some (.ref fa)) (hb : Binds K fd ["one", "other"] []) (hk : ∀ p ∈ kws_minus, KwOk fd ["one", "other"] p.1 p.2) : Fd P w K mg base SrcA 4 "minus" ["one", "other"] kws_minus spec_minus :=
  fd_of (wb := w_minus) F sc_minus hm hb hk len_minus (fun cdv A0 outer s0 H0 E0 hr => have A := at_cx (P := P) (w := w) (K := K) (mg := mg) (base := base) (N := ["one", "other"]) (outer := outer) (H := H0) (E := E0) hr
   (dss_cons (ds_drop (de_call A (by omega) G_check_fractions (da_cons (de_tup (da_cons (de_var 0) (da_cons (de_var 1) da_nil))) da_nil)))
    (dss_one (ds_ret (de_call A (by omega) G_lowest (da_cons (de_bin op_sub lop_sub (de_bin op_mulD lop_mul (de_ix (de_var 0) de_int) (de_ix (de_var 1) de_int)) (de_bin op_mulD lop_mul (de_ix (de_var 1) de_int) (de_ix (de_var 0) de_int))) (da_cons (de_bin op_mulD lop_mul (de_ix (de_var 0) de_int) (de_ix (de_var 1) de_int)) da_nil))))))) vc_minus

theorem sc_over : FnScope ["one", "other"] ["one", "other"] (defScope s_over) := ⟨rfl, rfl, rfl, by decide +kernel, rfl, by decide +kernel, by decide +kernel⟩
theorem fd_over (B : Bn mg) (C : Cn K mg) (G_lowest : Fd P w K mg base SrcA 2 "lowest" ["top", "bottom"] kws_lowest spec_lowest) (G_check_fractions : Fd P w K mg base SrcA 3 "check_fractions" ["numbers"] kws_check_fractions spec_check_fractions) {fa : Addr} {fd : FuncData} (F : Fun K "over" "over" s_over fa fd) (hm : mg "over" = some (.ref fa)) (hb : Binds K fd ["one", "other"] []) (hk : ∀ p ∈ kws_over, KwOk fd ["one", "other"] p.1 p.2) : Fd P w K mg base SrcA 4 "over" ["one", "other"] kws_over spec_over :=
  fd_of (wb := w_over) F sc_over hm hb hk len_over (fun cdv A0 outer s0 H0 E0 hr => have A := at_cx (P := P) (w := w) (K := K) (mg := mg) (base := base) (N := ["one", "other"]) (outer := outer) (H := H0) (E := E0) hr
   (dss_cons (ds_drop (de_call A (by omega) G_check_fractions (da_cons (de_tup (da_cons (de_var 0) (da_cons (de_var 1) da_nil))) da_nil)))
    (dss_cons (ds_if (dt_cmp (op_eqD A.room.units) lop_eq (de_ix (de_var 1) de_int) de_int (nomark _))
    (dss_one ds_never)
    dss_nil)
    (dss_one (ds_ret (de_call A (by omega) G_lowest (da_cons (de_bin op_mulD lop_mul (de_ix (de_var 0) de_int) (de_ix (de_var 1) de_int)) (da_cons (de_bin op_mulD lop_mul (de_ix (de_var 0) de_int) (de_ix (de_var 1) de_int)) da_nil)))))))) vc_over

theorem sc__law_handed_on_right : FnScope ["a", "b", "c", "tiny"] ["a", "b", "c"] (defScope s__law_handed_on_right) := ⟨rfl, rfl, rfl, by decide +kernel, rfl, by decide +kernel, by decide +kernel⟩
theorem fd__law_handed_on_right (B : Bn mg) (C : Cn K mg) (G_plus : Fd P w K mg base SrcA 4 "plus" ["one", "other"] kws_plus spec_plus) (G_minus : Fd P w K mg base SrcA 4 "minus" ["one", "other"] kws_minus spec_minus) (G_times : Fd P w K mg base SrcA 4 "times" ["one", "other"] kws_times spec_times) (G_over : Fd P w K mg base SrcA 4 "over" ["one", "other"] kws_over spec_over) (G_below : Fd P w K mg base SrcA 4 "below" ["one", "other"] kws_below spec_below) {fa : Addr} {fd : FuncData} (F : Fun K "_law_handed_on_right" "_law_handed_on_right" s__law_handed_on_right fa fd) (hm : mg "_law_handed_on_right" = some (.ref fa)) (hb : Binds K fd ["a", "b", "c"] []) (hk : ∀ p ∈ kws__law_handed_on_right, KwOk fd ["a", "b", "c"] p.1 p.2) : Fd P w K mg base SrcA 5 "_law_handed_on_right" ["a", "b", "c"] kws__law_handed_on_right spec__law_handed_on_right :=
  fd_of (wb := w__law_handed_on_right) F sc__law_handed_on_right hm hb hk len__law_handed_on_right (fun cdv A0 outer s0 H0 E0 hr => have A := at_cx (P := P) (w := w) (K := K) (mg := mg) (base := base) (N := ["a", "b", "c", "tiny"]) (outer := outer) (H := H0) (E := E0) hr
   (dss_cons (ds_if (DW.dt (dw_or (dt_cmp (op_neD A.room.units) lop_ne (de_call A (by omega) G_plus (da_cons (de_call A (by omega) G_plus (da_cons (de_var 0) (da_cons (de_var 1) da_nil))) (da_cons (de_var 2) da_nil))) (de_call A (by omega) G_plus (da_cons (de_var 0) (da_cons (de_call A (by omega) G_plus (da_cons (de_var 1) (da_cons (de_var 2) da_nil))) da_nil))) (nomark _)) (dw_or1 (dt_cmp (op_neD A.room.units) lop_ne (de_call A (by omega) G_times (da_cons (de_call A (by omega) G_times (da_cons (de_var 0) (da_cons (de_var 1) da_nil))) (da_cons (de_var 2) da_nil))) (de_call A (by omega) G_times (da_cons (de_var 0) (da_cons (de_call A (by omega) G_times (da_cons (de_var 1) (da_cons (de_var 2) da_nil))) da_nil))) (nomark _)))))
    (dss_one (ds_ret de_bl))
    dss_nil)
    (dss_cons (ds_if (DW.dt (dw_or (dt_cmp (op_neD A.room.units) lop_ne (de_call A (by omega) G_times (da_cons (de_var 0) (da_cons (de_call A (by omega) G_plus (da_cons (de_var 1) (da_cons (de_var 2) da_nil))) da_nil))) (de_call A (by omega) G_plus (da_cons (de_call A (by omega) G_times (da_cons (de_var 0) (da_cons (de_var 1) da_nil))) (da_cons (de_call A (by omega) G_times (da_cons (de_var 0) (da_cons (de_var 2) da_nil))) da_nil))) (nomark _)) (dw_or (dt_cmp (op_neD A.room.units) lop_ne (de_call A (by omega) G_minus (da_cons (de_call A (by omega) G_plus (da_cons (de_var 0) (da_cons (de_var 1) da_nil))) (da_cons (de_var 1) da_nil))) (de_var 0) (nomark _)) (dw_or1 (dt_cmp (op_neD A.room.units) lop_ne (de_call A (by omega) G_plus (da_cons (de_call A (by omega) G_minus (da_cons (de_var 0) (da_cons (de_var 2) da_nil))) (da_cons (de_var 2) da_nil))) (de_var 0) (nomark _))))))
    (dss_one (ds_ret de_bl))
    dss_nil)
    (dss_cons (ds_if (DW.dt (dw_and (dt_cmp (op_neD A.room.units) lop_ne (de_ix (de_var 1) de_int) de_int (nomark _)) (dw_and1 (DW.dt (dw_or (dt_cmp (op_neD A.room.units) lop_ne (de_call A (by omega) G_over (da_cons (de_call A (by omega) G_times (da_cons (de_var 0) (da_cons (de_var 1) da_nil))) (da_cons (de_var 1) da_nil))) (de_var 0) (nomark _)) (dw_or (dt_cmp (op_neD A.room.units) lop_ne (de_call A (by omega) G_times (da_cons (de_call A (by omega) G_over (da_cons (de_var 0) (da_cons (de_var 1) da_nil))) (da_cons (de_var 1) da_nil))) (de_var 0) (nomark _)) (dw_or1 (dt_cmp (op_neD A.room.units) lop_ne (de_call A (by omega) G_over (da_cons (de_call A (by omega) G_over (da_cons (de_var 2) (da_cons (de_var 1) da_nil))) (da_cons (de_var 1) da_nil))) (de_call A (by omega) G_over (da_cons (de_var 2) (da_cons (de_call A (by omega) G_times (da_cons (de_var 1) (da_cons (de_var 1) da_nil))) da_nil))) (nomark _)))))))))
    (dss_one (ds_ret de_bl))
    dss_nil)
    (dss_cons (ds_set 3 sc__law_handed_on_right.nd (de_tup (da_cons de_int (da_cons (de_bin op_pow lop_pow de_int de_int) da_nil))))
    (dss_cons (ds_if (DW.dt (dw_or (dt_cmp op_isnot_bl lop_isNot (de_call A (by omega) G_below (da_cons (de_var 0) (da_cons (de_call A (by omega) G_plus (da_cons (de_var 0) (da_cons (de_var 3) da_nil))) da_nil))) de_bl (nomark _)) (dw_or (dt_cmp op_isnot_bl lop_isNot (de_call A (by omega) G_below (da_cons (de_call A (by omega) G_plus (da_cons (de_var 0) (da_cons (de_var 3) da_nil))) (da_cons (de_var 0) da_nil))) de_bl (nomark _)) (dw_or1 (dt_cmp op_isnot_bl lop_isNot (de_call A (by omega) G_below (da_cons (de_call A (by omega) G_minus (da_cons (de_var 0) (da_cons (de_var 3) da_nil))) (da_cons (de_var 0) da_nil))) de_bl (nomark _))))))
    (dss_one (ds_ret de_bl))
    dss_nil)
    (dss_one (ds_ret (de_cmp (op_eqD A.room.units) lop_eq (de_call A (by omega) G_below (da_cons (de_call A (by omega) G_times (da_cons (de_var 0) (da_cons (de_var 2) da_nil))) (da_cons (de_call A (by omega) G_times (da_cons (de_var 1) (da_cons (de_var 2) da_nil))) da_nil))) (de_if (dt_cmp op_gt lop_gt (de_ix (de_var 2) de_int) de_int (nomark _)) (de_call A (by omega) G_below (da_cons (de_var 0) (da_cons (de_var 1) da_nil))) (de_and (de_cmp op_lt lop_lt (de_ix (de_var 2) de_int) de_int (nomark _)) (de_one (de_call A (by omega) G_below (da_cons (de_var 1) (da_cons (de_var 0) da_nil)))))) (nomark _)))))))))) vc__law_handed_on_right

theorem sc__law_kinds : FnScope ["thing", "found"] ["thing"] (defScope s__law_kinds) := ⟨rfl, rfl, rfl, by decide +kernel, rfl, by decide +kernel, by decide +kernel⟩
theorem fd__law_kinds (B : Bn mg) (C : Cn K mg)  {fa : Addr} {fd : FuncData} (F : Fun K "_law_kinds" "_law_kinds" s__law_kinds fa fd) (hm : mg "_law_kinds" = some (.ref fa)) (hb : Binds K fd ["thing"] []) (hk : ∀ p ∈ kws__law_kinds, KwOk fd ["thing"] p.1 p.2) : Fd P w K mg base SrcA 1 "_law_kinds" ["thing"] kws__law_kinds spec__law_kinds :=
  fd_of (wb := w__law_kinds) F sc__law_kinds hm hb hk len__law_kinds (fun cdv A0 outer s0 H0 E0 hr => have A := at_cx (P := P) (w := w) (K := K) (mg := mg) (base := base) (N := ["thing", "found"]) (outer := outer) (H := H0) (E := E0) hr
   (dss_cons (ds_set 1 sc__law_kinds.nd (de_lst (da_cons (de_isi good_bool B.isinstance B.bool (by decide +kernel) (de_var 0)) (da_cons (de_isi good_int B.isinstance B.int (by decide +kernel) (de_var 0)) (da_cons (de_isi good_str B.isinstance B.str (by decide +kernel) (de_var 0)) da_nil)))))
    (dss_one (ds_ret (de_bin op_addD lop_add (de_var 1) (de_lst (da_cons (de_isi good_tuple B.isinstance B.tuple (by decide +kernel) (de_var 0)) (da_cons (de_isi good_list B.isinstance B.list (by decide +kernel) (de_var 0)) (da_cons (de_isN (de_var 0)) da_nil))))))))) vc__law_kinds

theorem sc__law_alike : FnScope ["found", "due", "k"] ["found", "due"] (defScope s__law_alike) := ⟨rfl, rfl, rfl, by decide +kernel, rfl, by decide +kernel, by decide +kernel⟩
theorem fd__law_alike (B : Bn mg) (C : Cn K mg) (G__law_kinds : Fd P w K mg base SrcA 1 "_law_kinds" ["thing"] kws__law_kinds spec__law_kinds) {fa : Addr} {fd : FuncData} (F : Fun K "_law_alike" "_law_alike" s__law_alike fa fd) (hm : mg "_law_alike" = some (.ref fa)) (hb : Binds K fd ["found", "due"] []) (hk : ∀ p ∈ kws__law_alike, KwOk fd ["found", "due"] p.1 p.2) : ∀ n : Nat, Fd P w K mg base SrcA (n + 2) "_law_alike" ["found", "due"] kws__law_alike (spec__law_alike n)
  | 0 => fd_of (wb := sNever) F sc__law_alike hm hb hk (len__law_alike 0) (fun cdv A0 outer s0 H0 E0 hr => dss_never) vc0__law_alike
  | n + 1 => have G__law_alike := fd__law_alike B C G__law_kinds F hm hb hk n
    fd_of (wb := w__law_alike n) F sc__law_alike hm hb hk (len__law_alike (n + 1)) (fun cdv A0 outer s0 H0 E0 hr => have A := at_cx (P := P) (w := w) (K := K) (mg := mg) (base := base) (N := ["found", "due", "k"]) (outer := outer) (H := H0) (E := E0) hr
   (dss_cons (ds_if (dt_cmp (op_neD A.room.units) lop_ne (de_call A (by omega) G__law_kinds (da_cons (de_var 0) da_nil)) (de_call A (by omega) G__law_kinds (da_cons (de_var 1) da_nil)) (nomark _))
    (dss_one (ds_ret de_bl))
    dss_nil)
    (dss_cons (ds_if (dt_val (de_isi2 good_tuple good_list B.isinstance B.tuple (by decide +kernel) B.list (by decide +kernel) (de_var 1)))
    (dss_one (ds_ret (de_and (de_cmp (op_eqD A.room.units) lop_eq (de_cb call_lenE lcb_len B.len (by decide +kernel) (da_cons (de_var 0) da_nil)) (de_cb call_lenE lcb_len B.len (by decide +kernel) (da_cons (de_var 1) da_nil)) (nomark _)) (de_one (de_cb (cr_all rfl) lcb_all B.all (by decide +kernel) (da_cons (de_ofL (dl_comp (own := [("k", 2)]) rfl sc__law_alike.nd (di_range1 B.range (de_cb call_lenE lcb_len B.len (by decide +kernel) (da_cons (de_var 1) da_nil))) (blkOk_by (own := [("k", 2)]) rfl) (fun s H C cl fp => (dgw_name 2 sc__law_alike.nd (by decide))) (fun s H C cl fp => dts_nil) (fun s H C cl fp => (de_call (A.blk s H _ _ fp) (by omega) G__law_alike (da_cons (de_ix (de_var 0) (de_var 2)) (da_cons (de_ix (de_var 1) (de_var 2)) da_nil)))))) da_nil))))))
    dss_nil)
    (dss_one (ds_ret (de_cmp (op_eqD A.room.units) lop_eq (de_var 0) (de_var 1) (nomark _))))))) (vc__law_alike n)

theorem sc__law_is : FnScope ["value", "one"] ["value"] (defScope s__law_is) := ⟨rfl, rfl, rfl, by decide +kernel, rfl, by decide +kernel, by decide +kernel⟩
theorem fd__law_is (B : Bn mg) (C : Cn K mg) (G__law_low : Fd P w K mg base SrcA 1 "_law_low" ["top", "bottom"] kws__law_low spec__law_low) {fa : Addr} {fd : FuncData} (F : Fun K "_law_is" "_law_is" s__law_is fa fd) (hm : mg "_law_is" = some (.ref fa)) (hb : Binds K fd ["value"] []) (hk : ∀ p ∈ kws__law_is, KwOk fd ["value"] p.1 p.2) : Fd P w K mg base SrcA 2 "_law_is" ["value"] kws__law_is spec__law_is :=
  fd_of (wb := w__law_is) F sc__law_is hm hb hk len__law_is (fun cdv A0 outer s0 H0 E0 hr => have A := at_cx (P := P) (w := w) (K := K) (mg := mg) (base := base) (N := ["value", "one"]) (outer := outer) (H := H0) (E := E0) hr
   (dss_cons (ds_if (DW.dt (dw_or (dt_not (dt_val (de_isi good_tuple B.isinstance B.tuple (by decide +kernel) (de_var 0)))) (dw_or1 (dt_cmp (op_neD A.room.units) lop_ne (de_cb call_lenE lcb_len B.len (by decide +kernel) (da_cons (de_var 0) da_nil)) de_int (nomark _)))))
    (dss_one (ds_ret de_bl))
    dss_nil)
    (dss_cons (ds_if (dt_not (dt_val (de_cb (cr_all rfl) lcb_all B.all (by decide +kernel) (da_cons (de_ofL (dl_comp (own := [("one", 1)]) rfl sc__law_is.nd (di_seq (de_var 0)) (blkOk_by (own := [("one", 1)]) rfl) (fun s H C cl fp => (dgw_name 1 sc__law_is.nd (by decide))) (fun s H C cl fp => dts_nil) (fun s H C cl fp => (de_and (de_isi good_int B.isinstance B.int (by decide +kernel) (de_var 1)) (de_one (de_not (de_isi good_bool B.isinstance B.bool (by decide +kernel) (de_var 1)))))))) da_nil))))
    (dss_one (ds_ret de_bl))
    dss_nil)
    (dss_one (ds_ret (de_and (de_cmp op_gt lop_gt (de_ix (de_var 0) de_int) de_int (nomark _)) (de_one (de_cmp (op_eqD A.room.units) lop_eq (de_call A (by omega) G__law_low (da_cons (de_ix (de_var 0) de_int) (da_cons (de_ix (de_var 0) de_int) da_nil))) (de_var 0) (nomark _))))))))) vc__law_is

theorem sc__law_means : FnScope ["found", "top", "bottom"] ["found", "top", "bottom"] (defScope s__law_means) := ⟨rfl, rfl, rfl, by decide +kernel, rfl, by decide +kernel, by decide +kernel⟩
theorem fd__law_means (B : Bn mg) (C : Cn K mg) (G__law_is : Fd P w K mg base SrcA 2 "_law_is" ["value"] kws__law_is spec__law_is) {fa : Addr} {fd : FuncData} (F : Fun K "_law_means" "_law_means" s__law_means fa fd) (hm : mg "_law_means" = some (.ref fa)) (hb : Binds K fd ["found", "top", "bottom"] []) (hk : ∀ p ∈ kws__law_means, KwOk fd ["found", "top", "bottom"] p.1 p.2) : Fd P w K mg base SrcA 3 "_law_means" ["found", "top", "bottom"] kws__law_means spec__law_means :=
  fd_of (wb := w__law_means) F sc__law_means hm hb hk len__law_means (fun cdv A0 outer s0 H0 E0 hr => have A := at_cx (P := P) (w := w) (K := K) (mg := mg) (base := base) (N := ["found", "top", "bottom"]) (outer := outer) (H := H0) (E := E0) hr
   (dss_one (ds_ret (de_and (de_call A (by omega) G__law_is (da_cons (de_var 0) da_nil)) (de_one (de_cmp (op_eqD A.room.units) lop_eq (de_bin op_mulD lop_mul (de_ix (de_var 0) de_int) (de_var 2)) (de_bin op_mulD lop_mul (de_var 1) (de_ix (de_var 0) de_int)) (nomark _))))))) vc__law_means

theorem sc__law_pair_right : FnScope ["one", "other", "told", "less", "a", "b", "c", "d", "found", "top", "bottom"] ["one", "other"] (defScope s__law_pair_right) := ⟨rfl, rfl, rfl, by decide +kernel, rfl, by decide +kernel, by decide +kernel⟩
theorem fd__law_pair_right (B : Bn mg) (C : Cn K mg) (G_plus : Fd P w K mg base SrcA 4 "plus" ["one", "other"] kws_plus spec_plus) (G_minus : Fd P w K mg base SrcA 4 "minus" ["one", "other"] kws_minus spec_minus) (G_times : Fd P w K mg base SrcA 4 "times" ["one", "other"] kws_times spec_times) (G_over : Fd P w K mg base SrcA 4 "over" ["one", "other"] kws_over spec_over) (G_below : Fd P w K mg base SrcA 4 "below" ["one", "other"] kws_below spec_below) (G__law_alike : Fd P w K mg base SrcA 8 "_law_alike" ["found", "due"] kws__law_alike (spec__law_alike 6)) (G__law_means : Fd P w K mg base SrcA 3 "_law_means" ["found", "top", "bottom"] kws__law_means spec__law_means) {fa : Addr} {fd : FuncData} (F : Fun K "_law_pair_right" "_law_pair_right" s__law_pair_right fa fd) (hm : mg "_law_pair_right" = some (.ref fa)) (hb : Binds K fd ["one", "other"] []) (hk : ∀ p ∈ kws__law_pair_right, KwOk fd ["one", "other"] p.1 p.2) : Fd P w K mg base SrcA 9 "_law_pair_right" ["one", "other"] kws__law_pair_right spec__law_pair_right :=
  fd_of (wb := w__law_pair_right) F sc__law_pair_right hm hb hk len__law_pair_right (fun cdv A0 outer s0 H0 E0 hr => have A := at_cx (P := P) (w := w) (K := K) (mg := mg) (base := base) (N := ["one", "other", "told", "less", "a", "b", "c", "d", "found", "top", "bottom"]) (outer := outer) (H := H0) (E := E0) hr
   (dss_cons (ds_asg (de_tup (da_cons (de_ix (de_var 0) de_int) (da_cons (de_ix (de_var 0) de_int) (da_cons (de_ix (de_var 1) de_int) (da_cons (de_ix (de_var 1) de_int) da_nil))))) (dg_tup (dgs_cons (dg_name 4 sc__law_pair_right.nd) (dgs_cons (dg_name 5 sc__law_pair_right.nd) (dgs_cons (dg_name 6 sc__law_pair_right.nd) (dgs_cons (dg_name 7 sc__law_pair_right.nd) dgs_nil))))))
    (dss_cons (ds_setL 2 sc__law_pair_right.nd (dl_lst (da_cons (de_lst (da_cons (de_call A (by omega) G_plus (da_cons (de_var 0) (da_cons (de_var 1) da_nil))) (da_cons (de_bin op_addD lop_add (de_bin op_mulD lop_mul (de_var 4) (de_var 7)) (de_bin op_mulD lop_mul (de_var 6) (de_var 5))) (da_cons (de_bin op_mulD lop_mul (de_var 5) (de_var 7)) da_nil)))) (da_cons (de_lst (da_cons (de_call A (by omega) G_minus (da_cons (de_var 0) (da_cons (de_var 1) da_nil))) (da_cons (de_bin op_sub lop_sub (de_bin op_mulD lop_mul (de_var 4) (de_var 7)) (de_bin op_mulD lop_mul (de_var 6) (de_var 5))) (da_cons (de_bin op_mulD lop_mul (de_var 5) (de_var 7)) da_nil)))) (da_cons (de_lst (da_cons (de_call A (by omega) G_times (da_cons (de_var 0) (da_cons (de_var 1) da_nil))) (da_cons (de_bin op_mulD lop_mul (de_var 4) (de_var 6)) (da_cons (de_bin op_mulD lop_mul (de_var 5) (de_var 7)) da_nil)))) da_nil)))))
    (dss_freeze 2 (dss_cons (ds_setL 2 sc__law_pair_right.nd (dl_cat (de_var 2) (de_lst (da_cons (de_lst (da_cons (de_callK (ks := ["other", "one"]) (idx := [1, 0]) A (by omega) G_plus (by decide) (dk_cons (de_var 1) (dk_cons (de_var 0) dk_nil))) (da_cons (de_bin op_addD lop_add (de_bin op_mulD lop_mul (de_var 4) (de_var 7)) (de_bin op_mulD lop_mul (de_var 6) (de_var 5))) (da_cons (de_bin op_mulD lop_mul (de_var 5) (de_var 7)) da_nil)))) (da_cons (de_lst (da_cons (de_callK (ks := ["other", "one"]) (idx := [1, 0]) A (by omega) G_minus (by decide) (dk_cons (de_var 1) (dk_cons (de_var 0) dk_nil))) (da_cons (de_bin op_sub lop_sub (de_bin op_mulD lop_mul (de_var 4) (de_var 7)) (de_bin op_mulD lop_mul (de_var 6) (de_var 5))) (da_cons (de_bin op_mulD lop_mul (de_var 5) (de_var 7)) da_nil)))) da_nil)))))
    (dss_cons (ds_append 2 (de_lst (da_cons (de_callK (ks := ["other", "one"]) (idx := [1, 0]) A (by omega) G_times (by decide) (dk_cons (de_var 1) (dk_cons (de_var 0) dk_nil))) (da_cons (de_bin op_mulD lop_mul (de_var 4) (de_var 6)) (da_cons (de_bin op_mulD lop_mul (de_var 5) (de_var 7)) da_nil)))))
    (dss_cons (ds_if (dt_cmp (op_neD A.room.units) lop_ne (de_var 6) de_int (nomark _))
    (dss_freeze 2 (dss_one (ds_setL 2 sc__law_pair_right.nd (dl_cat (de_var 2) (de_lst (da_cons (de_lst (da_cons (de_call A (by omega) G_over (da_cons (de_var 0) (da_cons (de_var 1) da_nil))) (da_cons (de_bin op_mulD lop_mul (de_var 4) (de_var 7)) (da_cons (de_bin op_mulD lop_mul (de_var 5) (de_var 6)) da_nil)))) (da_cons (de_lst (da_cons (de_callK (ks := ["other", "one"]) (idx := [1, 0]) A (by omega) G_over (by decide) (dk_cons (de_var 1) (dk_cons (de_var 0) dk_nil))) (da_cons (de_bin op_mulD lop_mul (de_var 4) (de_var 7)) (da_cons (de_bin op_mulD lop_mul (de_var 5) (de_var 6)) da_nil)))) da_nil)))))))
    dss_nil)
    (dss_cons (ds_if (dt_borrow 2 (dt_not (dt_val (de_cb (cr_all rfl) lcb_all B.all (by decide +kernel) (da_cons (de_ofL (dl_comp (own := [("found", 8), ("top", 9), ("bottom", 10)]) rfl sc__law_pair_right.nd (di_seq (de_var 2)) (blkOk_by (own := [("found", 8), ("top", 9), ("bottom", 10)]) rfl) (fun s H C cl fp => (dgw_tup (dgws_cons (dgw_name 8 sc__law_pair_right.nd (by decide)) (dgws_cons (dgw_name 9 sc__law_pair_right.nd (by decide)) (dgws_cons (dgw_name 10 sc__law_pair_right.nd (by decide)) dgws_nil))) rfl)) (fun s H C cl fp => dts_nil) (fun s H C cl fp => (de_call (A.blk s H _ _ fp) (by omega) G__law_means (da_cons (de_var 8) (da_cons (de_var 9) (da_cons (de_var 10) da_nil))))))) da_nil)))))
    (dss_one (ds_ret de_bl))
    dss_nil)
    (dss_cons (ds_set 3 sc__law_pair_right.nd (de_cmp op_lt lop_lt (de_bin op_mulD lop_mul (de_var 4) (de_var 7)) (de_bin op_mulD lop_mul (de_var 6) (de_var 5)) (nomark _)))
    (dss_one (ds_ret (de_call A (by omega) G__law_alike (da_cons (de_lst (da_cons (de_call A (by omega) G_below (da_cons (de_var 0) (da_cons (de_var 1) da_nil))) (da_cons (de_callK (ks := ["other", "one"]) (idx := [1, 0]) A (by omega) G_below (by decide) (dk_cons (de_var 1) (dk_cons (de_var 0) dk_nil))) (da_cons (de_call A (by omega) G_below (da_cons (de_var 0) (da_cons (de_var 0) da_nil))) da_nil)))) (da_cons (de_lst (da_cons (de_var 3) (da_cons (de_var 3) (da_cons de_bl da_nil)))) da_nil)))))))))))))) vc__law_pair_right

theorem sc__law_plus : FnScope ["one", "other"] ["one", "other"] (defScope s__law_plus) := ⟨rfl, rfl, rfl, by decide +kernel, rfl, by decide +kernel, by decide +kernel⟩
theorem fd__law_plus (B : Bn mg) (C : Cn K mg) (G__law_low : Fd P w K mg base SrcA 1 "_law_low" ["top", "bottom"] kws__law_low spec__law_low) {fa : Addr} {fd : FuncData} (F : Fun K "_law_plus" "_law_plus" s__law_plus fa fd) (hm : mg "_law_plus" = some (.ref fa)) (hb : Binds K fd ["one", "other"] []) (hk : ∀ p ∈ kws__law_plus, KwOk fd ["one", "other"] p.1 p.2) : Fd P w K mg base SrcA 2 "_law_plus" ["one", "other"] kws__law_plus spec__law_plus :=
  fd_of (wb := w__law_plus) F sc__law_plus hm hb hk len__law_plus (fun cdv A0 outer s0 H0 E0 hr => have A := at_cx (P := P) (w := w) (K := K) (mg := mg) (base := base) (N := ["one", "other"]) (outer := outer) (H := H0) (E := E0) hr
   (dss_one (ds_ret (de_call A (by omega) G__law_low (da_cons (de_bin op_addD lop_add (de_bin op_mulD lop_mul (de_ix (de_var 0) de_int) (de_ix (de_var 1) de_int)) (de_bin op_mulD lop_mul (de_ix (de_var 1) de_int) (de_ix (de_var 0) de_int))) (da_cons (de_bin op_mulD lop_mul (de_ix (de_var 0) de_int) (de_ix (de_var 1) de_int)) da_nil)))))) vc__law_plus

theorem sc_sum_of : FnScope ["numbers", "found", "number"] ["numbers"] (defScope s_sum_of) := ⟨rfl, rfl, rfl, by decide +kernel, rfl, by decide +kernel, by decide +kernel⟩
theorem fd_sum_of (B : Bn mg) (C : Cn K mg) (G_lowest : Fd P w K mg base SrcA 2 "lowest" ["top", "bottom"] kws_lowest spec_lowest) (G_check_fractions : Fd P w K mg base SrcA 3 "check_fractions" ["numbers"] kws_check_fractions spec_check_fractions) {fa : Addr} {fd : FuncData} (F : Fun K "sum_of" "sum_of" s_sum_of fa fd) (hm : mg "sum_of" = some (.ref fa)) (hb : Binds K fd ["numbers"] []) (hk : ∀ p ∈ kws_sum_of, KwOk fd ["numbers"] p.1 p.2) : Fd P w K mg base SrcA 4 "sum_of" ["numbers"] kws_sum_of spec_sum_of :=
  fd_of (wb := w_sum_of) F sc_sum_of hm hb hk len_sum_of (fun cdv A0 outer s0 H0 E0 hr => have A := at_cx (P := P) (w := w) (K := K) (mg := mg) (base := base) (N := ["numbers", "found", "number"]) (outer := outer) (H := H0) (E := E0) hr
   (dss_cons (ds_if (dt_not (dt_val (de_isi good_tuple B.isinstance B.tuple (by decide +kernel) (de_var 0))))
    (dss_one ds_never)
    dss_nil)
    (dss_cons (ds_drop (de_call A (by omega) G_check_fractions (da_cons (de_var 0) da_nil)))
    (dss_cons (ds_set 1 sc_sum_of.nd (de_gc C.NOUGHT))
    (dss_cons (ds_for PassesOwn.cx (di_seq (de_var 0)) (dg_name 2 sc_sum_of.nd)
    (dss_one (ds_set 1 sc_sum_of.nd (de_call A (by omega) G_lowest (da_cons (de_bin op_addD lop_add (de_bin op_mulD lop_mul (de_ix (de_var 1) de_int) (de_ix (de_var 2) de_int)) (de_bin op_mulD lop_mul (de_ix (de_var 2) de_int) (de_ix (de_var 1) de_int))) (da_cons (de_bin op_mulD lop_mul (de_ix (de_var 1) de_int) (de_ix (de_var 2) de_int)) da_nil))))))
    (dss_one (ds_ret (de_var 1)))))))) vc_sum_of

theorem sc_fraction : FnScope ["top", "bottom"] ["top", "bottom"] (defScope s_fraction) := ⟨rfl, rfl, rfl, by decide +kernel, rfl, by decide +kernel, by decide +kernel⟩
theorem fd_fraction (B : Bn mg) (C : Cn K mg) (G_is_integer : Fd P w K mg base SrcA 1 "is_integer" ["value"] kws_is_integer spec_is_integer) (G_lowest : Fd P w K mg base SrcA 2 "lowest" ["top", "bottom"] kws_lowest spec_lowest) {fa : Addr} {fd : FuncData} (F : Fun K "fraction" "fraction" s_fraction fa fd) (hm : mg "fraction" = some (.ref fa)) (hb : Binds K fd ["top", "bottom"] []) (hk : ∀ p ∈ kws_fraction, KwOk fd ["top", "bottom"] p.1 p.2) : Fd P w K mg base SrcA 3 "fraction" ["top", "bottom"] kws_fraction spec_fraction :=
  fd_of (wb := w_fraction) F sc_fraction hm hb hk len_fraction (fun cdv A0 outer s0 H0 E0 hr => have A := at_cx (P := P) (w := w) (K := K) (mg := mg) (base := base) (N := ["top", "bottom"]) (outer := outer) (H := H0) (E := E0) hr
   (dss_cons (ds_if (DW.dt (dw_or (dt_not (dt_val (de_call A (by omega) G_is_integer (da_cons (de_var 0) da_nil)))) (dw_or (dt_not (dt_val (de_call A (by omega) G_is_integer (da_cons (de_var 1) da_nil)))) (dw_or1 (dt_cmp (op_eqD A.room.units) lop_eq (de_var 1) de_int (nomark _))))))
    (dss_one ds_never)
    dss_nil)
    (dss_one (ds_ret (de_call A (by omega) G_lowest (da_cons (de_var 0) (da_cons (de_var 1) da_nil))))))) vc_fraction

end
end DL
set_option linter.all false
set_option autoImplicit false
set_option maxHeartbeats 4000000
set_option maxRecDepth 100000
namespace DL
open PySem PySem.Spec PyProof.Rows L2
section
variable {P : Program} {w : World} {K : PySem.W.Frag} {mg : Str → Option Value} {base : Heap}
theorem sc_law : FnScope ["script", "spring", "turn", "factor", "some", "value", "many", "due", "number", "told", "one", "other", "k"] ["script"] (defScope s_law) := ⟨rfl, rfl, rfl, by decide +kernel, rfl, by decide +kernel, by decide +kernel⟩
theorem fd_law (B : Bn mg) (C : Cn K mg) (G_is_fraction : Fd P w K mg base SrcA 2 "is_fraction" ["value"] kws_is_fraction spec_is_fraction) (G_fraction : Fd P w K mg base SrcA 3 "fraction" ["top", "bottom"] kws_fraction spec_fraction) (G_sum_of : Fd P w K mg base SrcA 4 "sum_of" ["numbers"] kws_sum_of spec_sum_of) (G__law_drop : Fd P w K mg base SrcA 1 "_law_drop" ["spring", "many"] kws__law_drop spec__law_drop) (G__law_alike : Fd P w K mg base SrcA 8 "_law_alike" ["found", "due"] kws__law_alike (spec__law_alike 6)) (G__law_plus : Fd P w K mg base SrcA 2 "_law_plus" ["one", "other"] kws__law_plus spec__law_plus) (G__law_is : Fd P w K mg base SrcA 2 "_law_is" ["value"] kws__law_is spec__law_is) (G__law_pair_right : Fd P w K mg base SrcA 9 "_law_pair_right" ["one", "other"] kws__law_pair_right spec__law_pair_right) (G__law_any : Fd P w K mg base SrcA 3 "_law_any" ["spring"] kws__law_any spec__law_any) (G__law_handed_on_right : Fd P w K mg base SrcA 5 "_law_handed_on_right" ["a", "b", "c"] kws__law_handed_on_right spec__law_handed_on_right) {fa : Addr} {fd : FuncData} (F : Fun K "law" "law" s_law fa fd) (M : MadeBy P w K mg base SrcA 1 "_law_spring") : FnOk P w K mg base (L2.CX P w) 10 fa fd ["script"] (spLaw K) := by
  obtain ⟨f', fd', F', hm', hk', hb'⟩ := M.ex
  exact law_of (wb := w_law) (i := 1) (k := 9) F sc_law rfl (fun cdv A0 outer s0 H0 E0 hr => have A := at_cx (P := P) (w := w) (K := K) (mg := mg) (base := base) (N := ["script", "spring", "turn", "factor", "some", "value", "many", "due", "number", "told", "one", "other", "k"]) (outer := outer) (H := H0) (E := E0) hr
      ps_set (i := 1) sc_law.nd rfl (by first | exact Or.inl rfl | exact Or.inr rfl) (pe_callS F' (A.room.mono (by omega)) rfl hm' hk' hb' A.pass (pa_cons (pv 0) pa_nil))) rfl (by decide)
    (fun cdv A0 outer s0 H0 E0 hr => have A := at_cx (P := P) (w := w) (K := K) (mg := mg) (base := base) (N := ["script", "spring", "turn", "factor", "some", "value", "many", "due", "number", "told", "one", "other", "k"]) (outer := outer) (H := H0) (E := E0) hr
   (dss_cons (ds_for PassesOwn.cx (di_range1 B.range de_int) (dg_name 2 sc_law.nd)
    (dss_cons (ds_par2 10 11 sc_law.nd (dao_cons (de_call A (by omega) G__law_any (da_src 1 da_nil)) (dao_cons (de_call A (by omega) G__law_any (da_src 1 da_nil)) dao_nil)))
    (dss_cons (ds_if (dt_not (dt_val (de_call A (by omega) G__law_handed_on_right (da_cons (de_var 10) (da_cons (de_var 11) (da_cons (de_call A (by omega) G__law_any (da_src 1 da_nil)) da_nil))))))
    (dss_one (ds_ret de_bl))
    dss_nil)
    (dss_cons (ds_if (dt_not (dt_val (de_call A (by omega) G__law_pair_right (da_cons (de_var 10) (da_cons (de_ix (de_lst (da_cons (de_var 10) (da_cons (de_var 11) (da_cons (de_var 11) (da_cons (de_tup (da_cons (de_un un_neg lun_neg (de_ix (de_var 10) de_int)) (da_cons (de_ix (de_var 10) de_int) da_nil))) da_nil))))) (de_call A (by omega) G__law_drop (da_src 1 (da_cons de_int da_nil)))) da_nil)))))
    (dss_one (ds_ret de_bl))
    dss_nil)
    (dss_cons (ds_set 3 sc_law.nd (de_ix (de_lst (da_cons de_int (da_cons (de_un un_neg lun_neg de_int) (da_cons de_int (da_cons (de_un un_neg lun_neg de_int) (da_cons de_int (da_cons (de_bin op_pow lop_pow de_int de_int) da_nil))))))) (de_call A (by omega) G__law_drop (da_src 1 (da_cons de_int da_nil)))))
    (dss_cons (ds_if (dt_not (dt_val (de_call A (by omega) G__law_alike (da_cons (de_lst (da_cons (de_call A (by omega) G_fraction (da_cons (de_bin op_mulD lop_mul (de_ix (de_var 10) de_int) (de_var 3)) (da_cons (de_bin op_mulD lop_mul (de_ix (de_var 10) de_int) (de_var 3)) da_nil))) (da_cons (de_callK (ks := ["bottom", "top"]) (idx := [1, 0]) A (by omega) G_fraction (by decide) (dk_cons (de_bin op_mulD lop_mul (de_ix (de_var 10) de_int) (de_var 3)) (dk_cons (de_bin op_mulD lop_mul (de_ix (de_var 10) de_int) (de_var 3)) dk_nil))) da_nil))) (da_cons (de_lst (da_cons (de_var 10) (da_cons (de_var 10) da_nil))) da_nil)))))
    (dss_one (ds_ret de_bl))
    dss_nil)
    (dss_cons (ds_set 4 sc_law.nd (de_lst (da_cons (de_var 10) (da_cons (de_tup (da_cons (de_bin op_mulD lop_mul (de_ix (de_var 10) de_int) de_int) (da_cons (de_bin op_mulD lop_mul (de_ix (de_var 10) de_int) de_int) da_nil))) (da_cons (de_tup (da_cons (de_ix (de_var 10) de_int) (da_cons (de_un un_neg lun_neg (de_ix (de_var 10) de_int)) da_nil))) (da_cons (de_tup (da_cons (de_ix (de_var 10) de_int) (da_cons de_int da_nil))) (da_cons (de_tup (da_cons de_int (da_cons (de_ix (de_var 10) de_int) da_nil))) (da_cons (de_ofL (dl_cty call_list_of lcl_list B.list (by decide +kernel) (da_cons (de_var 10) da_nil))) (da_cons (de_bin op_addD lop_add (de_var 10) (de_tup (da_cons de_int da_nil))) (da_cons (de_ix (de_var 10) de_int) (da_cons de_non (da_cons de_str (da_cons (de_tup (da_cons de_bl (da_cons de_int da_nil))) da_nil)))))))))))))
    (dss_cons (ds_for PassesOwn.cx (di_seq (de_bin op_addD lop_add (de_var 4) (de_lst (da_cons (de_tup (da_cons de_int (da_cons de_bl da_nil))) (da_cons (de_tup (da_cons de_int da_nil)) (da_cons (de_tup da_nil) (da_cons (de_tup (da_cons de_str (da_cons de_int da_nil))) (da_cons (de_tup (da_cons (de_var 10) (da_cons (de_var 10) da_nil))) (da_cons (de_tup (da_cons de_int (da_cons de_int da_nil))) (da_cons (de_tup (da_cons (de_ix (de_var 10) de_int) (da_cons (de_ix (de_var 10) de_int) da_nil))) da_nil)))))))))) (dg_name 5 sc_law.nd)
    (dss_cons (ds_set 7 sc_law.nd (de_call A (by omega) G__law_is (da_cons (de_var 5) da_nil)))
    (dss_one (ds_if (dt_not (dt_val (de_call A (by omega) G__law_alike (da_cons (de_lst (da_cons (de_call A (by omega) G_is_fraction (da_cons (de_var 5) da_nil)) (da_cons (de_callK (ks := ["value"]) (idx := [0]) A (by omega) G_is_fraction (by decide) (dk_cons (de_var 5) dk_nil)) da_nil))) (da_cons (de_lst (da_cons (de_var 7) (da_cons (de_var 7) da_nil))) da_nil)))))
    (dss_one (ds_ret de_bl))
    dss_nil))))
    (dss_cons (ds_setLcD (own := [("k", 12)]) 6 sc_law.nd (di_range1 B.range (de_call A (by omega) G__law_drop (da_src 1 (da_cons (de_ix (de_lst (da_cons de_int (da_cons de_int da_nil))) (de_cty call_int1 lcb_int B.int (by decide +kernel) (da_cons (de_cmp (op_eqD A.room.units) lop_eq (de_var 2) de_int (nomark _)) da_nil))) da_nil)))) (blkOk_by (own := [("k", 12)]) rfl) (fun s H C cl fp => (dgw_name 12 sc_law.nd (by decide))) (fun s H C cl fp => dts_nil) (fun s H C cl fp => (de_call (A.blk s H _ _ fp) (by omega) G__law_any (da_src 1 da_nil))) (sw_true rfl rfl rfl (by decide +kernel)))
    (dss_cons (ds_set 7 sc_law.nd (de_tup (da_cons de_int (da_cons de_int da_nil))))
    (dss_cons (ds_for PassesOwn.cx (di_seq (de_var 6)) (dg_name 8 sc_law.nd)
    (dss_one (ds_set 7 sc_law.nd (de_call A (by omega) G__law_plus (da_cons (de_var 7) (da_cons (de_var 8) da_nil))))))
    (dss_cons (ds_set 9 sc_law.nd (de_lst (da_cons (de_call A (by omega) G_sum_of (da_cons (de_cty call_tuple_of lcb_tuple B.tuple (by decide +kernel) (da_cons (de_var 6) da_nil)) da_nil)) (da_cons (de_call A (by omega) G_sum_of (da_cons (de_cty call_tuple_of lcb_tuple B.tuple (by decide +kernel) (da_cons (de_rev (de_var 6)) da_nil)) da_nil)) (da_cons (de_callK (ks := ["numbers"]) (idx := [0]) A (by omega) G_sum_of (by decide) (dk_cons (de_cty call_tuple_of lcb_tuple B.tuple (by decide +kernel) (da_cons (de_ofL (dl_cb cr_sortD lcl_sorted B.sorted (by decide +kernel) (da_cons (de_var 6) da_nil))) da_nil)) dk_nil)) da_nil)))))
    (dss_one (ds_if (dt_not (dt_val (de_call A (by omega) G__law_alike (da_cons (de_var 9) (da_cons (de_lst (da_cons (de_var 7) (da_cons (de_var 7) (da_cons (de_var 7) da_nil)))) da_nil)))))
    (dss_one (ds_ret de_bl))
    dss_nil))))))))))))))
    (dss_one (ds_ret de_bl)))) vc_law
end
end DL
set_option linter.all false
set_option autoImplicit false
set_option maxHeartbeats 2000000
set_option maxRecDepth 100000
namespace DL
open PySem PySem.Spec PyProof.Rows L2
theorem sc__law_drop : FnScope ["spring", "many", "great", "found"] ["spring", "many"] (defScope s__law_drop) := ⟨rfl, rfl, rfl, by decide +kernel, rfl, by decide +kernel, by decide +kernel⟩
section
variable {P : Program} {w : World} {K : PySem.W.Frag} {mg : Str → Option Value} {base : Heap}
theorem fd__law_drop (mi : mg "int" = none) {f : Addr} {fd : FuncData} (F : Fun K "_law_drop" "_law_drop" s__law_drop f fd) (hm : mg "_law_drop" = some (.ref f)) (hb : Binds K fd ["spring", "many"] []) : Fd P w K mg base SrcA 1 "_law_drop" ["spring", "many"] [] spec_draw := by
  have len : ∀ {ss : List SV} {src : Option (Addr × List Addr)} {F0 : Hp} {vs : List V}, ArgsOk K src F0 ss vs → vs.length = ss.length := fun h => h.get.1
  refine ⟨f, fd, F.okX sc__law_drop (fun vs H Q E h => ?_) (fun cdv A0 outer s0 H0 vs Q E hr h => ?_), hm, F.kp, hb, fun p hp => nomatch hp⟩
  · obtain ⟨src, F0, ss, Qd, Xe, _, _, r, h1, _⟩ := h
    rw [len r]
    exact len_draw _ _ _ h1
  · obtain ⟨src, F0, ss, Qd, Xe, s1, s2, r, h1, q1, q2⟩ := h
    obtain ⟨many, rfl, hpos, hlog, hq⟩ := h1
    obtain ⟨v0, r0, rfl, ⟨a, fp, hsrc, rfl⟩, v1, r1, rfl, e1, e2⟩ := r
    have e1 : v1 = .int many := e1
    have e2 : r1 = [] := e2
    subst e1 e2
    obtain ⟨⟨g, ns, m, t, rfl, at0⟩, fa⟩ := s2 a fp hsrc
    have A := at_cx (P := P) (w := w) (K := K) (mg := mg) (base := base) (N := ["spring", "many", "great", "found"]) (qual := "_law_drop") (scope := defScope s__law_drop) (f := f) (cd := cdv) (A := A0) (outer := outer) (s := s0) (H := H0) (E := E) hr
    refine ⟨_, pss_cons (ps_set (i := 2) sc__law_drop.nd rfl (.inl rfl) (pe_ix ix_list (pv 0) pe_int (fun _ _ => rfl)))
      (pss_cons (ps_while PassesOwn.cx (pw_and (pt_cmpR (op_neD A.room.units) (pv 2) (pe_lst pa_nil) (nomark _)) (pw_and1 (pt_cmpR op_eq (pe_ix ix_list (pv 2) pe_int (fun _ _ => rfl)) pe_int (nomark _)))).pt
          (pss_one (ps_expr (pe_bm PySem.F.plainAttrs_list PySem.F.slot_list_pop PySem.F.type_list_pop mt_popAt (pv 2) (pa_cons pe_int pa_nil)))))
      (pss_cons (ps_if (pt_cmpR (op_neD A.room.units) (pv 2) (pe_lst pa_nil) (nomark _))
          (pss_cons (ps_set (i := 3) sc__law_drop.nd rfl (.inl rfl) (pe_op op_mod (pe_callTy call_int1 (by rfl) mi (by decide +kernel) (pa_cons (pe_ix ix_list (pv 2) pe_int (fun _ _ => rfl)) pa_nil)) (pv 1)))
          (pss_cons (ps_asg (pe_op op_fdivNW (pe_ix ix_list (pv 2) pe_int (fun _ _ => rfl)) (pv 1)) (pg_sub (pv 2) pe_int set_list))
          (pss_one (ps_ret (pv 3))))) pss_nil)
      (pss_cons (ps_asg (pe_op op_add (pe_ix ix_list (pv 0) pe_int (fun _ _ => rfl)) pe_int) (pg_sub (pv 0) pe_int set_list))
      (pss_cons (ps_asg (pe_op op_mod (pe_callTy call_int1 (by rfl) mi (by decide +kernel) (pa_cons (pe_op op_add (pe_op op_mulD (pe_ix ix_list (pv 0) pe_int (fun _ _ => rfl)) pe_int) (pe_op op_mulD (pe_ix ix_list (pv 0) pe_int (fun _ _ => rfl)) pe_int)) pa_nil)) pe_int) (pg_sub (pv 0) pe_int set_list))
      (pss_one (ps_ret (pe_op op_mod (pe_op op_fdivNW (pe_op op_mod (pe_callTy call_int1 (by rfl) mi (by decide +kernel) (pa_cons (pe_op op_mulD (pe_ix ix_list (pv 0) pe_int (fun _ _ => rfl)) (pe_ix ix_list (pv 0) pe_int (fun _ _ => rfl))) pa_nil)) pe_int) pe_int) (pv 1)))))))), ?_⟩
    refine ⟨.ref a, rfl, a, _, 0, .ref g, rfl, rfl, at0.list, atI_nat (j := 0) rfl, ?_⟩
    refine ⟨fun k σ H => ∃ ns', σ = [some (.ref a), some (.int many), some (.ref g), none] ∧ ns'.length = k ∧ Drawn H0 H a g ∧ AtA H a g ns' m t, ⟨ns.length, ns, rfl, rfl, ⟨fun b o e _ _ => e⟩, at0⟩, ?_⟩
    rintro k σ H ⟨ns', rfl, hk, dr, at1⟩
    refine cond_A rfl dr at1 fun b H1 hb d1 a1 => ?_
    cases b with
    | true =>
      obtain ⟨r, rfl⟩ := hb rfl
      rw [if_pos rfl]
      refine ⟨_, fun σ' H' z => z, .ref g, rfl, .inl ⟨rfl, _, a1.glist⟩, g, _, 0, 0, .int 0, rfl, rfl, a1.2.2, by decide, by decide, ?_, rfl, r.length, ?_, r, rfl, rfl, d1.setG, a1.setG r⟩
      · simp [seqIndex?]
      · rw [← hk, List.length_cons]
        exact Nat.lt_succ_self _
    | false =>
      rw [if_neg Bool.false_ne_true]
      refine cond_N rfl d1 a1 fun H2 d2 a2 => ?_
      refine ite2 (fun z => ?_) (fun z => ?_)
      · cases ns' with
        | nil => simp at z
        | cons n r =>
          refine ⟨.ref g, rfl, g, _, 0, .int n, rfl, rfl, a2.glist, atI_nat (j := 0) rfl, .inl ⟨n, rfl, .int many, rfl, n, many, rfl, rfl, hpos, ?_⟩⟩
          refine ⟨.ref g, rfl, g, _, 0, .int n, rfl, rfl, a2.glist, atI_nat (j := 0) rfl, .int many, rfl, n, many, rfl, rfl, ⟨Int.ne_of_gt hpos, hlog⟩, ?_⟩
          refine ⟨.ref g, rfl, g, _, 0, 0, rfl, rfl, a2.2.2, by simp [ixN], ?_⟩
          have a3 := a2.setG (n.fdiv many :: r)
          exact ⟨.int (n % many), rfl, q1 (.d (.int (n % many))) _ F0 _ (hq _ (Int.emod_nonneg _ (Int.ne_of_gt hpos)) (Int.emod_lt_of_pos _ hpos)) (Drawn.after hsrc s1 fa d2.setG a3) rfl⟩
      · refine ⟨.ref a, rfl, a, _, 2, .int t, rfl, rfl, a2.list, atI_nat (j := 2) rfl, t, 1, rfl, rfl, .ref a, rfl, a, _, 2, 2, rfl, rfl, a2.2.1, rfl, ?_⟩
        have a3 := a2.setA m (t + 1)
        have d3 : Drawn H0 _ a g := d2.setA (o := .lst [.ref g, .int m, .int (t + 1)])
        refine ⟨.ref a, rfl, a, _, 1, .int m, rfl, rfl, a3.list, atI_nat (j := 1) rfl, m, 6364136223846793005, rfl, rfl, .inr (.inl (by decide)),
          .ref a, rfl, a, _, 2, .int (t + 1), rfl, rfl, a3.list, atI_nat (j := 2) rfl, t + 1, 1442695040888963407, rfl, rfl, .inr (.inl (by decide)), _, _, rfl, rfl, .inl ⟨_, rfl, _, 2305843009213693951, rfl, rfl, (by decide : (0 : Int) < 2305843009213693951),
          .ref a, rfl, a, _, 1, 1, rfl, rfl, a3.2.1, rfl, ?_⟩⟩
        have a4 := a3.setA ((m * 6364136223846793005 + (t + 1) * 1442695040888963407) % 2305843009213693951) (t + 1)
        have d4 : Drawn H0 _ a g := d3.setA (o := .lst [.ref g, .int ((m * 6364136223846793005 + (t + 1) * 1442695040888963407) % 2305843009213693951), .int (t + 1)])
        refine ⟨.ref a, rfl, a, _, 1, .int _, rfl, rfl, a4.list, atI_nat (j := 1) rfl, .ref a, rfl, a, _, 1, .int _, rfl, rfl, a4.list (K := K), atI_nat (j := 1) rfl, _, _, rfl, rfl, .inl (by show (((m * 6364136223846793005 + (t + 1) * 1442695040888963407) % 2305843009213693951)).natAbs < _; omega), .inl ⟨_, rfl, _, 2305843009213693921, rfl, rfl, (by decide : (0 : Int) < 2305843009213693921),
          _, 1048576, rfl, rfl, ⟨by decide, by decide⟩, .int many, rfl, _, many, rfl, rfl, hpos, ?_⟩⟩
        exact q1 (.d (.int _)) _ F0 _ (hq _ (Int.emod_nonneg _ (Int.ne_of_gt hpos)) (Int.emod_lt_of_pos _ hpos)) (Drawn.after hsrc s1 fa d4 a4) rfl
/-! ### the source is made -/
def w__law_spring : SW := (sSeq (sSetL 1 (lComp (iSeq (wVar 0)) (gNm 3) (tB (wBin bGe (wVar 3) (wBin bPow (wC (.int 10)) (wC (.int 18))))) (wBin bSub (wVar 3) (wBin bPow (wC (.int 10)) (wC (.int 18)))) [3]))
  (sSeq (sAsg (wBin bAdd (wC (.int 15485863)) (wBin bMul (wC (.int 2)) (wCB bLen (wCons (wVar 0) wNil)))) (gNm 2))
  (sFor (iSeq (wVar 0)) (gNm 3)
  (sAsg (wBin bMod (wCB bInt (wCons (wBin bAdd (wBin bAdd (wBin bMul (wVar 2) (wC (.int 982451653))) (wBin bMul (wVar 3) (wC (.int 49979687)))) (wC (.int 32452843))) wNil)) (wC (.int 2305843009213693951))) (gNm 2)))))
theorem vc__law_spring {X : XD} {DD : DEnds} {ns : List Int} (hl : ns.length ≤ 63) (q : ∀ (gs : List Int) (m : Int) (u : SV), DD.nx [.d (.lst (ns.map D.int)), .own (gs.map D.int), .d (.int m), u]) : w__law_spring X DD [.d (.lst (ns.map D.int)), .un, .un, .un] := by
  refine compGo_filt (fun x o => ∀ y, o = some y → ∃ i : Int, y = .int i) _ _ (fun x hx Q' N q1 q2 => ?_) (by simp; omega) fun ys hy => ?_
  · obtain ⟨i, hi, rfl⟩ := List.mem_map.mp hx
    refine ⟨by decide, ?_⟩
    refine ite2 (fun _ => ?_) fun _ => q2 fun y e => nomatch e
    exact ⟨by decide, q1 _ fun y e => ⟨_, (Option.some.inj e).symm⟩⟩
  · obtain ⟨gs, e⟩ := ints_of (xs := ys) (Filt.all hy fun x y _ r => r y rfl)
    rw [List.nil_append, e]
    refine ⟨.inl (by decide), ?_⟩
    refine forGo_inv (fun r ρ => (∀ x ∈ r, ∃ i : Int, x = .int i) ∧ ∃ (m : Int) (u : SV), ρ = [.d (.lst (ns.map D.int)), .own (gs.map D.int), .d (.int m), u]) ?_ ?_ _ _ ⟨?_, _, _, rfl⟩
    · rintro x r ρ ⟨hr, m, u, rfl⟩ N hN
      obtain ⟨i, rfl⟩ := hr _ List.mem_cons_self
      refine ⟨.inr (.inl (by decide)), .inr (.inl (by decide)), (by decide : (0 : Int) < 2305843009213693951), ?_⟩
      exact hN _ ⟨fun y hy => hr y (List.mem_cons_of_mem _ hy), _, _, rfl⟩
    · rintro ρ ⟨_, m, u, rfl⟩
      exact q gs m u
    · intro x hx
      obtain ⟨i, hi, rfl⟩ := List.mem_map.mp hx
      exact ⟨i, rfl⟩
theorem sc__law_spring : FnScope ["script", "great", "mixed", "cell"] ["script"] (defScope s__law_spring) := ⟨rfl, rfl, rfl, by decide +kernel, rfl, by decide +kernel, by decide +kernel⟩
theorem repInts {F : Hp} : ∀ {ns : List Int} {vs : List V}, RepL K F (ns.map D.int) vs → vs = ns.map V.int
  | [], vs, h => h
  | n :: ns, vs, h => by
    obtain ⟨v, r, rfl, h1, h2⟩ := h
    have h1 : v = .int n := h1
    rw [h1, repInts h2]
    rfl
theorem ok__law_spring (mi : mg "int" = none) (ml : mg "len" = none) {f : Addr} {fd : FuncData} (F : Fun K "_law_spring" "_law_spring" s__law_spring f fd) : FnOk P w K mg base (L2.CX P w) 1 f fd ["script"] (spNew SrcA K) := by
  refine F.okX sc__law_spring (fun vs H Q E h => ?_) (fun cdv A0 outer s0 H0 vs Q E hr h => ?_)
  · obtain ⟨a, F0, ns, rfl, _⟩ := h
    rfl
  · obtain ⟨a, F0, ns, rfl, hs, hrep, hlen, q⟩ := h
    have A := at_cx (P := P) (w := w) (K := K) (mg := mg) (base := base) (N := ["script", "great", "mixed", "cell"]) (qual := "_law_spring") (scope := defScope s__law_spring) (f := f) (cd := cdv) (A := A0) (outer := outer) (s := s0) (H := H0) (E := E) hr
    obtain ⟨t, p, l⟩ : DSx SrcA (cxOf (L2.CX P w) P w K mg base ["script", "great", "mixed", "cell"] "_law_spring" (defScope s__law_spring) f cdv A0 outer s0 H0 E) (fun _ => E) (defBody s__law_spring) w__law_spring _ :=
      dsx_cons (ds_setLc 1 sc__law_spring.nd (di_seq (de_var 0)) (blkOk_by (own := [("cell", 3)]) rfl) (fun s H C cl fp => (dgw_name 3 sc__law_spring.nd (by decide))) (fun s H C cl fp => (dts_one (dt_cmp op_ge lop_ge (de_var 3) (de_bin op_pow lop_pow de_int de_int) (nomark _)))) (fun s H C cl fp => (de_bin op_sub lop_sub (de_var 3) (de_bin op_pow lop_pow de_int de_int))) (sw_true rfl rfl rfl (by decide +kernel)))
        (dsx_cons (ds_set 2 sc__law_spring.nd (de_bin op_addD lop_add de_int (de_bin op_mulD lop_mul de_int (de_cb call_lenE lcb_len ml (by decide +kernel) (da_cons (de_var 0) da_nil)))))
        (dsx_last (ds_for PassesOwn.cx (di_seq (de_var 0)) (dg_name 3 sc__law_spring.nd)
        (dss_one (ds_set 2 sc__law_spring.nd (de_bin op_mod lop_mod (de_cty call_int1 lcb_int mi (by decide +kernel) (da_cons (de_bin op_addD lop_add (de_bin op_addD lop_add (de_bin op_mulD lop_mul (de_var 2) de_int) (de_bin op_mulD lop_mul (de_var 3) de_int)) de_int) da_nil)) de_int))))
      (pss_one (ps_ret (pe_lst (pa_cons (pv 1) (pa_cons (pv 2) (pa_cons pe_int pa_nil))))))))
    refine ⟨t, p, ?_⟩
    have e0 : EnvOk SrcA K ⟨none, F0, H0⟩ F0 H0 (L2.start ["script", "great", "mixed", "cell"] [.ref a]) [.d (.lst (ns.map D.int)), .un, .un, .un] :=
      env_start (src := none) (ss := [.d (.lst (ns.map D.int))]) hs (fun _ _ z => nomatch z) ⟨_, [], rfl, hrep, rfl⟩ (by simp)
    refine l ⟨none, F0, H0⟩ F0 H0 _ _ (fun _ _ => False) { nx := fun ρ => ∃ (gs : List Int) (m : Int) (u : SV), ρ = [.d (.lst (ns.map D.int)), .own (gs.map D.int), .d (.int m), u], rt := fun _ => False } _ e0 elk0 (vc__law_spring hlen fun gs m u => ⟨gs, m, u, rfl⟩) ⟨fun σ ρ F' H' hx e1 sF nx => ?_, fun _ _ _ _ _ _ z => z.elim, fun _ _ _ _ z => z.elim, fun _ _ _ _ z => z.elim⟩
    obtain ⟨gs, m, u, rfl⟩ := hx
    obtain ⟨g, vs, h1, h2, h3, h4, h5⟩ := e1.own_at (i := 1) rfl
    have h5 := repInts h5
    subst h5
    obtain ⟨o, k1, v, k2, k3⟩ := e1.slot 2 _ rfl
    have k3 : v = .int m := k3
    subst k2 k3
    refine ⟨.ref g, h1, .int m, k1, by show 3 ≤ sizeLine; decide, fun p hp => ?_⟩
    have hpg : p ≠ g := fun z => by rw [z, h4] at hp; cases hp
    refine q F' _ p [p, g] sF (fun b o hb => ?_) (fun b o hb => ?_) ⟨g, gs, m, 0, rfl, hpg, upd_same, by rw [upd_ne (Ne.symm hpg)]; exact h4⟩ fun b hb => ?_
    · have := e1.fh b o hb
      rw [upd_ne (ne_of_none this hp)]
      exact this
    · have := e1.keep b o hb (fun z => nomatch z)
      rw [upd_ne (ne_of_none this hp)]
      exact this
    · have hb : b = p ∨ b = g := by simpa using hb
      rcases hb with z | z
      · rw [z]
        exact ⟨e1.fh.free hp, e1.h0 hp⟩
      · rw [z]
        exact ⟨h2, h3⟩
end
end DL
set_option linter.all false
set_option autoImplicit false
set_option maxHeartbeats 4000000
set_option maxRecDepth 100000
namespace DL
open PySem PySem.Spec PyProof.Rows L2
theorem all_mk {l : PySem.W.OpenLaw} {w : World} {K : PySem.W.Frag} {h : Heap} {mg : Str → Option Value} {fa : Addr} {f__law_spring f__law_low f__law_drop f__law_number f__law_any f_is_integer f_common f_is_fraction f_check_fractions f_below f_lowest f_plus f_times f_minus f_over f__law_handed_on_right f__law_kinds f__law_alike f__law_is f__law_means f__law_pair_right f__law_plus f_sum_of f_fraction f_law : Addr} (X : K.In h) (G : h.Ns mainGlobals mg) (hfa : mg "law" = some (.ref fa))
    {od__law_spring an__law_spring : Option Addr} {sl__law_spring : Array (Option Value)} {oc__law_spring kV__law_spring dc__law_spring pm__law_spring cd__law_spring ct__law_spring : Value}
    (a__law_spring : PySem.W.nsIn K mainGlobals "_law_spring" = some (some (.ref f__law_spring))) (l__law_spring : K.lookup f__law_spring = some ⟨oc__law_spring, od__law_spring, .func (PySem.W.fnOf "_law_spring" "_law_spring" (defArgs s__law_spring) (defBody s__law_spring) (defScope s__law_spring) .none kV__law_spring dc__law_spring pm__law_spring an__law_spring cd__law_spring ct__law_spring), sl__law_spring⟩) (c__law_spring : PySem.W.codeIn K cd__law_spring "_law_spring" = true) (k__law_spring : PySem.W.keepIn K (.ref f__law_spring) = true)
    {od__law_low an__law_low : Option Addr} {sl__law_low : Array (Option Value)} {oc__law_low kV__law_low dc__law_low pm__law_low cd__law_low ct__law_low : Value}
    (a__law_low : PySem.W.nsIn K mainGlobals "_law_low" = some (some (.ref f__law_low))) (l__law_low : K.lookup f__law_low = some ⟨oc__law_low, od__law_low, .func (PySem.W.fnOf "_law_low" "_law_low" (defArgs s__law_low) (defBody s__law_low) (defScope s__law_low) .none kV__law_low dc__law_low pm__law_low an__law_low cd__law_low ct__law_low), sl__law_low⟩) (c__law_low : PySem.W.codeIn K cd__law_low "_law_low" = true) (k__law_low : PySem.W.keepIn K (.ref f__law_low) = true)
    {od__law_drop an__law_drop : Option Addr} {sl__law_drop : Array (Option Value)} {oc__law_drop kV__law_drop dc__law_drop pm__law_drop cd__law_drop ct__law_drop : Value}
    (a__law_drop : PySem.W.nsIn K mainGlobals "_law_drop" = some (some (.ref f__law_drop))) (l__law_drop : K.lookup f__law_drop = some ⟨oc__law_drop, od__law_drop, .func (PySem.W.fnOf "_law_drop" "_law_drop" (defArgs s__law_drop) (defBody s__law_drop) (defScope s__law_drop) .none kV__law_drop dc__law_drop pm__law_drop an__law_drop cd__law_drop ct__law_drop), sl__law_drop⟩) (c__law_drop : PySem.W.codeIn K cd__law_drop "_law_drop" = true) (k__law_drop : PySem.W.keepIn K (.ref f__law_drop) = true)
    {od__law_number an__law_number : Option Addr} {sl__law_number : Array (Option Value)} {oc__law_number kV__law_number dc__law_number pm__law_number cd__law_number ct__law_number : Value}
    (a__law_number : PySem.W.nsIn K mainGlobals "_law_number" = some (some (.ref f__law_number))) (l__law_number : K.lookup f__law_number = some ⟨oc__law_number, od__law_number, .func (PySem.W.fnOf "_law_number" "_law_number" (defArgs s__law_number) (defBody s__law_number) (defScope s__law_number) .none kV__law_number dc__law_number pm__law_number an__law_number cd__law_number ct__law_number), sl__law_number⟩) (c__law_number : PySem.W.codeIn K cd__law_number "_law_number" = true) (k__law_number : PySem.W.keepIn K (.ref f__law_number) = true)
    {od__law_any an__law_any : Option Addr} {sl__law_any : Array (Option Value)} {oc__law_any kV__law_any dc__law_any pm__law_any cd__law_any ct__law_any : Value}
    (a__law_any : PySem.W.nsIn K mainGlobals "_law_any" = some (some (.ref f__law_any))) (l__law_any : K.lookup f__law_any = some ⟨oc__law_any, od__law_any, .func (PySem.W.fnOf "_law_any" "_law_any" (defArgs s__law_any) (defBody s__law_any) (defScope s__law_any) .none kV__law_any dc__law_any pm__law_any an__law_any cd__law_any ct__law_any), sl__law_any⟩) (c__law_any : PySem.W.codeIn K cd__law_any "_law_any" = true) (k__law_any : PySem.W.keepIn K (.ref f__law_any) = true)
    {od_is_integer an_is_integer : Option Addr} {sl_is_integer : Array (Option Value)} {oc_is_integer kV_is_integer dc_is_integer pm_is_integer cd_is_integer ct_is_integer : Value}
    (a_is_integer : PySem.W.nsIn K mainGlobals "is_integer" = some (some (.ref f_is_integer))) (l_is_integer : K.lookup f_is_integer = some ⟨oc_is_integer, od_is_integer, .func (PySem.W.fnOf "is_integer" "is_integer" (defArgs s_is_integer) (defBody s_is_integer) (defScope s_is_integer) .none kV_is_integer dc_is_integer pm_is_integer an_is_integer cd_is_integer ct_is_integer), sl_is_integer⟩) (c_is_integer : PySem.W.codeIn K cd_is_integer "is_integer" = true) (k_is_integer : PySem.W.keepIn K (.ref f_is_integer) = true)
    {od_common an_common : Option Addr} {sl_common : Array (Option Value)} {oc_common kV_common dc_common pm_common cd_common ct_common : Value}
    (a_common : PySem.W.nsIn K mainGlobals "common" = some (some (.ref f_common))) (l_common : K.lookup f_common = some ⟨oc_common, od_common, .func (PySem.W.fnOf "common" "common" (defArgs s_common) (defBody s_common) (defScope s_common) .none kV_common dc_common pm_common an_common cd_common ct_common), sl_common⟩) (c_common : PySem.W.codeIn K cd_common "common" = true) (k_common : PySem.W.keepIn K (.ref f_common) = true)
    {od_is_fraction an_is_fraction : Option Addr} {sl_is_fraction : Array (Option Value)} {oc_is_fraction kV_is_fraction dc_is_fraction pm_is_fraction cd_is_fraction ct_is_fraction : Value}
    (a_is_fraction : PySem.W.nsIn K mainGlobals "is_fraction" = some (some (.ref f_is_fraction))) (l_is_fraction : K.lookup f_is_fraction = some ⟨oc_is_fraction, od_is_fraction, .func (PySem.W.fnOf "is_fraction" "is_fraction" (defArgs s_is_fraction) (defBody s_is_fraction) (defScope s_is_fraction) .none kV_is_fraction dc_is_fraction pm_is_fraction an_is_fraction cd_is_fraction ct_is_fraction), sl_is_fraction⟩) (c_is_fraction : PySem.W.codeIn K cd_is_fraction "is_fraction" = true) (k_is_fraction : PySem.W.keepIn K (.ref f_is_fraction) = true)
    {od_check_fractions an_check_fractions : Option Addr} {sl_check_fractions : Array (Option Value)} {oc_check_fractions kV_check_fractions dc_check_fractions pm_check_fractions cd_check_fractions ct_check_fractions : Value}
    (a_check_fractions : PySem.W.nsIn K mainGlobals "check_fractions" = some (some (.ref f_check_fractions))) (l_check_fractions : K.lookup f_check_fractions = some ⟨oc_check_fractions, od_check_fractions, .func (PySem.W.fnOf "check_fractions" "check_fractions" (defArgs s_check_fractions) (defBody s_check_fractions) (defScope s_check_fractions) .none kV_check_fractions dc_check_fractions pm_check_fractions an_check_fractions cd_check_fractions ct_check_fractions), sl_check_fractions⟩) (c_check_fractions : PySem.W.codeIn K cd_check_fractions "check_fractions" = true) (k_check_fractions : PySem.W.keepIn K (.ref f_check_fractions) = true)
    {od_below an_below : Option Addr} {sl_below : Array (Option Value)} {oc_below kV_below dc_below pm_below cd_below ct_below : Value}
    (a_below : PySem.W.nsIn K mainGlobals "below" = some (some (.ref f_below))) (l_below : K.lookup f_below = some ⟨oc_below, od_below, .func (PySem.W.fnOf "below" "below" (defArgs s_below) (defBody s_below) (defScope s_below) .none kV_below dc_below pm_below an_below cd_below ct_below), sl_below⟩) (c_below : PySem.W.codeIn K cd_below "below" = true) (k_below : PySem.W.keepIn K (.ref f_below) = true)
    {od_lowest an_lowest : Option Addr} {sl_lowest : Array (Option Value)} {oc_lowest kV_lowest dc_lowest pm_lowest cd_lowest ct_lowest : Value}
    (a_lowest : PySem.W.nsIn K mainGlobals "lowest" = some (some (.ref f_lowest))) (l_lowest : K.lookup f_lowest = some ⟨oc_lowest, od_lowest, .func (PySem.W.fnOf "lowest" "lowest" (defArgs s_lowest) (defBody s_lowest) (defScope s_lowest) .none kV_lowest dc_lowest pm_lowest an_lowest cd_lowest ct_lowest), sl_lowest⟩) (c_lowest : PySem.W.codeIn K cd_lowest "lowest" = true) (k_lowest : PySem.W.keepIn K (.ref f_lowest) = true)
    {od_plus an_plus : Option Addr} {sl_plus : Array (Option Value)} {oc_plus kV_plus dc_plus pm_plus cd_plus ct_plus : Value}
    (a_plus : PySem.W.nsIn K mainGlobals "plus" = some (some (.ref f_plus))) (l_plus : K.lookup f_plus = some ⟨oc_plus, od_plus, .func (PySem.W.fnOf "plus" "plus" (defArgs s_plus) (defBody s_plus) (defScope s_plus) .none kV_plus dc_plus pm_plus an_plus cd_plus ct_plus), sl_plus⟩) (c_plus : PySem.W.codeIn K cd_plus "plus" = true) (k_plus : PySem.W.keepIn K (.ref f_plus) = true)
    {od_times an_times : Option Addr} {sl_times : Array (Option Value)} {oc_times kV_times dc_times pm_times cd_times ct_times : Value}
    (a_times : PySem.W.nsIn K mainGlobals "times" = some (some (.ref f_times))) (l_times : K.lookup f_times = some ⟨oc_times, od_times, .func (PySem.W.fnOf "times" "times" (defArgs s_times) (defBody s_times) (defScope s_times) .none kV_times dc_times pm_times an_times cd_times ct_times), sl_times⟩) (c_times : PySem.W.codeIn K cd_times "times" = true) (k_times : PySem.W.keepIn K (.ref f_times) = true)
    {od_minus an_minus : Option Addr} {sl_minus : Array (Option Value)} {oc_minus kV_minus dc_minus pm_minus cd_minus ct_minus : Value}
    (a_minus : PySem.W.nsIn K mainGlobals "minus" = some (some (.ref f_minus))) (l_minus : K.lookup f_minus = some ⟨oc_minus, od_minus, .func (PySem.W.fnOf "minus" "minus" (defArgs s_minus) (defBody s_minus) (defScope s_minus) .none kV_minus dc_minus pm_minus an_minus cd_minus ct_minus), sl_minus⟩) (c_minus : PySem.W.codeIn K cd_minus "minus" = true) (k_minus : PySem.W.keepIn K (.ref f_minus) = true)
    {od_over an_over : Option Addr} {sl_over : Array (Option Value)} {oc_over kV_over dc_over pm_over cd_over ct_over : Value}
    (a_over : PySem.W.nsIn K mainGlobals "over" = some (some (.ref f_over))) (l_over : K.lookup f_over = some ⟨oc_over, od_over, .func (PySem.W.fnOf "over" "over" (defArgs s_over) (defBody s_over) (defScope s_over) .none kV_over dc_over pm_over an_over cd_over ct_over), sl_over⟩) (c_over : PySem.W.codeIn K cd_over "over" = true) (k_over : PySem.W.keepIn K (.ref f_over) = true)
    {od__law_handed_on_right an__law_handed_on_right : Option Addr} {sl__law_handed_on_right : Array (Option Value)} {oc__law_handed_on_right kV__law_handed_on_right dc__law_handed_on_right pm__law_handed_on_right cd__law_handed_on_right ct__law_handed_on_right : Value}
    (a__law_handed_on_right : PySem.W.nsIn K mainGlobals "_law_handed_on_right" = some (some (.ref f__law_handed_on_right))) (l__law_handed_on_right : K.lookup f__law_handed_on_right = some ⟨oc__law_handed_on_right, od__law_handed_on_right, .func (PySem.W.fnOf "_law_handed_on_right" "_law_handed_on_right" (defArgs s__law_handed_on_right) (defBody s__law_handed_on_right) (defScope s__law_handed_on_right) .none kV__law_handed_on_right dc__law_handed_on_right pm__law_handed_on_right an__law_handed_on_right cd__law_handed_on_right ct__law_handed_on_right), sl__law_handed_on_right⟩) (c__law_handed_on_right : PySem.W.codeIn K cd__law_handed_on_right "_law_handed_on_right" = true) (k__law_handed_on_right : PySem.W.keepIn K (.ref f__law_handed_on_right) = true)
    {od__law_kinds an__law_kinds : Option Addr} {sl__law_kinds : Array (Option Value)} {oc__law_kinds kV__law_kinds dc__law_kinds pm__law_kinds cd__law_kinds ct__law_kinds : Value}
    (a__law_kinds : PySem.W.nsIn K mainGlobals "_law_kinds" = some (some (.ref f__law_kinds))) (l__law_kinds : K.lookup f__law_kinds = some ⟨oc__law_kinds, od__law_kinds, .func (PySem.W.fnOf "_law_kinds" "_law_kinds" (defArgs s__law_kinds) (defBody s__law_kinds) (defScope s__law_kinds) .none kV__law_kinds dc__law_kinds pm__law_kinds an__law_kinds cd__law_kinds ct__law_kinds), sl__law_kinds⟩) (c__law_kinds : PySem.W.codeIn K cd__law_kinds "_law_kinds" = true) (k__law_kinds : PySem.W.keepIn K (.ref f__law_kinds) = true)
    {od__law_alike an__law_alike : Option Addr} {sl__law_alike : Array (Option Value)} {oc__law_alike kV__law_alike dc__law_alike pm__law_alike cd__law_alike ct__law_alike : Value}
    (a__law_alike : PySem.W.nsIn K mainGlobals "_law_alike" = some (some (.ref f__law_alike))) (l__law_alike : K.lookup f__law_alike = some ⟨oc__law_alike, od__law_alike, .func (PySem.W.fnOf "_law_alike" "_law_alike" (defArgs s__law_alike) (defBody s__law_alike) (defScope s__law_alike) .none kV__law_alike dc__law_alike pm__law_alike an__law_alike cd__law_alike ct__law_alike), sl__law_alike⟩) (c__law_alike : PySem.W.codeIn K cd__law_alike "_law_alike" = true) (k__law_alike : PySem.W.keepIn K (.ref f__law_alike) = true)
    {od__law_is an__law_is : Option Addr} {sl__law_is : Array (Option Value)} {oc__law_is kV__law_is dc__law_is pm__law_is cd__law_is ct__law_is : Value}
    (a__law_is : PySem.W.nsIn K mainGlobals "_law_is" = some (some (.ref f__law_is))) (l__law_is : K.lookup f__law_is = some ⟨oc__law_is, od__law_is, .func (PySem.W.fnOf "_law_is" "_law_is" (defArgs s__law_is) (defBody s__law_is) (defScope s__law_is) .none kV__law_is dc__law_is pm__law_is an__law_is cd__law_is ct__law_is), sl__law_is⟩) (c__law_is : PySem.W.codeIn K cd__law_is "_law_is" = true) (k__law_is : PySem.W.keepIn K (.ref f__law_is) = true)
    {od__law_means an__law_means : Option Addr} {sl__law_means : Array (Option Value)} {oc__law_means kV__law_means dc__law_means pm__law_means cd__law_means ct__law_means : Value}
    (a__law_means : PySem.W.nsIn K mainGlobals "_law_means" = some (some (.ref f__law_means))) (l__law_means : K.lookup f__law_means = some ⟨oc__law_means, od__law_means, .func (PySem.W.fnOf "_law_means" "_law_means" (defArgs s__law_means) (defBody s__law_means) (defScope s__law_means) .none kV__law_means dc__law_means pm__law_means an__law_means cd__law_means ct__law_means), sl__law_means⟩) (c__law_means : PySem.W.codeIn K cd__law_means "_law_means" = true) (k__law_means : PySem.W.keepIn K (.ref f__law_means) = true)
    {od__law_pair_right an__law_pair_right : Option Addr} {sl__law_pair_right : Array (Option Value)} {oc__law_pair_right kV__law_pair_right dc__law_pair_right pm__law_pair_right cd__law_pair_right ct__law_pair_right : Value}
    (a__law_pair_right : PySem.W.nsIn K mainGlobals "_law_pair_right" = some (some (.ref f__law_pair_right))) (l__law_pair_right : K.lookup f__law_pair_right = some ⟨oc__law_pair_right, od__law_pair_right, .func (PySem.W.fnOf "_law_pair_right" "_law_pair_right" (defArgs s__law_pair_right) (defBody s__law_pair_right) (defScope s__law_pair_right) .none kV__law_pair_right dc__law_pair_right pm__law_pair_right an__law_pair_right cd__law_pair_right ct__law_pair_right), sl__law_pair_right⟩) (c__law_pair_right : PySem.W.codeIn K cd__law_pair_right "_law_pair_right" = true) (k__law_pair_right : PySem.W.keepIn K (.ref f__law_pair_right) = true)
    {od__law_plus an__law_plus : Option Addr} {sl__law_plus : Array (Option Value)} {oc__law_plus kV__law_plus dc__law_plus pm__law_plus cd__law_plus ct__law_plus : Value}
    (a__law_plus : PySem.W.nsIn K mainGlobals "_law_plus" = some (some (.ref f__law_plus))) (l__law_plus : K.lookup f__law_plus = some ⟨oc__law_plus, od__law_plus, .func (PySem.W.fnOf "_law_plus" "_law_plus" (defArgs s__law_plus) (defBody s__law_plus) (defScope s__law_plus) .none kV__law_plus dc__law_plus pm__law_plus an__law_plus cd__law_plus ct__law_plus), sl__law_plus⟩) (c__law_plus : PySem.W.codeIn K cd__law_plus "_law_plus" = true) (k__law_plus : PySem.W.keepIn K (.ref f__law_plus) = true)
    {od_sum_of an_sum_of : Option Addr} {sl_sum_of : Array (Option Value)} {oc_sum_of kV_sum_of dc_sum_of pm_sum_of cd_sum_of ct_sum_of : Value}
    (a_sum_of : PySem.W.nsIn K mainGlobals "sum_of" = some (some (.ref f_sum_of))) (l_sum_of : K.lookup f_sum_of = some ⟨oc_sum_of, od_sum_of, .func (PySem.W.fnOf "sum_of" "sum_of" (defArgs s_sum_of) (defBody s_sum_of) (defScope s_sum_of) .none kV_sum_of dc_sum_of pm_sum_of an_sum_of cd_sum_of ct_sum_of), sl_sum_of⟩) (c_sum_of : PySem.W.codeIn K cd_sum_of "sum_of" = true) (k_sum_of : PySem.W.keepIn K (.ref f_sum_of) = true)
    {od_fraction an_fraction : Option Addr} {sl_fraction : Array (Option Value)} {oc_fraction kV_fraction dc_fraction pm_fraction cd_fraction ct_fraction : Value}
    (a_fraction : PySem.W.nsIn K mainGlobals "fraction" = some (some (.ref f_fraction))) (l_fraction : K.lookup f_fraction = some ⟨oc_fraction, od_fraction, .func (PySem.W.fnOf "fraction" "fraction" (defArgs s_fraction) (defBody s_fraction) (defScope s_fraction) .none kV_fraction dc_fraction pm_fraction an_fraction cd_fraction ct_fraction), sl_fraction⟩) (c_fraction : PySem.W.codeIn K cd_fraction "fraction" = true) (k_fraction : PySem.W.keepIn K (.ref f_fraction) = true)
    {od_law an_law : Option Addr} {sl_law : Array (Option Value)} {oc_law kV_law dc_law pm_law cd_law ct_law : Value}
    (a_law : PySem.W.nsIn K mainGlobals "law" = some (some (.ref f_law))) (l_law : K.lookup f_law = some ⟨oc_law, od_law, .func (PySem.W.fnOf "law" "law" (defArgs s_law) (defBody s_law) (defScope s_law) .none kV_law dc_law pm_law an_law cd_law ct_law), sl_law⟩) (c_law : PySem.W.codeIn K cd_law "law" = true) (k_law : PySem.W.keepIn K (.ref f_law) = true)
    (z_abs : PySem.W.nsIn K mainGlobals "abs" = some none)
    (z_all : PySem.W.nsIn K mainGlobals "all" = some none)
    (z_bool : PySem.W.nsIn K mainGlobals "bool" = some none)
    (z_int : PySem.W.nsIn K mainGlobals "int" = some none)
    (z_isinstance : PySem.W.nsIn K mainGlobals "isinstance" = some none)
    (z_len : PySem.W.nsIn K mainGlobals "len" = some none)
    (z_list : PySem.W.nsIn K mainGlobals "list" = some none)
    (z_range : PySem.W.nsIn K mainGlobals "range" = some none)
    (z_sorted : PySem.W.nsIn K mainGlobals "sorted" = some none)
    (z_str : PySem.W.nsIn K mainGlobals "str" = some none)
    (z_tuple : PySem.W.nsIn K mainGlobals "tuple" = some none)
    {f_NOUGHT : Addr} {od_NOUGHT : Option Addr} {n_NOUGHT : Nat} {sl_NOUGHT : Array (Option Value)} {t_NOUGHT_0 t_NOUGHT_1 : Tok} (a_NOUGHT : PySem.W.nsIn K mainGlobals "NOUGHT" = some (some (.ref f_NOUGHT))) (l_NOUGHT : K.lookup f_NOUGHT = some ⟨.type "tuple", od_NOUGHT, .seq #[.int 0 t_NOUGHT_0, .int 1 t_NOUGHT_1] n_NOUGHT, sl_NOUGHT⟩)
    : ∃ fd : FuncData, (∀ (s : Shared) (v : Value), BindsTo s fd ⟨[v], []⟩ [("script", v)]) ∧ ∀ base : Heap, K.In base → base.Ns mainGlobals mg → FnOk l.prog w K mg base (L2.CX l.prog w) 10 fa fd ["script"] (spLaw K) := by
  have e := hfa.symm.trans (PySem.W.mg_of X G a_law)
  cases e
  have F__law_spring := fun_mk (st := s__law_spring) l__law_spring c__law_spring k__law_spring
  have m__law_spring := PySem.W.mg_of X G a__law_spring
  have b__law_spring := F__law_spring.binds (ps := ["script"]) fun _ _ _ _ _ _ us hl => match us, hl with | [_], _ => rfl
  have F__law_low := fun_mk (st := s__law_low) l__law_low c__law_low k__law_low
  have m__law_low := PySem.W.mg_of X G a__law_low
  have b__law_low := F__law_low.binds (ps := ["top", "bottom"]) fun _ _ _ _ _ _ us hl => match us, hl with | [_, _], _ => rfl
  have F__law_drop := fun_mk (st := s__law_drop) l__law_drop c__law_drop k__law_drop
  have m__law_drop := PySem.W.mg_of X G a__law_drop
  have b__law_drop := F__law_drop.binds (ps := ["spring", "many"]) fun _ _ _ _ _ _ us hl => match us, hl with | [_, _], _ => rfl
  have F__law_number := fun_mk (st := s__law_number) l__law_number c__law_number k__law_number
  have m__law_number := PySem.W.mg_of X G a__law_number
  have b__law_number := F__law_number.binds (ps := ["spring"]) fun _ _ _ _ _ _ us hl => match us, hl with | [_], _ => rfl
  have F__law_any := fun_mk (st := s__law_any) l__law_any c__law_any k__law_any
  have m__law_any := PySem.W.mg_of X G a__law_any
  have b__law_any := F__law_any.binds (ps := ["spring"]) fun _ _ _ _ _ _ us hl => match us, hl with | [_], _ => rfl
  have F_is_integer := fun_mk (st := s_is_integer) l_is_integer c_is_integer k_is_integer
  have m_is_integer := PySem.W.mg_of X G a_is_integer
  have b_is_integer := F_is_integer.binds (ps := ["value"]) fun _ _ _ _ _ _ us hl => match us, hl with | [_], _ => rfl
  have F_common := fun_mk (st := s_common) l_common c_common k_common
  have m_common := PySem.W.mg_of X G a_common
  have b_common := F_common.binds (ps := ["one", "other"]) fun _ _ _ _ _ _ us hl => match us, hl with | [_, _], _ => rfl
  have F_is_fraction := fun_mk (st := s_is_fraction) l_is_fraction c_is_fraction k_is_fraction
  have m_is_fraction := PySem.W.mg_of X G a_is_fraction
  have b_is_fraction := F_is_fraction.binds (ps := ["value"]) fun _ _ _ _ _ _ us hl => match us, hl with | [_], _ => rfl
  have F_check_fractions := fun_mk (st := s_check_fractions) l_check_fractions c_check_fractions k_check_fractions
  have m_check_fractions := PySem.W.mg_of X G a_check_fractions
  have b_check_fractions := F_check_fractions.binds (ps := ["numbers"]) fun _ _ _ _ _ _ us hl => match us, hl with | [_], _ => rfl
  have F_below := fun_mk (st := s_below) l_below c_below k_below
  have m_below := PySem.W.mg_of X G a_below
  have b_below := F_below.binds (ps := ["one", "other"]) fun _ _ _ _ _ _ us hl => match us, hl with | [_, _], _ => rfl
  have F_lowest := fun_mk (st := s_lowest) l_lowest c_lowest k_lowest
  have m_lowest := PySem.W.mg_of X G a_lowest
  have b_lowest := F_lowest.binds (ps := ["top", "bottom"]) fun _ _ _ _ _ _ us hl => match us, hl with | [_, _], _ => rfl
  have F_plus := fun_mk (st := s_plus) l_plus c_plus k_plus
  have m_plus := PySem.W.mg_of X G a_plus
  have b_plus := F_plus.binds (ps := ["one", "other"]) fun _ _ _ _ _ _ us hl => match us, hl with | [_, _], _ => rfl
  have F_times := fun_mk (st := s_times) l_times c_times k_times
  have m_times := PySem.W.mg_of X G a_times
  have b_times := F_times.binds (ps := ["one", "other"]) fun _ _ _ _ _ _ us hl => match us, hl with | [_, _], _ => rfl
  have F_minus := fun_mk (st := s_minus) l_minus c_minus k_minus
  have m_minus := PySem.W.mg_of X G a_minus
  have b_minus := F_minus.binds (ps := ["one", "other"]) fun _ _ _ _ _ _ us hl => match us, hl with | [_, _], _ => rfl
  have F_over := fun_mk (st := s_over) l_over c_over k_over
  have m_over := PySem.W.mg_of X G a_over
  have b_over := F_over.binds (ps := ["one", "other"]) fun _ _ _ _ _ _ us hl => match us, hl with | [_, _], _ => rfl
  have F__law_handed_on_right := fun_mk (st := s__law_handed_on_right) l__law_handed_on_right c__law_handed_on_right k__law_handed_on_right
  have m__law_handed_on_right := PySem.W.mg_of X G a__law_handed_on_right
  have b__law_handed_on_right := F__law_handed_on_right.binds (ps := ["a", "b", "c"]) fun _ _ _ _ _ _ us hl => match us, hl with | [_, _, _], _ => rfl
  have F__law_kinds := fun_mk (st := s__law_kinds) l__law_kinds c__law_kinds k__law_kinds
  have m__law_kinds := PySem.W.mg_of X G a__law_kinds
  have b__law_kinds := F__law_kinds.binds (ps := ["thing"]) fun _ _ _ _ _ _ us hl => match us, hl with | [_], _ => rfl
  have F__law_alike := fun_mk (st := s__law_alike) l__law_alike c__law_alike k__law_alike
  have m__law_alike := PySem.W.mg_of X G a__law_alike
  have b__law_alike := F__law_alike.binds (ps := ["found", "due"]) fun _ _ _ _ _ _ us hl => match us, hl with | [_, _], _ => rfl
  have F__law_is := fun_mk (st := s__law_is) l__law_is c__law_is k__law_is
  have m__law_is := PySem.W.mg_of X G a__law_is
  have b__law_is := F__law_is.binds (ps := ["value"]) fun _ _ _ _ _ _ us hl => match us, hl with | [_], _ => rfl
  have F__law_means := fun_mk (st := s__law_means) l__law_means c__law_means k__law_means
  have m__law_means := PySem.W.mg_of X G a__law_means
  have b__law_means := F__law_means.binds (ps := ["found", "top", "bottom"]) fun _ _ _ _ _ _ us hl => match us, hl with | [_, _, _], _ => rfl
  have F__law_pair_right := fun_mk (st := s__law_pair_right) l__law_pair_right c__law_pair_right k__law_pair_right
  have m__law_pair_right := PySem.W.mg_of X G a__law_pair_right
  have b__law_pair_right := F__law_pair_right.binds (ps := ["one", "other"]) fun _ _ _ _ _ _ us hl => match us, hl with | [_, _], _ => rfl
  have F__law_plus := fun_mk (st := s__law_plus) l__law_plus c__law_plus k__law_plus
  have m__law_plus := PySem.W.mg_of X G a__law_plus
  have b__law_plus := F__law_plus.binds (ps := ["one", "other"]) fun _ _ _ _ _ _ us hl => match us, hl with | [_, _], _ => rfl
  have F_sum_of := fun_mk (st := s_sum_of) l_sum_of c_sum_of k_sum_of
  have m_sum_of := PySem.W.mg_of X G a_sum_of
  have b_sum_of := F_sum_of.binds (ps := ["numbers"]) fun _ _ _ _ _ _ us hl => match us, hl with | [_], _ => rfl
  have F_fraction := fun_mk (st := s_fraction) l_fraction c_fraction k_fraction
  have m_fraction := PySem.W.mg_of X G a_fraction
  have b_fraction := F_fraction.binds (ps := ["top", "bottom"]) fun _ _ _ _ _ _ us hl => match us, hl with | [_, _], _ => rfl
  have F_law := fun_mk (st := s_law) l_law c_law k_law
  have m_law := PySem.W.mg_of X G a_law
  have b_law := F_law.binds (ps := ["script"]) fun _ _ _ _ _ _ us hl => match us, hl with | [_], _ => rfl
  have B : Bn mg := ⟨PySem.W.mg_none_of X G z_abs, PySem.W.mg_none_of X G z_all, PySem.W.mg_none_of X G z_bool, PySem.W.mg_none_of X G z_int, PySem.W.mg_none_of X G z_isinstance, PySem.W.mg_none_of X G z_len, PySem.W.mg_none_of X G z_list, PySem.W.mg_none_of X G z_range, PySem.W.mg_none_of X G z_sorted, PySem.W.mg_none_of X G z_str, PySem.W.mg_none_of X G z_tuple⟩
  have C : Cn K mg := ⟨Gc.tup (PySem.W.mg_of X G a_NOUGHT) l_NOUGHT rfl rfl (show 2 ≤ sizeLine by decide) (fun _ => repL_ints [0, 1]) (.cons ⟨_, rfl⟩ (.cons ⟨_, rfl⟩ .nil))⟩
  refine ⟨PySem.W.fnOf "law" "law" (defArgs s_law) (defBody s_law) (defScope s_law) .none kV_law dc_law pm_law an_law cd_law ct_law, fun s v => .of_eq rfl, fun base _ _ => ?_⟩
  have M_law : MadeBy l.prog w K mg base SrcA 1 "_law_spring" := ⟨⟨_, _, ok__law_spring B.int B.len F__law_spring, m__law_spring, F__law_spring.kp, b__law_spring⟩⟩
  have G__law_low := fd__law_low (P := l.prog) (w := w) (base := base) B C  F__law_low m__law_low b__law_low (fun _ z => nomatch z)
  have G__law_drop := fd__law_drop (P := l.prog) (w := w) (base := base) B.int F__law_drop m__law_drop b__law_drop
  have G__law_number := fd__law_number (P := l.prog) (w := w) (base := base) B C G__law_drop G__law_low F__law_number m__law_number b__law_number (fun _ z => nomatch z)
  have G__law_any := fd__law_any (P := l.prog) (w := w) (base := base) B C G__law_drop G__law_low G__law_number F__law_any m__law_any b__law_any (fun _ z => nomatch z)
  have G_is_integer := fd_is_integer (P := l.prog) (w := w) (base := base) B C  F_is_integer m_is_integer b_is_integer (fun _ z => nomatch z)
  have G_common := fd_common (P := l.prog) (w := w) (base := base) B C  F_common m_common b_common (fun _ z => nomatch z)
  have G_is_fraction := fd_is_fraction (P := l.prog) (w := w) (base := base) B C G_is_integer G_common F_is_fraction m_is_fraction b_is_fraction ((List.forall_mem_cons.mpr ⟨⟨fun ws hl => match ws, hl with | [_], _ => rfl, rfl⟩, fun _ z => nomatch z⟩))
  have G_check_fractions := fd_check_fractions (P := l.prog) (w := w) (base := base) B C G_is_fraction F_check_fractions m_check_fractions b_check_fractions (fun _ z => nomatch z)
  have G_below := fd_below (P := l.prog) (w := w) (base := base) B C G_check_fractions F_below m_below b_below ((List.forall_mem_cons.mpr ⟨⟨fun ws hl => match ws, hl with | [_, _], _ => rfl, rfl⟩, fun _ z => nomatch z⟩))
  have G_lowest := fd_lowest (P := l.prog) (w := w) (base := base) B C G_common F_lowest m_lowest b_lowest (fun _ z => nomatch z)
  have G_plus := fd_plus (P := l.prog) (w := w) (base := base) B C G_lowest G_check_fractions F_plus m_plus b_plus ((List.forall_mem_cons.mpr ⟨⟨fun ws hl => match ws, hl with | [_, _], _ => rfl, rfl⟩, fun _ z => nomatch z⟩))
  have G_times := fd_times (P := l.prog) (w := w) (base := base) B C G_lowest G_check_fractions F_times m_times b_times ((List.forall_mem_cons.mpr ⟨⟨fun ws hl => match ws, hl with | [_, _], _ => rfl, rfl⟩, fun _ z => nomatch z⟩))
  have G_minus := fd_minus (P := l.prog) (w := w) (base := base) B C G_lowest G_check_fractions F_minus m_minus b_minus ((List.forall_mem_cons.mpr ⟨⟨fun ws hl => match ws, hl with | [_, _], _ => rfl, rfl⟩, fun _ z => nomatch z⟩))
  have G_over := fd_over (P := l.prog) (w := w) (base := base) B C G_lowest G_check_fractions F_over m_over b_over ((List.forall_mem_cons.mpr ⟨⟨fun ws hl => match ws, hl with | [_, _], _ => rfl, rfl⟩, fun _ z => nomatch z⟩))
  have G__law_handed_on_right := fd__law_handed_on_right (P := l.prog) (w := w) (base := base) B C G_plus G_minus G_times G_over G_below F__law_handed_on_right m__law_handed_on_right b__law_handed_on_right (fun _ z => nomatch z)
  have G__law_kinds := fd__law_kinds (P := l.prog) (w := w) (base := base) B C  F__law_kinds m__law_kinds b__law_kinds (fun _ z => nomatch z)
  have G__law_alike := fd__law_alike (P := l.prog) (w := w) (base := base) B C G__law_kinds F__law_alike m__law_alike b__law_alike (fun _ z => nomatch z) 6
  have G__law_is := fd__law_is (P := l.prog) (w := w) (base := base) B C G__law_low F__law_is m__law_is b__law_is (fun _ z => nomatch z)
  have G__law_means := fd__law_means (P := l.prog) (w := w) (base := base) B C G__law_is F__law_means m__law_means b__law_means (fun _ z => nomatch z)
  have G__law_pair_right := fd__law_pair_right (P := l.prog) (w := w) (base := base) B C G_plus G_minus G_times G_over G_below G__law_alike G__law_means F__law_pair_right m__law_pair_right b__law_pair_right (fun _ z => nomatch z)
  have G__law_plus := fd__law_plus (P := l.prog) (w := w) (base := base) B C G__law_low F__law_plus m__law_plus b__law_plus (fun _ z => nomatch z)
  have G_sum_of := fd_sum_of (P := l.prog) (w := w) (base := base) B C G_lowest G_check_fractions F_sum_of m_sum_of b_sum_of ((List.forall_mem_cons.mpr ⟨⟨fun ws hl => match ws, hl with | [_], _ => rfl, rfl⟩, fun _ z => nomatch z⟩))
  have G_fraction := fd_fraction (P := l.prog) (w := w) (base := base) B C G_is_integer G_lowest F_fraction m_fraction b_fraction ((List.forall_mem_cons.mpr ⟨⟨fun ws hl => match ws, hl with | [_, _], _ => rfl, rfl⟩, fun _ z => nomatch z⟩))
  exact fd_law (P := l.prog) (w := w) (base := base) B C G_is_fraction G_fraction G_sum_of G__law_drop G__law_alike G__law_plus G__law_is G__law_pair_right G__law_any G__law_handed_on_right F_law M_law
end DL
open PySem PySem.W PyProof.Rows
set_option maxHeartbeats 0 in
theorem PySem.Challenge.cw_fastestalong_k01_fractions_made_and_summ_holds : PySem.Challenge.rw_fastestalong_k01_fractions_made_and_summ.Holds := by
  w_on; o_law; k_head; (case hw => w_witness2)
  k_fill
  refine L2.walk_of (l := PySem.Challenge.rw_fastestalong_k01_fractions_made_and_summ) (n := 63) (k := 10) (x := "script") (CX := fun w => L2.CX PySem.Challenge.rw_fastestalong_k01_fractions_made_and_summ.prog w) (sp := fun w => DL.spLaw _) rfl (by decide) rfl ⟨rfl, by decide, by decide⟩ (fun w h Y => PySem.W.kIn_of Y) ?F (fun _ _ a ns hl _ hS => ⟨a, ns, rfl, hS, hl, fun _ => rfl⟩) (fun _ _ _ _ _ h => by obtain ⟨_, _, _, _, _, _, _, _, _, _, _, _, z⟩ := h; exact z)
  case F =>
    intro w mg fa h KX G hmg
    refine' DL.all_mk (l := PySem.Challenge.rw_fastestalong_k01_fractions_made_and_summ) KX G hmg ?hg0 ?hg1 ?hg2 ?hg3 ?hg4 ?hg5 ?hg6 ?hg7 ?hg8 ?hg9 ?hg10 ?hg11 ?hg12 ?hg13 ?hg14 ?hg15 ?hg16 ?hg17 ?hg18 ?hg19 ?hg20 ?hg21 ?hg22 ?hg23 ?hg24 ?hg25 ?hg26 ?hg27 ?hg28 ?hg29 ?hg30 ?hg31 ?hg32 ?hg33 ?hg34 ?hg35 ?hg36 ?hg37 ?hg38 ?hg39 ?hg40 ?hg41 ?hg42 ?hg43 ?hg44 ?hg45 ?hg46 ?hg47 ?hg48 ?hg49 ?hg50 ?hg51 ?hg52 ?hg53 ?hg54 ?hg55 ?hg56 ?hg57 ?hg58 ?hg59 ?hg60 ?hg61 ?hg62 ?hg63 ?hg64 ?hg65 ?hg66 ?hg67 ?hg68 ?hg69 ?hg70 ?hg71 ?hg72 ?hg73 ?hg74 ?hg75 ?hg76 ?hg77 ?hg78 ?hg79 ?hg80 ?hg81 ?hg82 ?hg83 ?hg84 ?hg85 ?hg86 ?hg87 ?hg88 ?hg89 ?hg90 ?hg91 ?hg92 ?hg93 ?hg94 ?hg95 ?hg96 ?hg97 ?hg98 ?hg99 ?hg100 ?hg101 ?hg102 ?hg103 ?hg104 ?hg105 ?hg106 ?hg107 ?hg108 ?hg109 ?hg110 ?hg111 ?hg112
    (case hg0 => k_is)
    (case hg1 => k_is)
    (case hg2 => k_is)
    (case hg3 => k_is)
    (case hg4 => k_is)
    (case hg5 => k_is)
    (case hg6 => k_is)
    (case hg7 => k_is)
    (case hg8 => k_is)
    (case hg9 => k_is)
    (case hg10 => k_is)
    (case hg11 => k_is)
    (case hg12 => k_is)
    (case hg13 => k_is)
    (case hg14 => k_is)
    (case hg15 => k_is)
    (case hg16 => k_is)
    (case hg17 => k_is)
    (case hg18 => k_is)
    (case hg19 => k_is)
    (case hg20 => k_is)
    (case hg21 => k_is)
    (case hg22 => k_is)
    (case hg23 => k_is)
    (case hg24 => k_is)
    (case hg25 => k_is)
    (case hg26 => k_is)
    (case hg27 => k_is)
    (case hg28 => k_is)
    (case hg29 => k_is)
    (case hg30 => k_is)
    (case hg31 => k_is)
    (case hg32 => k_is)
    (case hg33 => k_is)
    (case hg34 => k_is)
    (case hg35 => k_is)
    (case hg36 => k_is)
    (case hg37 => k_is)
    (case hg38 => k_is)
    (case hg39 => k_is)
    (case hg40 => k_is)
    (case hg41 => k_is)
    (case hg42 => k_is)
    (case hg43 => k_is)
    (case hg44 => k_is)
    (case hg45 => k_is)
    (case hg46 => k_is)
    (case hg47 => k_is)
    (case hg48 => k_is)
    (case hg49 => k_is)
    (case hg50 => k_is)
    (case hg51 => k_is)
    (case hg52 => k_is)
    (case hg53 => k_is)
    (case hg54 => k_is)
    (case hg55 => k_is)
    (case hg56 => k_is)
    (case hg57 => k_is)
    (case hg58 => k_is)
    (case hg59 => k_is)
    (case hg60 => k_is)
    (case hg61 => k_is)
    (case hg62 => k_is)
    (case hg63 => k_is)
    (case hg64 => k_is)
    (case hg65 => k_is)
    (case hg66 => k_is)
    (case hg67 => k_is)
    (case hg68 => k_is)
    (case hg69 => k_is)
    (case hg70 => k_is)
    (case hg71 => k_is)
    (case hg72 => k_is)
    (case hg73 => k_is)
    (case hg74 => k_is)
    (case hg75 => k_is)
    (case hg76 => k_is)
    (case hg77 => k_is)
    (case hg78 => k_is)
    (case hg79 => k_is)
    (case hg80 => k_is)
    (case hg81 => k_is)
    (case hg82 => k_is)
    (case hg83 => k_is)
    (case hg84 => k_is)
    (case hg85 => k_is)
    (case hg86 => k_is)
    (case hg87 => k_is)
    (case hg88 => k_is)
    (case hg89 => k_is)
    (case hg90 => k_is)
    (case hg91 => k_is)
    (case hg92 => k_is)
    (case hg93 => k_is)
    (case hg94 => k_is)
    (case hg95 => k_is)
    (case hg96 => k_is)
    (case hg97 => k_is)
    (case hg98 => k_is)
    (case hg99 => k_is)
    (case hg100 => k_is)
    (case hg101 => k_is)
    (case hg102 => k_is)
    (case hg103 => k_is)
    (case hg104 => k_is)
    (case hg105 => k_is)
    (case hg106 => k_is)
    (case hg107 => k_is)
    (case hg108 => k_is)
    (case hg109 => k_is)
    (case hg110 => k_is)
    (case hg111 => k_is)
    (case hg112 => k_is)
