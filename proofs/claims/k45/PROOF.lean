import PyProof.Rows.All
import KE.DataEq
import KE.DataCmp
import KE.DataMinMax
import KE.SortData
import HandS.ForMost
import HandS.Flow
import HandS.Deep
import HandS.More
import HandS.Defaults
import HandS.IsInst
import HandS.Zip
import HandS.Conv
import HandS.Wide
import HandS.Lambda
import HandS.HeadHook1
import KE.DataIsa
import KE.DataFind
import HandS.TupAny
import HandS.TupLe
import HandS.TupMul
import KE.DataAny
import KE.KTupSum
import HandS.HeadHook2
import HandS.Style
import HandS.Dict
import HandS.Strs
import HandS.SetFor
import KE.GoesMore
import KE.GoesEnum
import HandS.CallRecv
import HandS.NoneIn
import HandS.HeadEnd
import HandS.EndTab
import HandS.ExcIs
import HandS.ExcField
import HandS.HotCalls
import HandS.ExcSuper
import HandS.HeadHook4
import KE.KExcSuper
import KE.KExcInit
import KE.KSuper
import HandS.ExcInit
import HandS.Codes
import HandS.Head0
import HandS.Head1
import HandS.Head2
import PySem.Challenge.RW_fewskies_k45_whole_wheel_pairs_judged_an
set_option Elab.async false
set_option linter.all false
set_option maxRecDepth 100000
set_option maxHeartbeats 0
/-! Ev1: a small language of terms (T) for the defs of a plain program, its values (D), and what a term comes to (evE, evS): lists that a def holds alone are told apart from values that never change. -/
namespace Fz
open PySem
noncomputable section

abbrev D := PyData

structure Tag {α : Type} (a : α) : Type where
inductive Res (α : Type) where
  | ok (a : α) | ex (c : Str) (as : List D) | no
namespace Res
/-- what is to be done next: the mark keeps simp out of f -/
def bind {α β : Type} (x : Res α) (f : α → Res β) (_t : Tag f := Tag.mk) : Res β := match x with
  | ok a => f a
  | ex c as => ex c as
  | no => no
/-- .. where no exception may come -/
def bindN {α β : Type} (x : Res α) (f : α → Res β) (_t : Tag f := Tag.mk) : Res β := match x with
  | ok a => f a
  | ex _ _ => no
  | no => no
def map {α β : Type} (f : α → β) : Res α → Res β
  | ok a => ok (f a)
  | ex c as => ex c as
  | no => no
end Res

/-- what an expression gives: a value that stays, a new list, or the list that the name in a slot holds -/
inductive R where
  | v (d : D) | t (ds : List D) | p (i : Nat)
inductive Slot where
  | no | val (d : D) | own (ds : List D) | exc
/-- a slot that holds data -/
def Slot.dat : Slot → Bool
  | .val _ => true
  | .own _ => true
  | _ => false
abbrev Sts := List Slot

inductive BinK where
  | add | sub | mul | fdiv | mod | pow
  deriving DecidableEq
inductive CmpK where
  | eq | ne | lt | le | gt | ge | is | isnot | inn | notin
  deriving DecidableEq
inductive BiK where
  | len | int | abs | tuple | list | all | any | sum | min1 | max1 | min2 | max2 | max4 | sorted | lenset | sortset | rev | repr | show
  | isInt | isBool | isTuple | isList | isStr | isDict
  deriving DecidableEq
inductive MtK where
  | index | count
  deriving DecidableEq

inductive T where
  | nil | cons (a b : T)
  | var (i : Nat) | int (n : Int) | bl (b : Bool) | non | str (s : Str) | glb (k : Nat)
  | bin (o : BinK) (a b : T) | neg (a : T)
  | cmp (o : CmpK) (a b : T) | chn (o p : CmpK) (a b c : T)
  | not (a : T) | and (a b : T) | or (a b : T) | ifx (c a b : T)
  | tup (as : T) | lst (as : T)
  | ix (a i : T) | slc (a lo hi : T)
  | lc (g it c e : T) (own : List Nat)
  | itv (e : T) | itr (as : T) | itz (a b : T) | ite (a : T)
  | rgl (as : T) | rgt (as : T)
  | bi (k : BiK) (as : T) | mt (k : MtK) (a b : T) | pop (i : Nat) | popa (i : Nat) (e : T)
  | call (f : Nat) (as : T)
  | gn (i : Nat) | gt (gs : T)
  | asg (g e : T) | par (is : List Nat) (es : T) | unp (is : List Nat) (es : T) | sti (i : Nat) (ix e : T)
  | ret (e : T) | iff (c a b : T) | forr (g it b : T) | whl (c b : T)
  | app (i : Nat) (e : T) | ext (i : Nat) (e : T) | drp (e : T) | rse (c : Str) (as : T)
  | lam (k f : Nat) (as : T) | lamv (k i : Nat) (tb : List (Str × Nat)) (as : T) | dic (ks vs : T) | xc (i : Nat) (e : T)
  deriving DecidableEq

/-! ### values -/
abbrev sizeL : Nat := 16777216
/-- data of few levels, without dicts -/
def shp : Nat → D → Bool
  | _, .none => true
  | _, .bool _ => true
  | _, .int _ => true
  | _, .str _ => true
  | n + 1, .list xs => xs.all (shp n)
  | n + 1, .tuple xs => xs.all (shp n)
  | _, _ => false
/-- a def as a value -/
def fnD (x : Str) : D := .dict [(.list [], .str x)]
/-- the law's argument -/
def scrD (ns : List Int) : D := .dict [(.list (ns.map .int), .none)]

/-- which def a slot holds -/
def fnvOf (tb : List (Str × Nat)) : Option Slot → Option Nat
  | some (.val (.dict [(.list [], .str x)])) => tb.lookup x
  | _ => none
def cont (σ : Sts) : R → D
  | .v d => d
  | .t ds => .list ds
  | .p i => match σ[i]? with
    | some (.own ds) => .list ds
    | some (.val d) => d
    | _ => .none
/-- a new list becomes a value -/
def R.nt : R → R
  | .t ds => .v (.list ds)
  | r => r
/-- what is kept as a value: a list in a slot is the slot's no more -/
def frz (σ : Sts) : R → D × Sts
  | .v d => (d, σ)
  | .t ds => (.list ds, σ)
  | .p i => match σ[i]? with
    | some (.own ds) => (.list ds, σ.set i (.val (.list ds)))
    | some (.val d) => (d, σ)
    | _ => (.none, σ)

def MulOk (i j : Int) : Prop := ((-18446744073709551616 < i ∧ i < 18446744073709551616) ∨ (-18446744073709551616 < j ∧ j < 18446744073709551616)) ∨ ((-2037035976334486086268445688409378161051468393665936250636140449354381299763336706183397376 < i ∧ i < 2037035976334486086268445688409378161051468393665936250636140449354381299763336706183397376) ∧ -2037035976334486086268445688409378161051468393665936250636140449354381299763336706183397376 < j ∧ j < 2037035976334486086268445688409378161051468393665936250636140449354381299763336706183397376)
noncomputable instance (i j : Int) : Decidable (MulOk i j) := Classical.propDecidable _
def DivOk (j : Int) : Prop := j ≠ 0 ∧ -2037035976334486086268445688409378161051468393665936250636140449354381299763336706183397376 < j ∧ j < 2037035976334486086268445688409378161051468393665936250636140449354381299763336706183397376
noncomputable instance (j : Int) : Decidable (DivOk j) := Classical.propDecidable _
def PowOk (i j : Int) : Prop := 0 ≤ j ∧ j ≤ 1000000 ∧ -18446744073709551616 < i ∧ i < 18446744073709551616
noncomputable instance (i j : Int) : Decidable (PowOk i j) := Classical.propDecidable _
def RepOk (n : Nat) (k : Int) : Prop := -9223372036854775808 ≤ k ∧ k < 9223372036854775808 ∧ n * k.toNat ≤ sizeL
noncomputable instance (n : Nat) (k : Int) : Decidable (RepOk n k) := Classical.propDecidable _

def TRepOk (n : Nat) (k : Int) : Prop := 0 < n ∧ 2 ≤ k ∧ k ≤ 1000 ∧ n ≤ 1000
noncomputable instance (n : Nat) (k : Int) : Decidable (TRepOk n k) := Classical.propDecidable _

def binD : BinK → D → D → Res R
  | .add, .int a, .int b => .ok (.v (.int (a + b)))
  | .add, .str a, .str b => if a.length + b.length ≤ sizeL then .ok (.v (.str (a ++ b))) else .no
  | .add, .list a, .list b => if a.length + b.length ≤ sizeL then .ok (.t (a ++ b)) else .no
  | .add, .tuple a, .tuple b => if a.length + b.length ≤ sizeL then .ok (.v (.tuple (a ++ b))) else .no
  | .sub, .int a, .int b => .ok (.v (.int (a - b)))
  | .mul, .int a, .int b => if MulOk a b then .ok (.v (.int (a * b))) else .no
  | .mul, .list a, .int k => if RepOk a.length k then .ok (.t (List.replicate k.toNat a).flatten) else .no
  | .mul, .tuple a, .int k => if TRepOk a.length k then .ok (.v (.tuple (List.replicate k.toNat a).flatten)) else if k = 1 then .ok (.v (.tuple a)) else .no
  | .fdiv, .int a, .int b => if DivOk b then .ok (.v (.int (a.fdiv b))) else .no
  | .mod, .int a, .int b => if b ≠ 0 then .ok (.v (.int (a.fmod b))) else .no
  | .pow, .int a, .int b => if PowOk a b then .ok (.v (.int (a ^ b.toNat))) else .no
  | _, _, _ => .no

def isNoneD : D → Bool
  | .none => true
  | _ => false
/-- a < b of alike data -/
def ltD (a b : D) : Res Bool := if PySem.W.alike a b = true ∧ shp 40 a = true ∧ shp 40 b = true ∧ isNoneD a = false then .ok (PySem.W.dataLt a b) else .no
def eqD (a b : D) : Res Bool := if shp 40 a = true ∧ shp 40 b = true then .ok (PyData.eqv a b) else .no
/-- one sign in a text -/
def inS (a : D) (z : Str) : Res Bool := match a with
  | .str x => match x.cps.toList with
    | [c] => .ok (decide (c ∈ z.cps.toList))
    | _ => .no
  | _ => .no
def inD (x b : D) : Res Bool := match b with
  | .list ys => if shp 40 x = true ∧ ys.all (shp 40) = true then .ok (ys.any fun y => PyData.eqv y x) else .no
  | .tuple ys => if shp 40 x = true ∧ ys.all (shp 40) = true then .ok (ys.any fun y => PyData.eqv y x) else .no
  | .str z => inS x z
  | _ => .no
def isD : D → D → Res Bool
  | .none, .none => .ok true
  | .bool a, .bool b => .ok (a == b)
  | _, .none => .ok false
  | _, .bool _ => .ok false
  | _, _ => .no
def cmpB : CmpK → D → D → Res Bool
  | .lt, .int a, .int b => .ok (decide (a < b))
  | .le, .int a, .int b => .ok (decide (a ≤ b))
  | .gt, .int a, .int b => .ok (decide (b < a))
  | .ge, .int a, .int b => .ok (decide (b ≤ a))
  | .eq, a, b => eqD a b
  | .ne, a, b => (eqD a b).map (!·)
  | .lt, a, b => ltD a b
  | .gt, a, b => ltD b a
  | .le, a, b => (ltD b a).map (!·)
  | .ge, a, b => (ltD a b).map (!·)
  | .is, a, b => isD a b
  | .isnot, a, b => (isD a b).map (!·)
  | .inn, a, b => inD a b
  | .notin, a, b => (inD a b).map (!·)
def cmpD (o : CmpK) (a b : D) : Res R := (cmpB o a b).map fun k => .v (.bool k)

/-- a place from the front or, below 0, from behind -/
def atD {α : Type} (xs : List α) (i : Int) : Option α := if 0 ≤ i then xs[i.toNat]? else if -(xs.length : Int) ≤ i then xs[(i + xs.length).toNat]? else none
/-- what a dict holds at a text -/
def lkS (s : Str) : List (D × D) → Option D
  | [] => none
  | (.str t, d) :: r => if t = s then some d else lkS s r
  | (.int _, _) :: r => lkS s r
  | _ => none
/-- what a dict holds at a number -/
def lkI (n : Int) : List (D × D) → Option D
  | [] => none
  | (.int t, d) :: r => if t = n then some d else lkI n r
  | (.str _, _) :: r => lkI n r
  | _ => none
def ixD : D → D → Res R
  | .dict kvs, .str s => match lkS s kvs with | some d => .ok (.v d) | none => .no
  | .dict kvs, .int n => match lkI n kvs with | some d => .ok (.v d) | none => .no
  | .list xs, .int i => match atD xs i with | some d => .ok (.v d) | none => .no
  | .tuple xs, .int i => match atD xs i with | some d => .ok (.v d) | none => .no
  | .str s, .int i => if s.length ≤ sizeL then (match atD s.cps.toList i with | some c => .ok (.v (.str ⟨#[c]⟩)) | none => .no) else .no
  | _, _ => .no
/-- a slice's end within a length -/
def sEnd (n d : Nat) : Option Int → Nat
  | none => d
  | some i => if 0 ≤ i then min i.toNat n else (i + n).toNat
def cutD {α : Type} (xs : List α) (lo hi : Option Int) : List α := (xs.drop (sEnd xs.length 0 lo)).take (sEnd xs.length xs.length hi - sEnd xs.length 0 lo)
def scrOf : D → Option (List Int)
  | .dict [(.list ds, .none)] => ds.mapM fun | .int i => some i | _ => none
  | _ => none
def slcD : D → Option Int → Option Int → Res R
  | .list xs, lo, hi => .ok (.t (cutD xs lo hi))
  | .tuple xs, lo, hi => .ok (.v (.tuple (cutD xs lo hi)))
  | .dict [(.list ds, .none)], lo, hi => .ok (.t (cutD ds lo hi))
  | _, _, _ => .no

@[simp] def boolsOf : List D → Option (List Bool)
  | [] => some []
  | .bool b :: r => (boolsOf r).map (b :: ·)
  | _ :: _ => none
@[simp] def intsOf : List D → Option (List Int)
  | [] => some []
  | .int b :: r => (intsOf r).map (b :: ·)
  | _ :: _ => none
def items : D → Option (List D)
  | .list xs => some xs
  | .tuple xs => some xs
  | _ => none
/-- .. and a text's signs -/
def itemsI : D → Option (List D)
  | .list xs => some xs
  | .tuple xs => some xs
  | .str x => some (x.cps.toList.map fun c => .str ⟨#[c]⟩)
  | _ => none
def isIntD : D → Bool
  | .int _ => true
  | .bool _ => true
  | _ => false
def isBoolD : D → Bool
  | .bool _ => true
  | _ => false
def isTupleD : D → Bool
  | .tuple _ => true
  | _ => false
def isListD : D → Bool
  | .list _ => true
  | _ => false
def isStrD : D → Bool
  | .str _ => true
  | _ => false
/-- the script -/
def isDictD : D → Bool
  | .dict ((.list _, _) :: _) => true
  | _ => false
def isDictK : D → Bool
  | .dict _ => true
  | _ => false
def AlikeB (xs : List D) : Bool := (xs.all fun x => xs.all fun y => PySem.W.alike x y) && xs.all fun x => shp 40 x && !isNoneD x

def neTupD : D → Bool
  | .tuple (_ :: _) => true
  | _ => false
/-- all tuples with an item at least, or none a tuple -/
def SortB (xs : List D) : Bool := xs.all neTupD || xs.all fun x => !isTupleD x

/-- the greatest of four, the first of equals -/
def mx4 (i j k l : Int) : Int :=
  let a := if j > i then j else i
  let b := if k > a then k else a
  if l > b then l else b
def ReprOk (i : Int) : Prop := i.natAbs < 18446744073709551616
noncomputable instance (i : Int) : Decidable (ReprOk i) := Classical.propDecidable _
/-- data whose repr is told -/
def ShowOk (d : D) : Prop := shp 40 d = true ∧ d.showable = true ∧ d.hasDict = false ∧ d.shown.length ≤ sizeL
noncomputable instance (d : D) : Decidable (ShowOk d) := Classical.propDecidable _
def reprD : D → Res R
  | .none => .ok (.v (.str "None"))
  | .bool b => .ok (.v (.str (if b then "True" else "False")))
  | .int i => if ReprOk i then .ok (.v (.str (toString i))) else .no
  | _ => .no
/-- each once -/
def dd : List Int → List Int
  | [] => []
  | x :: r => if x ∈ r then dd r else x :: dd r
/-- each once, ascending -/
def sd (ns : List Int) : List Int := (dd ns).mergeSort (fun a b => decide (a ≤ b))
def intsIn (d : D) : Option (List Int) := match d with
  | .list xs => intsOf xs
  | .tuple xs => intsOf xs
  | _ => none
def biD : BiK → List D → Res R
  | .len, [.list xs] => .ok (.v (.int xs.length))
  | .len, [.tuple xs] => .ok (.v (.int xs.length))
  | .len, [.str s] => if s.length ≤ sizeL then .ok (.v (.int s.length)) else .no
  | .int, [.int i] => .ok (.v (.int i))
  | .int, [.bool k] => .ok (.v (.int (if k then 1 else 0)))
  | .abs, [.int i] => .ok (.v (.int (if i < 0 then -i else i)))
  | .tuple, [.list xs] => .ok (.v (.tuple xs))
  | .tuple, [.tuple xs] => .ok (.v (.tuple xs))
  | .list, [.list xs] => .ok (.t xs)
  | .list, [.tuple xs] => .ok (.t xs)
  | .all, [.list xs] => match boolsOf xs with | some bs => .ok (.v (.bool (bs.all id))) | none => .no
  | .any, [.list xs] => match boolsOf xs with | some bs => .ok (.v (.bool (bs.any id))) | none => .no
  | .sum, [.list xs] => match intsOf xs with | some ns => .ok (.v (.int ns.sum)) | none => .no
  | .sum, [.tuple xs] => match intsOf xs with | some ns => .ok (.v (.int ns.sum)) | none => .no
  | .any, [.tuple xs] => match intsOf xs with | some ns => .ok (.v (.bool (ns.any fun n => n != 0))) | none => .no
  | .min2, [.int i, .int j] => .ok (.v (.int (if j < i then j else i)))
  | .max2, [.int i, .int j] => .ok (.v (.int (if j > i then j else i)))
  | .min2, [.tuple xs, .tuple ys] => if AlikeB [.tuple xs, .tuple ys] = true then .ok (.v (PySem.W.minD (.tuple xs) [.tuple ys])) else .no
  | .max2, [.tuple xs, .tuple ys] => if AlikeB [.tuple xs, .tuple ys] = true then .ok (.v (PySem.W.maxD (.tuple xs) [.tuple ys])) else .no
  | .repr, [d] => reprD d
  | .show, [.tuple xs] => if ShowOk (.tuple xs) then .ok (.v (.str (PyData.shown (.tuple xs)))) else .no
  | .show, [.list xs] => if ShowOk (.list xs) then .ok (.v (.str (PyData.shown (.list xs)))) else .no
  | .show, [.str x] => if ShowOk (.str x) then .ok (.v (.str (PyData.shown (.str x)))) else .no
  | .show, [.dict []] => .ok (.v (.str (PyData.shown (.dict []))))
  | .show, [d] => reprD d
  | .max4, [.int i, .int j, .int k, .int l] => .ok (.v (.int (mx4 i j k l)))
  | .min1, [d] => match items d with
    | some (x :: xs) => if AlikeB (x :: xs) = true then .ok (.v (PySem.W.minD x xs)) else .no
    | _ => .no
  | .max1, [d] => match items d with
    | some (x :: xs) => if AlikeB (x :: xs) = true then .ok (.v (PySem.W.maxD x xs)) else .no
    | _ => .no
  | .sorted, [.list xs] => if AlikeB xs = true ∧ SortB xs = true then .ok (.t (xs.mergeSort (PySem.W.dataLe false id))) else .no
  | .sorted, [.tuple xs] => if AlikeB xs = true ∧ SortB xs = true then .ok (.t (xs.mergeSort (PySem.W.dataLe false id))) else .no
  | .lenset, [d] => match intsIn d with
    | some ns => if ns.length ≤ 1000 then .ok (.v (.int (dd ns).length)) else .no
    | none => .no
  | .sortset, [d] => match intsIn d with
    | some ns => if ns.length ≤ 1000 ∧ (dd ns).length < 64 then .ok (.t ((sd ns).map .int)) else .no
    | none => .no
  | .rev, [.list xs] => .ok (.t xs.reverse)
  | .rev, [.tuple xs] => .ok (.v (.tuple xs.reverse))
  | .isInt, [d] => if isDictD d = true then .no else .ok (.v (.bool (isIntD d)))
  | .isBool, [d] => if isDictD d = true then .no else .ok (.v (.bool (isBoolD d)))
  | .isTuple, [d] => if isDictD d = true then .no else .ok (.v (.bool (isTupleD d)))
  | .isList, [d] => if isDictD d = true then .no else .ok (.v (.bool (isListD d)))
  | .isStr, [d] => if isDictD d = true then .no else .ok (.v (.bool (isStrD d)))
  | .isDict, [d] => if isDictD d = true then .no else .ok (.v (.bool (isDictK d)))
  | _, _ => .no

def mtD : MtK → D → D → Res R
  | .index, .list xs, x => if shp 40 x = true ∧ xs.all (shp 40) = true then (match xs.findIdx? fun y => PyData.eqv y x with | some j => .ok (.v (.int j)) | none => .no) else .no
  | .count, .list xs, x => if shp 40 x = true ∧ xs.all (shp 40) = true then .ok (.v (.int (xs.countP fun y => PyData.eqv y x : Nat))) else .no
  | _, _, _ => .no

def rngOk (i : Int) : Prop := -4611686018427387904 ≤ i ∧ i < 4611686018427387904
noncomputable instance (i : Int) : Decidable (rngOk i) := Classical.propDecidable _
/-- lo, lo + 1, .. -/
def rng (lo : Int) (n : Nat) : List D := (List.range n).map fun (k : Nat) => .int (lo + (k : Int))
/-- lo, lo + c, .. -/
def rngC (lo c : Int) (n : Nat) : List D := (List.range n).map fun (k : Nat) => .int (lo + (k : Int) * c)
def RngC (a b c : Int) : Prop := c ≠ 0 ∧ c.natAbs < 1073741824 ∧ PySem.Builtin.Range.small a b c = true ∧ 0 ≤ PySem.Builtin.Range.rangeSize a b c
noncomputable instance (a b c : Int) : Decidable (RngC a b c) := Classical.propDecidable _
def rngD : List D → Res (List D)
  | [.int n] => if rngOk n then .ok (rng 0 n.toNat) else .no
  | [.int a, .int b] => if rngOk a ∧ rngOk b then .ok (rng a (b - a).toNat) else .no
  | [.int a, .int b, .int c] => if RngC a b c then .ok (rngC a c (PySem.Builtin.Range.rangeSize a b c).toNat) else .no
  | _ => .no
@[simp] def zipL : List D → List D → List D
  | x :: xs, y :: ys => .tuple [x, y] :: zipL xs ys
  | _, _ => []
def enumL : Nat → List D → List D
  | _, [] => []
  | n, x :: xs => .tuple [.int n, x] :: enumL (n + 1) xs

/-! ### functions -/
structure FnSem where
  inout : List Bool
  run : List D → Res (R × List (List D))
abbrev Fns := Nat → FnSem
def badFn : FnSem := ⟨[], fun _ => .no⟩
def tbl (l : List FnSem) : Fns := fun i => l.getD i badFn

/-! ### stores -/
def storeR (σ : Sts) (i : Nat) : R → Sts
  | .v d => σ.set i (.val d)
  | .t ds => σ.set i (.own ds)
  | .p j => let q := frz σ (.p j); q.2.set i (.val q.1)
mutual
@[simp] def stD : T → D → Sts → Res Sts
  | .gn i, d, σ => if i < σ.length then .ok (σ.set i (.val d)) else .no
  | .gt gs, .tuple ds, σ => stDs gs ds σ
  | .gt gs, .list ds, σ => stDs gs ds σ
  | _, _, _ => .no
@[simp] def stDs : T → List D → Sts → Res Sts
  | .nil, [], σ => .ok σ
  | .cons g gs, d :: ds, σ => (stD g d σ).bind fun σ => stDs gs ds σ
  | _, _, _ => .no
end
def stR : T → R → Sts → Res Sts
  | .gn i, r, σ => if i < σ.length then .ok (storeR σ i r) else .no
  | g, r, σ => let q := frz σ r; stD g q.1 q.2
/-- slots set, one after another -/
@[simp] def setQ : List Nat → List Slot → Sts → Res Sts
  | [], [], σ => .ok σ
  | i :: is, q :: qs, σ => if i < σ.length then setQ is qs (σ.set i q) else .no
  | _, _, _ => .no
/-- what is stored in a slot: a list that a slot holds becomes a value -/
def quar (σ : Sts) : R → Slot × Sts
  | .t ds => (.own ds, σ)
  | r => let z := frz σ r; (.val z.1, z.2)

inductive Fl where
  | nx | rt (r : R)

def lcLoop (body : D → Sts → Res (Option D × Sts)) : List D → Sts → List D → Res (List D × Sts)
  | [], σ, acc => .ok (acc, σ)
  | d :: ds, σ, acc => (body d σ).bindN fun q => match q.1 with
    | some x => lcLoop body ds q.2 (acc ++ [x])
    | none => lcLoop body ds q.2 acc
def forLoop (body : D → Sts → Res (Fl × Sts)) : List D → Sts → Res (Fl × Sts)
  | [], σ => .ok (.nx, σ)
  | d :: ds, σ => (body d σ).bind fun q => match q.1 with
    | .nx => forLoop body ds q.2
    | .rt r => .ok (.rt r, q.2)
def whlLoop (c : Sts → Res (Bool × Sts)) (body : Sts → Res (Fl × Sts)) : Nat → Sts → Res (Fl × Sts)
  | 0, _ => .no
  | n + 1, σ => (c σ).bind fun q => match q.1 with
    | false => .ok (.nx, q.2)
    | true => (body q.2).bind fun q => match q.1 with
      | .nx => whlLoop c body n q.2
      | .rt r => .ok (.rt r, q.2)
/-- turns of a while at most -/
def whlMost : Nat := 1000000000000
/-- the slots of a comprehension's own names put back -/
@[simp] def unwipe (σ₀ : Sts) : List Nat → Sts → Sts
  | [], σ => σ
  | i :: is, σ => match σ₀[i]? with
    | some s => (unwipe σ₀ is σ).set i s
    | none => unwipe σ₀ is σ
@[simp] def wipeD (σ : Sts) : List Nat → Sts
  | [] => σ
  | i :: is => (wipeD σ is).set i .no
def boolOf (q : R × Sts) : Res (Bool × Sts) := match q.1 with
  | .v (.bool b) => .ok (b, q.2)
  | _ => .no
/-- arguments by mode: an inout one hands its slot's list over, any other becomes a value -/
@[simp] def passArgs : List Bool → List R → Sts → Res (List D × Sts)
  | [], [], σ => .ok ([], σ)
  | true :: ms, .p i :: rs, σ => match σ[i]? with
    | some (.own ds) => (passArgs ms rs σ).bind fun q => match q.2[i]? with
      | some (.own _) => .ok (.list ds :: q.1, q.2)
      | _ => .no
    | _ => .no
  | false :: ms, r :: rs, σ => let q := frz σ r; (passArgs ms rs q.2).bind fun w => .ok (q.1 :: w.1, w.2)
  | _, _, _ => .no
@[simp] def backArgs : List Bool → List R → List (List D) → Sts → Res Sts
  | [], [], [], σ => .ok σ
  | true :: ms, .p i :: rs, o :: os, σ => backArgs ms rs os (σ.set i (.own o))
  | false :: ms, _ :: rs, os, σ => backArgs ms rs os σ
  | _, _, _, _ => .no
/-- no slot is handed over twice -/
@[simp] def inoutIx : List Bool → List R → List Nat
  | true :: ms, .p i :: rs => i :: inoutIx ms rs
  | _ :: ms, _ :: rs => inoutIx ms rs
  | _, _ => []
/-- an exception may leave a function that is handed no list to change -/
def exOk {α : Type} (io : List Bool) : Res α → Res α
  | .ok a => .ok a
  | .ex c as => if (io.all fun b => !b) = true then .ex c as else .no
  | .no => .no
def callF (F : FnSem) (rs : List R) (σ : Sts) : Res (R × Sts) :=
  if (inoutIx F.inout rs).Nodup then
    (passArgs F.inout rs σ).bind fun q => (exOk F.inout (F.run q.1)).bind fun w => (backArgs F.inout rs w.2 q.2).bind fun σ => .ok (w.1, σ)
  else .no
/-- what a call comes to, as data for the function that caught it -/
def tellR : Res (R × List (List D)) → Res D
  | .ok (.v d, []) => .ok (.tuple [.none, d])
  | .ok (.t ds, []) => .ok (.tuple [.none, .list ds])
  | .ex c as => .ok (.tuple (.str c :: as))
  | _ => .no
/-- a call caught: what is left of the slots, what it came to -/
def caught (F : FnSem) (rs : List R) (σ : Sts) : Res (D × Sts) :=
  if (F.inout.all fun b => !b) = true then (passArgs F.inout rs σ).bind fun q => (tellR (F.run q.1)).bind fun d => .ok (d, q.2) else .no
/-- what a def that catches gives -/
def lamEnd (w : R × List (List D)) (σ : Sts) : Res (R × Sts) := match w.1, w.2 with
  | .v d, [] => .ok (.v d, σ)
  | _, _ => .no
/-- what stands in a place of a text -/
def constD : T → Option (Int ⊕ Str)
  | .int n => some (.inl n)
  | .str s => some (.inr s)
  | _ => none
def keyD : Int ⊕ Str → D
  | .inl n => .int n
  | .inr s => .str s
@[simp] def keysOf : T → Option (List (Int ⊕ Str))
  | .nil => some []
  | .cons k r => (constD k).bind fun d => (keysOf r).map (d :: ·)
  | _ => none
/-- atoms that an exception may bear -/
def atomD : D → Bool
  | .int _ => true
  | .str _ => true
  | .none => true
  | .bool _ => true
  | _ => false

section
variable (Φ : Fns) (Γ : List D)
mutual
def evE : T → Sts → Res (R × Sts)
  | .var i, σ => match σ[i]? with
    | some (.val d) => .ok (.v d, σ)
    | some (.own _) => .ok (.p i, σ)
    | _ => .no
  | .int n, σ => .ok (.v (.int n), σ)
  | .bl b, σ => .ok (.v (.bool b), σ)
  | .non, σ => .ok (.v .none, σ)
  | .str s, σ => .ok (.v (.str s), σ)
  | .glb k, σ => match Γ[k]? with
    | some d => .ok (.v d, σ)
    | none => .no
  | .bin o a b, σ => (evE a σ).bind fun x => (evE b x.2).bind fun y => (binD o (cont y.2 x.1) (cont y.2 y.1)).bind fun r => .ok (r, y.2)
  | .neg a, σ => (evE a σ).bind fun x => match x.1 with
    | .v (.int i) => .ok (.v (.int (-i)), x.2)
    | _ => .no
  | .cmp o a b, σ => (evE a σ).bind fun x => (evE b x.2).bind fun y => (cmpD o (cont y.2 x.1) (cont y.2 y.1)).bind fun r => .ok (r, y.2)
  | .chn o p a b c, σ => (evE a σ).bind fun x => (evE b x.2).bind fun y => (cmpB o (cont y.2 x.1) (cont y.2 y.1)).bind fun k =>
      match k with
      | true => (evE c y.2).bind fun z => (cmpD p (cont z.2 y.1) (cont z.2 z.1)).bind fun r => .ok (r, z.2)
      | false => .ok (.v (.bool false), y.2)
  | .not a, σ => (evE a σ).bind fun x => (boolOf x).bind fun q => .ok (.v (.bool (!q.1)), q.2)
  | .and a b, σ => (evE a σ).bind fun x => (boolOf x).bind fun q => match q.1 with
    | true => evE b q.2
    | false => .ok (.v (.bool false), q.2)
  | .or a b, σ => (evE a σ).bind fun x => (boolOf x).bind fun q => match q.1 with
    | true => .ok (.v (.bool true), q.2)
    | false => evE b q.2
  | .ifx c a b, σ => (evE c σ).bind fun x => (boolOf x).bind fun q => match q.1 with
    | true => evE a q.2
    | false => evE b q.2
  | .tup as, σ => (evV as σ).bind fun q => if q.1.length ≤ sizeL then .ok (.v (.tuple q.1), q.2) else .no
  | .lst as, σ => (evV as σ).bind fun q => if q.1.length ≤ sizeL then .ok (.t q.1, q.2) else .no
  | .ix a i, σ => (evE a σ).bind fun x => (evE i x.2).bind fun y => (ixD (cont y.2 x.1) (cont y.2 y.1)).bind fun r => .ok (r, y.2)
  | .slc a lo hi, σ => (evE a σ).bind fun x => (evP lo x.2).bind fun l => (evP hi l.2).bind fun h => (slcD (cont h.2 x.1) l.1 h.1).bind fun r => .ok (r, h.2)
  | .lc g it c e own, σ => (evI it σ).bind fun q =>
      (lcLoop (fun d σ => (stD g d σ).bind fun σ => (evC c σ).bind fun k => match k.1 with
        | true => (evE e k.2).bind fun x => let z := frz x.2 x.1; .ok (some z.1, wipeD z.2 own)
        | false => .ok (none, wipeD k.2 own)) q.1 (wipeD q.2 own) []).bind fun w =>
      if w.1.length ≤ sizeL then .ok (.t w.1, unwipe q.2 own w.2) else .no
  | .rgl as, σ => (evA as σ).bind fun q => (rngD (q.1.map (cont q.2))).bind fun ds => if ds.length ≤ sizeL then .ok (.t ds, q.2) else .no
  | .rgt as, σ => (evA as σ).bind fun q => (rngD (q.1.map (cont q.2))).bind fun ds => if ds.length ≤ sizeL then .ok (.v (.tuple ds), q.2) else .no
  | .bi k as, σ => (evA as σ).bind fun q => (biD k (q.1.map (cont q.2))).bind fun r => .ok (r, q.2)
  | .mt k a b, σ => (evE a σ).bind fun x => if isListD (cont x.2 x.1) = false then .no else (evE b x.2).bind fun y => (mtD k (cont y.2 x.1) (cont y.2 y.1)).bind fun r => .ok (r, y.2)
  | .pop i, σ => match σ[i]? with
    | some (.own ds) => match ds.getLast? with
      | some d => .ok (.v d, σ.set i (.own ds.dropLast))
      | none => .no
    | _ => .no
  | .popa i e, σ => match σ[i]? with
    | some (.own _) => (evE e σ).bind fun x => match x.1, x.2[i]? with
      | .v (.int k), some (.own ds) => if 0 ≤ k ∧ k < (sizeL : Int) then (match ds[k.toNat]? with
        | some d => .ok (.v d, x.2.set i (.own (ds.eraseIdx k.toNat)))
        | none => .no) else .no
      | _, _ => .no
    | _ => .no
  | .call f as, σ => (evA as σ).bind fun q => callF (Φ f) q.1 q.2
  | .lam k f as, σ => (evA as σ).bindN fun q => (caught (Φ f) q.1 q.2).bindN fun z => ((Φ k).run [z.1]).bindN fun w => lamEnd w z.2
  | .lamv k i tb as, σ => match fnvOf tb σ[i]? with
    | some f => (evA as σ).bindN fun q => (caught (Φ f) q.1 q.2).bindN fun z => ((Φ k).run [z.1]).bindN fun w => lamEnd w z.2
    | none => .no
  | .dic ks vs, σ => (evV vs σ).bind fun q => match keysOf ks with
    | some ds => if ds.length = q.1.length ∧ ds.length ≤ 1000 ∧ ds.Nodup then .ok (.v (.dict ((ds.map keyD).zip q.1)), q.2) else .no
    | none => .no
  | .xc i e, σ => match σ[i]? with
    | some .exc => evE e σ
    | _ => .no
  | _, _ => .no
/-- arguments -/
@[simp] def evA : T → Sts → Res (List R × Sts)
  | .nil, σ => .ok ([], σ)
  | .cons e r, σ => (evE e σ).bind fun x => (evA r x.2).bind fun y => .ok (x.1.nt :: y.1, y.2)
  | _, _ => .no
/-- items of a display -/
@[simp] def evV : T → Sts → Res (List D × Sts)
  | .nil, σ => .ok ([], σ)
  | .cons e r, σ => (evE e σ).bind fun x => let z := frz x.2 x.1; (evV r z.2).bind fun y => .ok (z.1 :: y.1, y.2)
  | _, _ => .no
/-- a part of a slice -/
@[simp] def evP : T → Sts → Res (Option Int × Sts)
  | .nil, σ => .ok (none, σ)
  | .cons e .nil, σ => (evE e σ).bind fun x => match x.1 with
    | .v (.int i) => .ok (some i, x.2)
    | _ => .no
  | _, _ => .no
/-- a comprehension's test -/
@[simp] def evC : T → Sts → Res (Bool × Sts)
  | .nil, σ => .ok (true, σ)
  | .cons e .nil, σ => (evE e σ).bind boolOf
  | _, _ => .no
/-- what is walked -/
@[simp] def evI : T → Sts → Res (List D × Sts)
  | .itv e, σ => (evE e σ).bind fun x => let z := frz x.2 x.1; match itemsI z.1 with
    | some ds => .ok (ds, z.2)
    | none => .no
  | .itr as, σ => (evA as σ).bind fun q => (rngD (q.1.map (cont q.2))).bind fun ds => .ok (ds, q.2)
  | .itz a b, σ => (evE a σ).bind fun x => let z := frz x.2 x.1; (evE b z.2).bind fun y => let w := frz y.2 y.1; match z.1, w.1 with
    | .list xs, .list ys => .ok (zipL xs ys, w.2)
    | .tuple xs, .tuple ys => .ok (zipL xs ys, w.2)
    | .list xs, .tuple ys => .ok (zipL xs ys, w.2)
    | .tuple xs, .list ys => .ok (zipL xs ys, w.2)
    | _, _ => .no
  | .ite a, σ => (evE a σ).bind fun x => let z := frz x.2 x.1; match z.1 with
    | .list ds => .ok (enumL 0 ds, z.2)
    | .tuple ds => .ok (enumL 0 ds, z.2)
    | _ => .no
  | _, _ => .no
end

def evT (e : T) (σ : Sts) : Res (Bool × Sts) := (evE Φ Γ e σ).bind boolOf
/-- what is stored side by side -/
@[simp] def evQ : T → Sts → Res (List Slot × Sts)
  | .nil, σ => .ok ([], σ)
  | .cons e r, σ => (evE Φ Γ e σ).bind fun x => let z := quar x.2 x.1; (evQ r z.2).bind fun y => .ok (z.1 :: y.1, y.2)
  | _, _ => .no

mutual
def evS : T → Sts → Res (Fl × Sts)
  | .asg g e, σ => (evE Φ Γ e σ).bind fun x => (stR g x.1 x.2).bind fun σ => .ok (.nx, σ)
  | .par is es, σ => (evQ Φ Γ es σ).bind fun q => (setQ is.reverse q.1.reverse q.2).bind fun σ => .ok (.nx, σ)
  | .unp is es, σ => (evQ Φ Γ es σ).bind fun q => (setQ is q.1 q.2).bind fun σ => .ok (.nx, σ)
  | .sti i ix e, σ => (evE Φ Γ e σ).bind fun x => let z := frz x.2 x.1; match z.2[i]? with
    | some (.own _) => (evE Φ Γ ix z.2).bind fun y => match y.1 with
      | .v (.int k) => match y.2[i]? with
        | some (.own ds) => if 0 ≤ k ∧ k < (ds.length : Int) then .ok (.nx, y.2.set i (.own (ds.set k.toNat z.1))) else if k < 0 ∧ -(ds.length : Int) ≤ k then .ok (.nx, y.2.set i (.own (ds.set (k + ds.length).toNat z.1))) else .no
        | _ => .no
      | _ => .no
    | _ => .no
  | .ret e, σ => (evE Φ Γ e σ).bind fun x => .ok (.rt x.1, x.2)
  | .iff c a b, σ => (evT Φ Γ c σ).bind fun q => match q.1 with
    | true => evB a q.2
    | false => evB b q.2
  | .forr g it b, σ => (evI Φ Γ it σ).bind fun q => forLoop (fun d σ => (stD g d σ).bind fun σ => evB b σ) q.1 q.2
  | .whl c b, σ => whlLoop (fun σ => evT Φ Γ c σ) (fun σ => evB b σ) whlMost σ
  | .app i e, σ => match σ[i]? with
    | some (.own _) => (evE Φ Γ e σ).bind fun x => let z := frz x.2 x.1; match z.2[i]? with
      | some (.own ds) => if ds.length < sizeL then .ok (.nx, z.2.set i (.own (ds ++ [z.1]))) else .no
      | _ => .no
    | _ => .no
  | .ext i e, σ => match σ[i]? with
    | some (.own _) => (evE Φ Γ e σ).bind fun x => match cont x.2 x.1, x.2[i]? with
      | .list es, some (.own ds) => if ds.length + es.length ≤ sizeL then .ok (.nx, x.2.set i (.own (ds ++ es))) else .no
      | _, _ => .no
    | _ => .no
  | .drp e, σ => (evE Φ Γ e σ).bind fun x => .ok (.nx, x.2)
  | .rse c as, σ => (evV Φ Γ as σ).bind fun q => if (q.1.all atomD) = true then .ex c q.1 else .no
  | _, _ => .no
@[simp] def evB : T → Sts → Res (Fl × Sts)
  | .nil, σ => .ok (.nx, σ)
  | .cons s r, σ => (evS s σ).bind fun q => match q.1 with
    | .nx => evB r q.2
    | .rt r => .ok (.rt r, q.2)
  | _, _ => .no
end
end

/-- what a def hands back: a list that its frame alone held is the caller's -/
def retR (prot : List Nat) (σ : Sts) : R → Res R
  | .v d => .ok (.v d)
  | .t ds => .ok (.t ds)
  | .p i => if i ∈ prot then .no else match σ[i]? with
    | some (.own ds) => .ok (.t ds)
    | some (.val d) => .ok (.v d)
    | _ => .no
@[simp] def startD : List Bool → List D → Sts
  | true :: ms, .list ds :: r => .own ds :: startD ms r
  | _ :: ms, d :: r => .val d :: startD ms r
  | _, _ => []
@[simp] def outsOf : List Nat → Sts → Res (List (List D))
  | [], _ => .ok []
  | i :: is, σ => match σ[i]? with
    | some (.own ds) => (outsOf is σ).map (ds :: ·)
    | _ => .no
@[simp] def protOf : Nat → List Bool → List Nat
  | _, [] => []
  | i, true :: r => i :: protOf (i + 1) r
  | i, false :: r => protOf (i + 1) r
/-- a def: how many slots it has, its body -/
def mkFn (Φ : Fns) (Γ : List D) (inout : List Bool) (slots : Nat) (body : T) : FnSem where
  inout := inout
  run := fun as => if as.length = inout.length then
    (evB Φ Γ body (startD inout as ++ List.replicate (slots - inout.length) .no)).bind fun q =>
      (match q.1 with | .nx => Res.ok (R.v .none) | .rt r => retR (protOf 0 inout) q.2 r).bind fun r => (outsOf (protOf 0 inout) q.2).bind fun os => Res.ok (r, os)
    else .no
end
end Fz

/-! Ev2: how the values of Ev1 lie in the abstract heap; what a step keeps. -/
namespace Fz
open PySem PySem.Spec PyProof.Rows L2

mutual
inductive Rp (K : PySem.W.Frag) (G : Hp) : V → D → Prop
  | non : Rp K G .non .none
  | bl (b : Bool) : Rp K G (.bl b) (.bool b)
  | int (i : Int) : Rp K G (.int i) (.int i)
  | str (x : Str) : Rp K G (.str x) (.str x)
  | lst {a : Addr} {xs : List V} {ds : List D} : G a = some (.lst xs) → RpA K G xs ds → Rp K G (.ref a) (.list ds)
  | tup {a : Addr} {xs : List V} {ds : List D} : SqT K G a xs → RpA K G xs ds → Rp K G (.ref a) (.tuple ds)
  | scr {a : Addr} {ns : List Int} {ds : List D} : SqL K G a (ns.map V.int) → ds = ns.map PyData.int → Rp K G (.ref a) (.dict [(.list ds, .none)])
  | dct {a : Addr} {ks : List Key} {vs : List V} {ds : List D} : G a = some (.dK (ks.zip vs)) → ks.length = ds.length → RpA K G vs ds → Rp K G (.ref a) (.dict ((ks.map keyD).zip ds))
  | fn {x : Str} : Rp K G (.ref (He.fAd K (x, none))) (fnD x)
inductive RpA (K : PySem.W.Frag) (G : Hp) : List V → List D → Prop
  | nil : RpA K G [] []
  | cons {v : V} {vs : List V} {d : D} {ds : List D} : Rp K G v d → RpA K G vs ds → RpA K G (v :: vs) (d :: ds)
end

abbrev Sub (G H : Hp) : Prop := ∀ b o, G b = some o → H b = some o
theorem Sub.rfl' {G : Hp} : Sub G G := fun _ _ h => h
theorem Sub.trans {G H J : Hp} (a : Sub G H) (b : Sub H J) : Sub G J := fun _ _ h => b _ _ (a _ _ h)
section
variable {K : PySem.W.Frag} {G H : Hp}
theorem rd_sub (s : Sub G H) {a : Addr} {u : HO} (r : Rd G a u) : Rd H a u := by
  rcases r with r | ⟨o, r⟩
  · exact .inl (s _ _ r)
  · exact .inr ⟨o, s _ _ r⟩
theorem sqT_sub (s : Sub G H) {a : Addr} {xs : List V} (h : SqT K G a xs) : SqT K H a xs := by
  rcases h with h | h
  · exact .inl (rd_sub s h)
  · exact .inr h
theorem sqL_sub (s : Sub G H) {a : Addr} {xs : List V} (h : SqL K G a xs) : SqL K H a xs := by
  rcases h with h | h
  · exact .inl (rd_sub s h)
  · exact .inr h
mutual
theorem Rp.mono (s : Sub G H) : ∀ {v : V} {d : D}, Rp K G v d → Rp K H v d
  | _, _, .non => .non
  | _, _, .bl b => .bl b
  | _, _, .int i => .int i
  | _, _, .str x => .str x
  | _, _, .lst h r => .lst (s _ _ h) (RpA.mono s r)
  | _, _, .tup h r => .tup (sqT_sub s h) (RpA.mono s r)
  | _, _, .scr h e => .scr (sqL_sub s h) e
  | _, _, .dct h l r => .dct (s _ _ h) l (RpA.mono s r)
  | _, _, .fn => .fn
theorem RpA.mono (s : Sub G H) : ∀ {vs : List V} {ds : List D}, RpA K G vs ds → RpA K H vs ds
  | _, _, .nil => .nil
  | _, _, .cons r t => .cons (Rp.mono s r) (RpA.mono s t)
end
theorem RpA.len : ∀ {vs : List V} {ds : List D}, RpA K G vs ds → vs.length = ds.length
  | _, _, .nil => rfl
  | _, _, .cons _ t => by rw [List.length_cons, List.length_cons, RpA.len t]
theorem RpA.get : ∀ {vs : List V} {ds : List D} (i : Nat) {v : V}, RpA K G vs ds → vs[i]? = some v → ∃ d, ds[i]? = some d ∧ Rp K G v d
  | _, _, _, _, .nil, h => by simp at h
  | _, _, 0, _, .cons r _, h => by simp at h; subst h; exact ⟨_, rfl, r⟩
  | _, _, i + 1, _, .cons _ t, h => by
    obtain ⟨d, e, r⟩ := RpA.get i t (by simpa using h)
    exact ⟨d, by simpa using e, r⟩
theorem RpA.getD : ∀ {vs : List V} {ds : List D} (i : Nat) {d : D}, RpA K G vs ds → ds[i]? = some d → ∃ v, vs[i]? = some v ∧ Rp K G v d
  | _, _, _, _, .nil, h => by simp at h
  | _, _, 0, _, .cons r _, h => by simp at h; subst h; exact ⟨_, rfl, r⟩
  | _, _, i + 1, _, .cons _ t, h => by
    obtain ⟨d, e, r⟩ := RpA.getD i t (by simpa using h)
    exact ⟨d, by simpa using e, r⟩
theorem RpA.append : ∀ {vs ws : List V} {ds es : List D}, RpA K G vs ds → RpA K G ws es → RpA K G (vs ++ ws) (ds ++ es)
  | _, _, _, _, .nil, s => s
  | _, _, _, _, .cons r t, s => .cons r (RpA.append t s)
theorem RpA.snoc {vs : List V} {ds : List D} {v : V} {d : D} (r : RpA K G vs ds) (h : Rp K G v d) : RpA K G (vs ++ [v]) (ds ++ [d]) := r.append (.cons h .nil)
theorem RpA.set : ∀ {vs : List V} {ds : List D} (i : Nat) {v : V} {d : D}, RpA K G vs ds → Rp K G v d → RpA K G (vs.set i v) (ds.set i d)
  | _, _, _, _, _, .nil, _ => .nil
  | _, _, 0, _, _, .cons _ t, r => .cons r t
  | _, _, i + 1, _, _, .cons q t, r => .cons q (RpA.set i t r)
theorem RpA.drop : ∀ {vs : List V} {ds : List D} (i : Nat), RpA K G vs ds → RpA K G (vs.drop i) (ds.drop i)
  | _, _, 0, r => r
  | _, _, _ + 1, .nil => .nil
  | _, _, i + 1, .cons _ t => RpA.drop i t
theorem RpA.take : ∀ {vs : List V} {ds : List D} (i : Nat), RpA K G vs ds → RpA K G (vs.take i) (ds.take i)
  | _, _, 0, _ => .nil
  | _, _, _ + 1, .nil => .nil
  | _, _, i + 1, .cons r t => .cons r (RpA.take i t)
theorem RpA.eraseIdx : ∀ {vs : List V} {ds : List D} (i : Nat), RpA K G vs ds → RpA K G (vs.eraseIdx i) (ds.eraseIdx i)
  | _, _, _, .nil => .nil
  | _, _, 0, .cons _ t => t
  | _, _, i + 1, .cons r t => .cons r (RpA.eraseIdx i t)
theorem RpA.dropLast {vs : List V} {ds : List D} (r : RpA K G vs ds) : RpA K G vs.dropLast ds.dropLast := by
  rw [List.dropLast_eq_take, List.dropLast_eq_take, r.len]
  exact r.take _
theorem RpA.flat {vs : List V} {ds : List D} (r : RpA K G vs ds) : ∀ n : Nat, RpA K G (List.replicate n vs).flatten (List.replicate n ds).flatten
  | 0 => .nil
  | n + 1 => by
    rw [List.replicate_succ, List.replicate_succ, List.flatten_cons, List.flatten_cons]
    exact r.append (r.flat n)
theorem RpA.ints : ∀ ns : List Int, RpA K G (ns.map V.int) (ns.map PyData.int)
  | [] => .nil
  | n :: ns => .cons (.int n) (RpA.ints ns)
end

/-! ### data by the library's readings -/
theorem shp_plain : ∀ (n : Nat) (d : D), shp n d = true → d.plain = true ∧ d.depth ≤ n := by
  intro n
  induction n with
  | zero =>
    intro d h
    cases d <;> first | (exfalso; simp [shp] at h; done) | (exact ⟨by simp [PyData.plain], by simp [PyData.depth]⟩)
  | succ n ih =>
    intro d h
    have all : ∀ xs : List D, xs.all (shp n) = true → PyData.plainAll xs = true ∧ PyData.depthAll xs ≤ n := by
      intro xs
      induction xs with
      | nil => intro _; exact ⟨by simp [PyData.plainAll], by simp [PyData.depthAll]⟩
      | cons x xs ihx =>
        intro hx
        rw [List.all_cons, Bool.and_eq_true] at hx
        obtain ⟨p1, p2⟩ := ih x hx.1
        obtain ⟨q1, q2⟩ := ihx hx.2
        refine ⟨by simp [PyData.plainAll, p1, q1], ?_⟩
        simp only [PyData.depthAll]
        omega
    cases d with
    | list xs =>
      obtain ⟨p, q⟩ := all xs (by simpa [shp] using h)
      exact ⟨by simpa [PyData.plain] using p, by simp only [PyData.depth]; omega⟩
    | tuple xs =>
      obtain ⟨p, q⟩ := all xs (by simpa [shp] using h)
      exact ⟨by simpa [PyData.plain] using p, by simp only [PyData.depth]; omega⟩
    | dict kvs => simp [shp] at h
    | _ => exact ⟨by simp [PyData.plain], by simp [PyData.depth]⟩
section
variable {K : PySem.W.Frag} {G H : Hp}
mutual
theorem Rp.dp (s : Sub G H) : ∀ {v : V} {d : D}, Rp K G v d → d.plain = true → Dp K H v d
  | _, _, .non, _ => .non
  | _, _, .bl b, _ => .bl b
  | _, _, .int i, _ => .int i
  | _, _, .str x, _ => .str x
  | _, _, .lst h r, p => .lst (.inl (.inl (s _ _ h))) (RpA.dp s r (by simpa [PyData.plain] using p))
  | _, _, .tup h r, p => .tup (sqT_sub s h) (RpA.dp s r (by simpa [PyData.plain] using p))
  | _, _, .scr _ _, p => by simp [PyData.plain] at p
  | _, _, .dct _ _ _, p => by simp [PyData.plain] at p
  | _, _, .fn, p => by simp [fnD, PyData.plain] at p
theorem RpA.dp (s : Sub G H) : ∀ {vs : List V} {ds : List D}, RpA K G vs ds → PyData.plainAll ds = true → DpAll K H vs ds
  | _, _, .nil, _ => .nil
  | _, _, .cons r t, p => by
    rw [PyData.plainAll, Bool.and_eq_true] at p
    exact .cons (Rp.dp s r p.1) (RpA.dp s t p.2)
end
end

/-! ### what a thing reads as: a value, or a list whose items are values -/
def Cn (K : PySem.W.Frag) (G H : Hp) (v : V) (d : D) : Prop :=
  Rp K G v d ∨ ∃ a vs ds, v = V.ref a ∧ d = PyData.list ds ∧ H a = some (HO.lst vs) ∧ RpA K G vs ds
section
variable {K : PySem.W.Frag} {G H : Hp} {v : V} {d : D}
theorem Cn.dp (s : Sub G H) (c : Cn K G H v d) (p : d.plain = true) : Dp K H v d := by
  rcases c with c | ⟨a, vs, ds, rfl, rfl, h, r⟩
  · exact c.dp s p
  · exact .lst (.inl (.inl h)) (r.dp s (by simpa [PyData.plain] using p))
theorem Cn.list (s : Sub G H) {ds : List D} (c : Cn K G H v (.list ds)) : ∃ a vs, v = V.ref a ∧ H a = some (HO.lst vs) ∧ RpA K G vs ds := by
  rcases c with c | ⟨a, vs, ds', rfl, e, h, r⟩
  · cases c with
    | lst h r => exact ⟨_, _, rfl, s _ _ h, r⟩
  · cases e
    exact ⟨a, vs, rfl, h, r⟩
theorem Cn.tuple (s : Sub G H) {ds : List D} (c : Cn K G H v (.tuple ds)) : ∃ a vs, v = V.ref a ∧ SqT K H a vs ∧ RpA K G vs ds := by
  rcases c with c | ⟨a, vs, ds', rfl, e, h, r⟩
  · cases c with
    | tup h r => exact ⟨_, _, rfl, sqT_sub s h, r⟩
  · cases e
theorem Cn.int {i : Int} (c : Cn K G H v (.int i)) : v = .int i := by
  rcases c with c | ⟨a, vs, ds', rfl, e, h, r⟩
  · cases c; rfl
  · cases e
theorem Cn.bool {i : Bool} (c : Cn K G H v (.bool i)) : v = .bl i := by
  rcases c with c | ⟨a, vs, ds', rfl, e, h, r⟩
  · cases c; rfl
  · cases e
theorem Cn.str {x : Str} (c : Cn K G H v (.str x)) : v = .str x := by
  rcases c with c | ⟨a, vs, ds', rfl, e, h, r⟩
  · cases c; rfl
  · cases e
theorem Cn.none (c : Cn K G H v .none) : v = .non := by
  rcases c with c | ⟨a, vs, ds', rfl, e, h, r⟩
  · cases c; rfl
  · cases e
end

/-! ### states -/
def Own (σD : Sts) (σV : L2.St) (b : Addr) : Prop := ∃ (i : Nat) (ds : List D), σD[i]? = some (Slot.own ds) ∧ σV[i]? = some (some (V.ref b))
/-- no table is among the values -/
abbrev NTG (G : Hp) : Prop := ∀ b ps, G b ≠ some (HO.tbl ps)
/-- what holds of all states: tables; the exception in hand, the dict of its fields -/
structure Tb where
  l : List (Addr × Str)
  xa : Addr := 0
  xo : Option (Addr × List (Str × V)) := none
structure S2 (T : Tb) (K : PySem.W.Frag) (G H : Hp) (σD : Sts) (σV : L2.St) : Prop where
  len : σD.length = σV.length
  sub : Sub G H
  val : ∀ (i : Nat) (d : D), σD[i]? = some (Slot.val d) → ∃ v, σV[i]? = some (some v) ∧ Rp K G v d
  own : ∀ (i : Nat) (ds : List D), σD[i]? = some (Slot.own ds) → ∃ a vs, σV[i]? = some (some (V.ref a)) ∧ H a = some (HO.lst vs) ∧ G a = none ∧ RpA K G vs ds
  sep : ∀ (i j : Nat) (ds es : List D) (a : Addr), σD[i]? = some (Slot.own ds) → σD[j]? = some (Slot.own es) → σV[i]? = some (some (V.ref a)) → σV[j]? = some (some (V.ref a)) → i = j
  tabs : LamX.Tabs T.l H
  nt : NTG G
  exc : ∀ i : Nat, σD[i]? = some Slot.exc → σV[i]? = some (some (V.ref T.xa))
  xo : ∀ d f, T.xo = some (d, f) → H d = some (HO.xd f)
abbrev NoTbl (o : HO) : Prop := ∀ ps, o ≠ HO.tbl ps
theorem lst_nt {xs : List V} : NoTbl (.lst xs) := fun _ z => by cases z
/-- a thing that is no table stands there -/
def St (H : Hp) (b : Addr) : Prop := ∃ o, H b = some o ∧ NoTbl o
theorem St.lst {H : Hp} {b : Addr} {xs : List V} (e : H b = some (.lst xs)) : St H b := ⟨_, e, lst_nt⟩
theorem St.non {H : Hp} {b : Addr} (e : H b = none) : ¬ St H b := fun ⟨o, z, _⟩ => by rw [e] at z; cases z
theorem St.of {H : Hp} {b : Addr} {o : HO} (e : H b = some o) (n : NoTbl o) : St H b := ⟨o, e, n⟩
/-- a thing that is no table is written -/
theorem tabs_upd {T : List (Addr × Str)} {H : Hp} {a : Addr} {o u : HO} (t : LamX.Tabs T H) (ha : H a = some o) (no : NoTbl o) (nc : ∀ φ, o ≠ .ext φ) : LamX.Tabs T (upd H a u) := fun p hp => by
  obtain ⟨ps, h1, h2, h3⟩ := t p hp
  have hb : p.1 ≠ a := fun z => by
    rw [z, ha] at h1
    exact no ps (Option.some.inj h1)
  refine ⟨ps, by rw [upd_ne hb]; exact h1, h2, fun pos cv hc => ?_⟩
  obtain ⟨c, e1, e2⟩ := h3 pos cv hc
  refine ⟨c, e1, ?_⟩
  have hc : c ≠ a := fun z => by
    rw [z, ha] at e2
    exact nc _ (Option.some.inj e2)
  rw [upd_ne hc]
  exact e2
/-- a list is written: the exception's fields stay -/
theorem xo_upd {T : Tb} {H : Hp} {a : Addr} {xs : List V} {u : HO} (t : ∀ d f, T.xo = some (d, f) → H d = some (HO.xd f)) (ha : H a = some (.lst xs)) : ∀ d f, T.xo = some (d, f) → upd H a u d = some (HO.xd f) := fun d f e => by
  have h := t d f e
  have hd : d ≠ a := fun z => by rw [z, ha] at h; cases h
  rw [upd_ne hd]; exact h
theorem tabs_new {T : List (Addr × Str)} {H : Hp} {a : Addr} {u : HO} (t : LamX.Tabs T H) (ha : H a = none) : LamX.Tabs T (upd H a u) := t.ext fun b o e => by rw [upd_ne (ne_of_none e ha)]; exact e
/-- what is kept from one state to a later one -/
structure Step (σD : Sts) (σV : L2.St) (G H : Hp) (σD' : Sts) (σV' : L2.St) (G' H' : Hp) : Prop where
  gm : Sub G G'
  gn : ∀ b, G b = none → St H b → ¬ Own σD σV b → G' b = none
  keep : ∀ b o, H b = some o → NoTbl o → ¬ Own σD σV b → H' b = some o
  dom : ∀ b, St H b → St H' b
  own : ∀ b, Own σD' σV' b → Own σD σV b ∨ ¬ St H b
/-- no slot is lost -/
def Held (σD σD' : Sts) : Prop := σD'.length = σD.length ∧ ∀ (i : Nat) (s : Slot), σD[i]? = some s → s.dat = true → ∃ s', σD'[i]? = some s' ∧ s'.dat = true
theorem Held.rfl' {σ : Sts} : Held σ σ := ⟨rfl, fun _ s h n => ⟨s, h, n⟩⟩
theorem Held.trans {a b c : Sts} (x : Held a b) (y : Held b c) : Held a c := ⟨y.1.trans x.1, fun i s h n => by
  obtain ⟨s', h', n'⟩ := x.2 i s h n
  exact y.2 i s' h' n'⟩

section
variable {T : Tb} {K : PySem.W.Frag} {G H G1 H1 G2 H2 : Hp} {σD σD1 σD2 : Sts} {σV σV1 σV2 : L2.St}
theorem Own.some (S : S2 T K G H σD σV) {b : Addr} (o : Own σD σV b) : St H b ∧ G b = none := by
  obtain ⟨i, ds, h1, h2⟩ := o
  obtain ⟨a, vs, e1, e2, e3, _⟩ := S.own i ds h1
  rw [h2] at e1
  cases e1
  exact ⟨St.lst e2, e3⟩
theorem Step.rfl' : Step σD σV G H σD σV G H := ⟨Sub.rfl', fun _ h _ _ => h, fun _ _ h _ _ => h, fun _ h => h, fun _ h => .inl h⟩
theorem Step.trans (x : Step σD σV G H σD1 σV1 G1 H1) (y : Step σD1 σV1 G1 H1 σD2 σV2 G2 H2) : Step σD σV G H σD2 σV2 G2 H2 where
  gm := x.gm.trans y.gm
  gn := fun b h1 h2 h3 => y.gn b (x.gn b h1 h2 h3) (x.dom b h2) fun z => by
    rcases x.own b z with q | q
    · exact h3 q
    · exact q h2
  keep := fun b o h1 nt h3 => y.keep b o (x.keep b o h1 nt h3) nt fun z => by
    rcases x.own b z with q | q
    · exact h3 q
    · exact q (St.of h1 nt)
  dom := fun b h => y.dom b (x.dom b h)
  own := fun b z => by
    rcases y.own b z with q | q
    · exact x.own b q
    · exact .inr fun e => q (x.dom b e)

/-- the heap grows -/
structure Ext (G H G' H' : Hp) : Prop where
  gm : Sub G G'
  hm : Sub H H'
  sub : Sub G' H'
  gn : ∀ b, G b = none → St H b → G' b = none
  nt : NTG G → NTG G'
theorem ntg_upd {a : Addr} {o : HO} (n : NTG G) (no : NoTbl o) : NTG (upd G a o) := fun b ps e => by
  by_cases hb : b = a
  · rw [hb, upd_same] at e
    exact no ps (Option.some.inj e)
  · rw [upd_ne hb] at e
    exact n b ps e
theorem Ext.rfl' (s : Sub G H) : Ext G H G H := ⟨Sub.rfl', Sub.rfl', s, fun _ h _ => h, fun h => h⟩
theorem Ext.laidG (s : Sub G H) {p : Addr} {o : HO} (n : H p = none) (no : NoTbl o := by exact fun _ z => by cases z) : Ext G H (upd G p o) (upd H p o) := by
  have gp : G p = none := by
    cases q : G p with
    | none => rfl
    | some u => have := s _ _ q; rw [n] at this; cases this
  refine ⟨fun b u e => ?_, fun b u e => ?_, fun b u e => ?_, fun b h1 h2 => ?_, fun h => ntg_upd h no⟩
  · rw [upd_ne (ne_of_none e gp)]; exact e
  · rw [upd_ne (ne_of_none e n)]; exact e
  · by_cases hb : b = p
    · subst hb; rw [upd_same] at e ⊢; exact e
    · rw [upd_ne hb] at e ⊢; exact s _ _ e
  · have hb : b ≠ p := fun e => by subst e; exact St.non n h2
    rw [upd_ne hb]; exact h1
theorem Ext.laidH (s : Sub G H) {p : Addr} {o : HO} (n : H p = none) : Ext G H G (upd H p o) := by
  refine ⟨Sub.rfl', fun b u e => ?_, fun b u e => ?_, fun b h1 _ => h1, fun h => h⟩
  · rw [upd_ne (ne_of_none e n)]; exact e
  · rw [upd_ne (ne_of_none (s _ _ e) n)]; exact s _ _ e
theorem none_sub (s : Sub G H) {p : Addr} (n : H p = none) : G p = none := by
  cases q : G p with
  | none => rfl
  | some u => have := s _ _ q; rw [n] at this; cases this
theorem S2.ext (S : S2 T K G H σD σV) (x : Ext G H G1 H1) : S2 T K G1 H1 σD σV ∧ Step σD σV G H σD σV G1 H1 := by
  refine ⟨⟨S.len, x.sub, fun i d h => ?_, fun i ds h => ?_, S.sep, S.tabs.ext x.hm, x.nt S.nt, S.exc, fun d f e => x.hm _ _ (S.xo d f e)⟩, ⟨x.gm, fun b h1 h2 _ => x.gn b h1 h2, fun b o h _ _ => x.hm b o h, fun b h => ?_, fun b h => .inl h⟩⟩
  · obtain ⟨v, e, r⟩ := S.val i d h
    exact ⟨v, e, r.mono x.gm⟩
  · obtain ⟨a, vs, e1, e2, e3, e4⟩ := S.own i ds h
    exact ⟨a, vs, e1, x.hm _ _ e2, x.gn a e3 (St.lst e2), e4.mono x.gm⟩
  · obtain ⟨o, q, n⟩ := h
    exact St.of (x.hm _ _ q) n
end

/-! ### results -/
/-- what an operation gives, behind the heap H0 -/
def RN (K : PySem.W.Frag) (G H H0 : Hp) (v : V) : R → Prop
  | .v d => Rp K G v d
  | .t ds => ∃ a vs, v = V.ref a ∧ H a = some (HO.lst vs) ∧ G a = none ∧ ¬ St H0 a ∧ RpA K G vs ds
  | .p _ => False
/-- what an expression gives -/
def RV (K : PySem.W.Frag) (G H : Hp) (σD : Sts) (σV : L2.St) (H0 : Hp) (v : V) : R → Prop
  | .v d => Rp K G v d
  | .t ds => ∃ a vs, v = V.ref a ∧ H a = some (HO.lst vs) ∧ G a = none ∧ ¬ Own σD σV a ∧ ¬ St H0 a ∧ RpA K G vs ds
  | .p i => σV[i]? = some (some v) ∧ ∃ s, σD[i]? = some s ∧ s.dat = true
/-- an operand -/
def RO (K : PySem.W.Frag) (G : Hp) (σD : Sts) (σV : L2.St) (v : V) : R → Prop
  | .v d => Rp K G v d
  | .t _ => False
  | .p i => σV[i]? = some (some v) ∧ ∃ s, σD[i]? = some s ∧ s.dat = true
section
variable {T : Tb} {K : PySem.W.Frag} {G H H0 G1 H1 : Hp} {σD σD0 σD1 : Sts} {σV : L2.St} {v : V} {r : R}
theorem RO.step (x : RO K G σD σV v r) (g : Sub G G1) (h : Held σD σD1) : RO K G1 σD1 σV v r := by
  cases r with
  | v d => exact Rp.mono g x
  | t ds => exact x
  | p i => exact ⟨x.1, let ⟨s, e, n⟩ := x.2; h.2 i s e n⟩
theorem RN.rv (S : S2 T K G H0 σD σV) (hd : ∀ b, St H0 b → St H b) (x : RN K G1 H H0 v r) : RV K G1 H σD σV H0 v r := by
  cases r with
  | v d => exact x
  | t ds =>
    obtain ⟨a, vs, e, h, g, n, q⟩ := x
    exact ⟨a, vs, e, h, g, fun o => n (o.some S).1, n, q⟩
  | p i => exact x.elim
theorem RO.cn (S : S2 T K G H σD σV) (x : RO K G σD σV v r) : Cn K G H v (cont σD r) := by
  cases r with
  | v d => exact .inl x
  | t ds => exact x.elim
  | p i =>
    obtain ⟨h1, s, h2, h3⟩ := x
    unfold cont
    simp only [h2]
    cases s with
    | no => cases h3
    | exc => cases h3
    | val d =>
      obtain ⟨u, e, q⟩ := S.val i d h2
      rw [h1] at e
      cases e
      exact .inl q
    | own ds =>
      obtain ⟨a, vs, e, q1, q2, q3⟩ := S.own i ds h2
      rw [h1] at e
      cases e
      exact .inr ⟨a, vs, ds, rfl, rfl, q1, q3⟩
/-- a heap entry becomes a value -/
theorem freeze_at {a : Addr} {vs : List V} (hH : H a = some (HO.lst vs)) : Sub G H → Sub (upd G a (HO.lst vs)) H := fun s b o e => by
  by_cases hb : b = a
  · subst hb; rw [upd_same] at e; cases e; exact hH
  · rw [upd_ne hb] at e; exact s _ _ e
theorem sub_upd {a : Addr} {o : HO} (n : G a = none) : Sub G (upd G a o) := fun b u e => by rw [upd_ne (ne_of_none e n)]; exact e
/-- a new list kept as a value -/
theorem nt_ok {G0 : Hp} (S : S2 T K G H σD σV) (st : Step σD0 σV G0 H0 σD σV G H) (x : RV K G H σD σV H0 v r) :
    ∃ G', S2 T K G' H σD σV ∧ Step σD0 σV G0 H0 σD σV G' H ∧ Sub G G' ∧ RO K G' σD σV v r.nt ∧ ∀ σ, cont σ r.nt = cont σ r := by
  cases r with
  | v d => exact ⟨G, S, st, Sub.rfl', x, fun _ => rfl⟩
  | p i => exact ⟨G, S, st, Sub.rfl', x, fun _ => rfl⟩
  | t ds =>
    obtain ⟨a, vs, rfl, h, g, no, n, q⟩ := x
    have su := sub_upd (o := .lst vs) g
    refine ⟨upd G a (HO.lst vs), ⟨S.len, freeze_at h S.sub, fun i d e => ?_, fun i es e => ?_, S.sep, S.tabs, ntg_upd S.nt lst_nt, S.exc, S.xo⟩, ⟨st.gm.trans su, fun b h1 h2 h3 => ?_, st.keep, st.dom, st.own⟩, su, .lst upd_same (q.mono su), fun _ => rfl⟩
    · obtain ⟨u, e1, e2⟩ := S.val i d e
      exact ⟨u, e1, e2.mono su⟩
    · obtain ⟨b, us, e1, e2, e3, e4⟩ := S.own i es e
      have hb : b ≠ a := fun z => no ⟨i, es, e, by rw [← z]; exact e1⟩
      exact ⟨b, us, e1, e2, by rw [upd_ne hb]; exact e3, e4.mono su⟩
    · have hb : b ≠ a := fun z => n (by rw [← z]; exact h2)
      rw [upd_ne hb]
      exact st.gn b h1 h2 h3
/-- a slot's list becomes a value -/
theorem slot_frz (S : S2 T K G H σD σV) {i : Nat} {ds : List D} (h : σD[i]? = some (Slot.own ds)) :
    ∃ a vs, σV[i]? = some (some (V.ref a)) ∧ H a = some (HO.lst vs) ∧ S2 T K (upd G a (HO.lst vs)) H (σD.set i (Slot.val (.list ds))) σV ∧ Step σD σV G H (σD.set i (Slot.val (.list ds))) σV (upd G a (HO.lst vs)) H ∧ Rp K (upd G a (HO.lst vs)) (.ref a) (.list ds) := by
  obtain ⟨a, vs, e1, e2, e3, e4⟩ := S.own i ds h
  have su := sub_upd (o := .lst vs) e3
  have hi : i < σD.length := (List.getElem?_eq_some_iff.mp h).1
  have rp : Rp K (upd G a (HO.lst vs)) (.ref a) (.list ds) := .lst upd_same (e4.mono su)
  have ne : ∀ j s, (σD.set i (Slot.val (.list ds)))[j]? = some s → (j = i ∧ s = Slot.val (.list ds)) ∨ (j ≠ i ∧ σD[j]? = some s) := fun j s e => by
    by_cases hj : i = j
    · subst hj
      rw [List.getElem?_set_self hi] at e
      exact .inl ⟨rfl, (Option.some.inj e).symm⟩
    · rw [List.getElem?_set_ne hj] at e
      exact .inr ⟨Ne.symm hj, e⟩
  refine ⟨a, vs, e1, e2, ⟨by rw [List.length_set]; exact S.len, freeze_at e2 S.sub, fun j d e => ?_, fun j es e => ?_, fun j k es fs b ej ek => ?_, S.tabs, ntg_upd S.nt lst_nt, fun j e => ?_, S.xo⟩, ⟨su, fun b h1 h2 h3 => ?_, fun _ _ h _ _ => h, fun _ h => h, fun b o => ?_⟩, rp⟩
  · rcases ne j _ e with ⟨rfl, q⟩ | ⟨hj, q⟩
    · cases q
      exact ⟨_, e1, rp⟩
    · obtain ⟨u, z1, z2⟩ := S.val j d q
      exact ⟨u, z1, z2.mono su⟩
  · rcases ne j _ e with ⟨rfl, q⟩ | ⟨hj, q⟩
    · cases q
    · obtain ⟨b, us, z1, z2, z3, z4⟩ := S.own j es q
      have hb : b ≠ a := fun z => hj (S.sep j i es ds a q h (by rw [← z]; exact z1) e1)
      exact ⟨b, us, z1, z2, by rw [upd_ne hb]; exact z3, z4.mono su⟩
  · rcases ne j _ ej with ⟨rfl, q⟩ | ⟨hj, q⟩
    · cases q
    · rcases ne k _ ek with ⟨rfl, q'⟩ | ⟨hk, q'⟩
      · cases q'
      · exact S.sep j k es fs b q q'
  · rcases ne j _ e with ⟨rfl, q⟩ | ⟨hj, q⟩
    · cases q
    · exact S.exc j q
  · have hb : b ≠ a := fun z => h3 ⟨i, ds, h, by rw [z]; exact e1⟩
    rw [upd_ne hb]
    exact h1
  · obtain ⟨j, es, q1, q2⟩ := o
    rcases ne j _ q1 with ⟨rfl, q⟩ | ⟨hj, q⟩
    · cases q
    · exact .inl ⟨j, es, q, q2⟩
theorem held_set {i : Nat} {s : Slot} (n : s.dat = true) : Held σD (σD.set i s) := by
  refine ⟨List.length_set, fun j t h nt => ?_⟩
  by_cases hj : i = j
  · subst hj
    have hi := (List.getElem?_eq_some_iff.mp h).1
    exact ⟨s, List.getElem?_set_self hi, n⟩
  · exact ⟨t, by rw [List.getElem?_set_ne hj]; exact h, nt⟩
theorem frz_ok {G0 : Hp} (S : S2 T K G H σD σV) (st : Step σD0 σV G0 H0 σD σV G H) (x : RV K G H σD σV H0 v r) :
    ∃ G', S2 T K G' H (frz σD r).2 σV ∧ Step σD0 σV G0 H0 (frz σD r).2 σV G' H ∧ Sub G G' ∧ Rp K G' v (frz σD r).1 ∧ Held σD (frz σD r).2 := by
  cases r with
  | v d => exact ⟨G, S, st, Sub.rfl', x, Held.rfl'⟩
  | t ds =>
    obtain ⟨G', h1, h2, h3, h4, _⟩ := nt_ok S st x
    exact ⟨G', h1, h2, h3, h4, Held.rfl'⟩
  | p i =>
    obtain ⟨h1, s, h2, h3⟩ := x
    unfold frz
    simp only [h2]
    cases s with
    | no => cases h3
    | exc => cases h3
    | val d =>
      obtain ⟨u, e, q⟩ := S.val i d h2
      rw [h1] at e
      cases e
      exact ⟨G, S, st, Sub.rfl', q, Held.rfl'⟩
    | own ds =>
      obtain ⟨a, vs, e1, e2, S', st', rp⟩ := slot_frz S h2
      rw [h1] at e1
      cases e1
      exact ⟨_, S', st.trans st', st'.gm, rp, held_set rfl⟩
end
end Fz

/-! Ev3: each operation does what Ev1 says. -/
namespace Fz
open PySem PySem.Spec PyProof.Rows L2
theorem lit300 : (2 : Nat) ^ 300 = 2037035976334486086268445688409378161051468393665936250636140449354381299763336706183397376 := by decide +kernel
theorem op_fdivX {X : Cx} : OpR X (binaryOp .FloorDiv) (rI (fun _ j => j ≠ 0 ∧ j.natAbs.log2 < 9000) fun i j => .int (i.fdiv j)) := opI fun _ _ _ _ _ _ _ hc q => floordiv_int hc.1 q (.inl (PyProof.noPylong_of_log2 hc.2))

def Out (K : PySem.W.Frag) (G H : Hp) (r : R) (Q : VK) : Prop := ∀ (v : V) (G' H' : Hp), Ext G H G' H' → RN K G' H' H v r → Q v H'
section
variable {K : PySem.W.Frag} {G H : Hp} {Q : VK}
theorem out_v (s : Sub G H) {d : D} (q : Out K G H (.v d) Q) {v : V} (r : Rp K G v d) : Q v H := q v G H (Ext.rfl' s) r
theorem out_t (s : Sub G H) {ds : List D} (q : Out K G H (.t ds) Q) {p : Addr} {vs : List V} (n : H p = none) (r : RpA K G vs ds) : Q (.ref p) (upd H p (.lst vs)) :=
  q (.ref p) G _ (Ext.laidH s n) ⟨p, vs, rfl, upd_same, none_sub s n, St.non n, r⟩
theorem out_tup (s : Sub G H) {ds : List D} (q : Out K G H (.v (.tuple ds)) Q) {p : Addr} {vs : List V} (n : H p = none) (r : RpA K G vs ds) : Q (.ref p) (upd H p (.tup vs)) :=
  q (.ref p) _ _ (Ext.laidG s n) (.tup (.inl (.inl upd_same)) (r.mono (sub_upd (none_sub s n))))
end

def bOp : BinK → Operator
  | .add => .Add | .sub => .Sub | .mul => .Mult | .fdiv => .FloorDiv | .mod => .Mod | .pow => .Pow
def rBin (K : PySem.W.Frag) (o : BinK) : R2 := fun x y H Q => ∃ G a b r, Sub G H ∧ Cn K G H x a ∧ Cn K G H y b ∧ binD o a b = .ok r ∧ Out K G H r Q
section
variable {X : Cx}
theorem lit64 : (2 : Int) ^ 64 = 18446744073709551616 := by decide
theorem lit63 : (2 : Int) ^ 63 = 9223372036854775808 := by decide
theorem lit62 : (2 : Int) ^ 62 = 4611686018427387904 := by decide
theorem tuple_mul_oneW (l : Addr) (items : Array Value) (n : Nat) (dd : Option Addr) (sl : Array (Option Value)) (u : Tok) :
    Meets (Builtin.«tuple.__mul__» ⟨[.ref l, .int 1 u], []⟩) (fun _ R s => s.heap.get? l = some { cls := .type "tuple", dict := dd, data := .seq items n, slots := sl } ∧ R (.ok (.ret (Value.ref l))) s) :=
  .of_wp fun prog w A R s h => by
    obtain ⟨hp, g, d, tk, os⟩ := s
    obtain ⟨hl, h⟩ := h
    have f1 := AutoSeq1.idx_int
    wp_walk using wpAny_loadPart' hl
    exact ⟨_, rfl, h⟩
theorem op_repT1 {X : Cx} : OpR X (binaryOp .Mult) (fun x y H Q => ∃ l xs, x = .ref l ∧ y = .int 1 ∧ SqT X.K H l xs ∧ Q (.ref l) H) := by
  intro pins s σ H x y v u Q I rx ry h
  obtain ⟨l, xs, rfl, rfl, hT, q⟩ := h
  cases rx
  obtain ⟨t, rfl⟩ := ry
  obtain ⟨its, r, ⟨⟨cls, dd, data, sl⟩, ho, hc, n, hd⟩, hs⟩ := I.tuple hT
  simp only at hc hd
  subst hc hd
  refine wpAny_binaryOp_repeat_ref (T := "tuple") (U := "int") (by decide) ⟨_, ho, rfl⟩ (fun s' => typeIs_int s' 1 t) noFill_tuple_mul F.fills_int_mul F.slot_int_rmul repeat_tuple F.slot_int_index.lookup
    (call_meets F.slot_int_rmul (typeIs_int s 1 t) F.entry_int_rmul (F.args_int_rmul_2 _ _) (int_rmul_tuple 1 t l its.toArray n dd sl)
      ⟨ho, rfl, ⟨_, ho, rfl⟩, call_meets F.slot_tuple_mul ⟨_, ho, rfl⟩ F.entry_tuple_mul (F.args_tuple_mul_2 _ _) (tuple_mul_oneW l its.toArray n dd sl t) ⟨ho, ?_⟩⟩)
  exact ⟨.ref l, H, I, rfl, q⟩
theorem op_bin (o : BinK) : OpR X (binaryOp (bOp o)) (rBin X.K o) := by
  intro pins s σ H x y v u Q I rx ry h
  obtain ⟨G, a, b, r, sG, ca, cb, e, q⟩ := h
  have hsl := sizeLine_eq
  cases a with
  | int i =>
    cases ca.int
    cases b with
    | int j =>
      cases cb.int
      cases o with
      | add => cases e; exact op_add pins s σ H _ _ v u Q I rx ry ⟨i, j, rfl, rfl, out_v sG q (.int _)⟩
      | sub => cases e; exact op_sub pins s σ H _ _ v u Q I rx ry ⟨i, j, rfl, rfl, out_v sG q (.int _)⟩
      | mul =>
        simp only [binD] at e
        split at e
        · rename_i hm
          cases e
          rcases hm with hm | ⟨hm, hm'⟩
          · exact op_mul pins s σ H _ _ v u Q I rx ry ⟨i, j, rfl, rfl, by unfold CMul; rw [lit64]; exact hm, out_v sG q (.int _)⟩
          · exact op_mulW pins s σ H _ _ v u Q I rx ry ⟨i, j, rfl, rfl, wide_mul (a := 300) (b := 300) (by rw [lit300]; omega) (by rw [lit300]; omega) (by decide) (by decide) (by decide), out_v sG q (.int _)⟩
        · cases e
      | fdiv =>
        simp only [binD] at e
        split at e
        · rename_i hm
          cases e
          exact op_fdivX pins s σ H _ _ v u Q I rx ry ⟨i, j, rfl, rfl, ⟨hm.1, Nat.lt_of_lt_of_le (PySem.Flt.log2_lt_of (k := 300) (by decide) (by rw [lit300]; have h1 := hm.2.1; have h2 := hm.2.2; omega)) (by decide)⟩, out_v sG q (.int _)⟩
        · cases e
      | mod =>
        simp only [binD] at e
        split at e
        · rename_i hm
          cases e
          exact op_modN pins s σ H _ _ v u Q I rx ry ⟨i, j, rfl, rfl, hm, out_v sG q (.int _)⟩
        · cases e
      | pow =>
        simp only [binD] at e
        split at e
        · rename_i hm
          cases e
          obtain ⟨h1, h2, h3, h4⟩ := hm
          refine op_pow pins s σ H _ _ v u Q I rx ry ⟨i, j, rfl, rfl, ⟨h1, h2, ?_⟩, out_v sG q (.int _)⟩
          have l : (2 : Nat) ^ 64 = 18446744073709551616 := by decide
          rw [l]
          omega
        · cases e
    | _ => cases o <;> cases e
  | str i =>
    cases ca.str
    cases b with
    | str j =>
      cases cb.str
      cases o with
      | add =>
        simp only [binD] at e
        split at e
        · rename_i hm
          cases e
          exact op_add_str pins s σ H _ _ v u Q I rx ry ⟨i, j, rfl, rfl, by rw [hsl]; exact hm, out_v sG q (.str _)⟩
        · cases e
      | _ => cases e
    | _ => cases o <;> cases e
  | list i =>
    obtain ⟨pa, va, rfl, ha, ra⟩ := ca.list sG
    cases b with
    | list j =>
      obtain ⟨pb, vb, rfl, hb, rb⟩ := cb.list sG
      cases o with
      | add =>
        simp only [binD] at e
        split at e
        · rename_i hm
          cases e
          refine op_cat pins s σ H _ _ v u Q I rx ry ⟨pa, pb, va, vb, rfl, rfl, ha, hb, by rw [hsl, ra.len, rb.len]; exact hm, fun p np => out_t sG q np (ra.append rb)⟩
        · cases e
      | _ => cases e
    | int k =>
      cases cb.int
      cases o with
      | mul =>
        simp only [binD] at e
        split at e
        · rename_i hm
          cases e
          obtain ⟨h1, h2, h3⟩ := hm
          refine op_rep pins s σ H _ _ v u Q I rx ry ⟨pa, k, va, rfl, rfl, ha, by rw [lit63]; exact h1, by rw [lit63]; exact h2, by rw [hsl, ra.len]; exact h3, fun p np => out_t sG q np (ra.flat _)⟩
        · cases e
      | _ => cases e
    | _ => cases o <;> cases e
  | tuple i =>
    obtain ⟨pa, va, rfl, ha, ra⟩ := ca.tuple sG
    cases b with
    | tuple j =>
      obtain ⟨pb, vb, rfl, hb, rb⟩ := cb.tuple sG
      cases o with
      | add =>
        simp only [binD] at e
        split at e
        · rename_i hm
          cases e
          have rab := ra.append rb
          refine op_catA pins s σ H _ _ v u Q I rx ry ⟨pa, pb, va, vb, rfl, rfl, ha, hb, by rw [hsl, ra.len, rb.len]; exact hm, fun z => ?_, fun _ z => ?_, fun _ _ p np => out_tup sG q np rab⟩
          · subst z
            have z2 : i = [] := List.eq_nil_of_length_eq_zero ra.len.symm
            subst z2
            refine q (.ref pb) G H (Ext.rfl' sG) ?_
            rcases cb with c | ⟨_, _, _, _, z, _⟩
            · exact c
            · cases z
          · subst z
            have z2 : j = [] := List.eq_nil_of_length_eq_zero rb.len.symm
            subst z2
            refine q (.ref pa) G H (Ext.rfl' sG) ?_
            rw [List.append_nil]
            rcases ca with c | ⟨_, _, _, _, z, _⟩
            · exact c
            · cases z
        · cases e
      | _ => cases e
    | int k =>
      cases cb.int
      cases o with
      | mul =>
        simp only [binD] at e
        split at e
        · rename_i hm
          cases e
          obtain ⟨h0, h1, h2, h3⟩ := hm
          refine op_repT pins s σ H _ _ v u Q I rx ry ⟨pa, k, va, rfl, rfl, ha, fun z => ?_, h1, h2, by rw [ra.len]; exact h3, fun p np => out_tup sG q np (ra.flat _)⟩
          have := ra.len
          rw [z] at this
          rw [← this] at h0
          exact absurd h0 (by decide)
        · split at e
          · rename_i hk
            cases e
            subst hk
            refine op_repT1 pins s σ H _ _ v u Q I rx ry ⟨pa, va, rfl, rfl, ha, ?_⟩
            refine q (.ref pa) G H (Ext.rfl' sG) ?_
            rcases ca with c | ⟨_, _, _, _, z, _⟩
            · exact c
            · cases z
          · cases e
      | _ => cases e
    | _ => cases o <;> cases e
  | _ => cases o <;> cases e
end

/-! ### comparisons -/
def cOp : CmpK → CmpOp
  | .eq => .Eq | .ne => .NotEq | .lt => .Lt | .le => .LtE | .gt => .Gt | .ge => .GtE | .is => .Is | .isnot => .IsNot | .inn => .In | .notin => .NotIn
def rCmp (K : PySem.W.Frag) (o : CmpK) : R2 := fun x y H Q => ∃ G a b k, Sub G H ∧ Cn K G H x a ∧ Cn K G H y b ∧ cmpB o a b = .ok k ∧ Q (.bl k) H
theorem res_map_ok {α β : Type} {f : α → β} {x : Res α} {b : β} (h : x.map f = .ok b) : ∃ a, x = .ok a ∧ f a = b := by
  cases x with
  | ok a => exact ⟨a, rfl, by injection h⟩
  | ex c as => cases h
  | no => cases h
theorem eqD_ok {a b : D} {k : Bool} (h : eqD a b = .ok k) : shp 40 a = true ∧ shp 40 b = true ∧ k = PyData.eqv a b := by
  unfold eqD at h
  split at h
  · rename_i hm
    cases h
    exact ⟨hm.1, hm.2, rfl⟩
  · cases h
theorem ltD_ok {a b : D} {k : Bool} (h : ltD a b = .ok k) : PySem.W.alike a b = true ∧ shp 40 a = true ∧ shp 40 b = true ∧ isNoneD a = false ∧ k = PySem.W.dataLt a b := by
  unfold ltD at h
  split at h
  · rename_i hm
    cases h
    exact ⟨hm.1, hm.2.1, hm.2.2.1, hm.2.2.2, rfl⟩
  · cases h
theorem notNone {a : D} (h : isNoneD a = false) : a ≠ .none := fun e => by subst e; cases h
section
variable {X : Cx} {pins : List (Addr × Obj)} {s : Shared} {σ : L2.St} {G H : Hp} {x y : V} {v u : Value} {a b : D} {E : Value → Shared → Prop}
theorem cn_reads (I : Inv X pins σ H s) (sG : Sub G H) (c : Cn X.K G H x a) (r : RelV x v) (p : shp 40 a = true) : (∃ as, Reads s.heap v a as) ∧ a.plain = true ∧ a.depth ≤ 40 := by
  obtain ⟨h1, h2⟩ := shp_plain 40 a p
  exact ⟨Dp.reads I a x v (c.dp sG h1) r, h1, h2⟩
theorem isD_rule {k : Bool} {Q : Value → Shared → Prop} (c : Cn X.K G H x a) (sG : Sub G H) (cb : Cn X.K G H y b) (rx : RelV x v) (ry : RelV y u) (e : isD a b = .ok k) (q : Q (.bool k) s) : wpAny (model X.prog X.w) X.A (compareOp .Is v u) Q E s := by
  cases b with
  | none =>
    cases cb.none
    cases ry
    refine is_none_gen ?_
    rw [rx.none_iff]
    cases a with
    | none => cases c.none; cases e; exact q
    | bool i => cases c.bool; cases e; exact q
    | int i => cases c.int; cases e; exact q
    | str i => cases c.str; cases e; exact q
    | list i => obtain ⟨pa, va, rfl, ha, ra⟩ := c.list sG; cases e; exact q
    | tuple i => obtain ⟨pa, va, rfl, ha, ra⟩ := c.tuple sG; cases e; exact q
    | dict i =>
      cases e
      rcases c with c | ⟨_, _, _, _, z, _⟩
      · cases c <;> exact q
      · cases z
  | bool j =>
    cases cb.bool
    cases ry
    cases a with
    | none => cases c.none; cases rx; cases e; exact wpAny_is_plain rfl q
    | bool i => cases c.bool; cases rx; cases e; refine wpAny_is_plain rfl (by cases i <;> cases j <;> exact q)
    | int i => cases c.int; obtain ⟨t, rfl⟩ := rx; cases e; exact wpAny_is_plain rfl q
    | str i => cases c.str; obtain ⟨t, rfl⟩ := rx; cases e; exact wpAny_is_plain rfl q
    | list i => obtain ⟨pa, va, rfl, ha, ra⟩ := c.list sG; cases rx; cases e; exact wpAny_is_plain rfl q
    | tuple i => obtain ⟨pa, va, rfl, ha, ra⟩ := c.tuple sG; cases rx; cases e; exact wpAny_is_plain rfl q
    | dict i =>
      cases e
      rcases c with c | ⟨_, _, _, _, z, _⟩
      · cases c <;> (cases rx; exact wpAny_is_plain rfl q)
      · cases z
  | _ => cases a <;> cases e
theorem isnotD_rule {k : Bool} {Q : Value → Shared → Prop} (c : Cn X.K G H x a) (sG : Sub G H) (cb : Cn X.K G H y b) (rx : RelV x v) (ry : RelV y u) (e : isD a b = .ok k) (q : Q (.bool (!k)) s) : wpAny (model X.prog X.w) X.A (compareOp .IsNot v u) Q E s := by
  cases b with
  | none =>
    cases cb.none
    cases ry
    refine isnot_none_gen ?_
    rw [rx.none_iff]
    cases a with
    | none => cases c.none; cases e; exact q
    | bool i => cases c.bool; cases e; exact q
    | int i => cases c.int; cases e; exact q
    | str i => cases c.str; cases e; exact q
    | list i => obtain ⟨pa, va, rfl, ha, ra⟩ := c.list sG; cases e; exact q
    | tuple i => obtain ⟨pa, va, rfl, ha, ra⟩ := c.tuple sG; cases e; exact q
    | dict i =>
      cases e
      rcases c with c | ⟨_, _, _, _, z, _⟩
      · cases c <;> exact q
      · cases z
  | bool j =>
    cases cb.bool
    cases ry
    cases a with
    | none => cases c.none; cases rx; cases e; exact wpAny_isNot_plain rfl q
    | bool i => cases c.bool; cases rx; cases e; refine wpAny_isNot_plain rfl (by cases i <;> cases j <;> exact q)
    | int i => cases c.int; obtain ⟨t, rfl⟩ := rx; cases e; exact wpAny_isNot_plain rfl q
    | str i => cases c.str; obtain ⟨t, rfl⟩ := rx; cases e; exact wpAny_isNot_plain rfl q
    | list i => obtain ⟨pa, va, rfl, ha, ra⟩ := c.list sG; cases rx; cases e; exact wpAny_isNot_plain rfl q
    | tuple i => obtain ⟨pa, va, rfl, ha, ra⟩ := c.tuple sG; cases rx; cases e; exact wpAny_isNot_plain rfl q
    | dict i =>
      cases e
      rcases c with c | ⟨_, _, _, _, z, _⟩
      · cases c <;> (cases rx; exact wpAny_isNot_plain rfl q)
      · cases z
  | _ => cases a <;> cases e
end
theorem shpAll {xs : List D} (h : xs.all (shp 40) = true) : PyData.plainAll xs = true ∧ PyData.depthAll xs ≤ 40 := by
  have h' : shp 41 (.tuple xs) = true := by simpa [shp] using h
  obtain ⟨p, d⟩ := shp_plain 41 _ h'
  refine ⟨by simpa [PyData.plain] using p, ?_⟩
  simp only [PyData.depth] at d
  omega
section
variable {X : Cx}
theorem in_rule {pins : List (Addr × Obj)} {s : Shared} {σ : L2.St} {G H : Hp} {x y : V} {v u : Value} {a b : D} {E : Value → Shared → Prop} {k : Bool} (hu : X.A.units + 64 < cLine) (I : Inv X pins σ H s) (sG : Sub G H) (ca : Cn X.K G H x a) (cb : Cn X.K G H y b) (rx : RelV x v) (ry : RelV y u) (e : inD a b = .ok k) :
    (∀ Q : Value → Shared → Prop, Q (.bool k) s → wpAny (model X.prog X.w) X.A (compareOp .In v u) Q E s) ∧ (∀ Q : Value → Shared → Prop, Q (.bool (!k)) s → wpAny (model X.prog X.w) X.A (compareOp .NotIn v u) Q E s) := by
  cases b with
  | list ys =>
    simp only [inD] at e
    split at e
    · rename_i hm
      cases e
      obtain ⟨⟨as, ra⟩, pa, da⟩ := cn_reads I sG ca rx hm.1
      obtain ⟨py, dy⟩ := shpAll hm.2
      have pl : (PyData.list ys).plain = true := by simpa [PyData.plain] using py
      obtain ⟨bs, rb⟩ := Dp.reads I _ y u (cb.dp sG pl) ry
      exact ⟨fun Q q => SeqAt.in_list_data rb ra py pa (by omega) q, fun Q q => SeqAt.notIn_list_data rb ra py pa (by omega) q⟩
    · cases e
  | tuple ys =>
    simp only [inD] at e
    split at e
    · rename_i hm
      cases e
      obtain ⟨⟨as, ra⟩, pa, da⟩ := cn_reads I sG ca rx hm.1
      obtain ⟨py, dy⟩ := shpAll hm.2
      have pl : (PyData.tuple ys).plain = true := by simpa [PyData.plain] using py
      obtain ⟨bs, rb⟩ := Dp.reads I _ y u (cb.dp sG pl) ry
      exact ⟨fun Q q => SeqAt.in_tuple_data rb ra py pa (by omega) q, fun Q q => SeqAt.notIn_tuple_data rb ra py pa (by omega) q⟩
    · cases e
  | str z =>
    simp only [inD, inS] at e
    cases a with
    | str x' =>
      simp only at e
      split at e
      · rename_i c hc
        cases e
        cases ca.str
        cases cb.str
        obtain ⟨t, rfl⟩ := rx
        obtain ⟨t', rfl⟩ := ry
        have hx : x' = ⟨#[c]⟩ := by
          obtain ⟨cs⟩ := x'
          obtain ⟨l⟩ := cs
          simp only at hc
          rw [hc]
        subst hx
        have hf := (PySem.StrLaws.found_one z c).symm
        exact ⟨fun Q q => PyProof.Rows.in_str (by rw [← hf]; exact q), fun Q q => PyProof.Rows.notIn_str (by rw [← hf]; exact q)⟩
      · cases e
    | _ => simp only at e; cases e
  | _ => simp only [inD] at e; cases e
theorem op_cmp (o : CmpK) (hu : X.A.units + 64 < cLine) : OpR X (compareOp (cOp o)) (rCmp X.K o) := by
  intro pins s σ H x y v u Q I rx ry h
  obtain ⟨G, a, b, k, sG, ca, cb, e, q⟩ := h
  have fin : EP X pins σ Q (.bool k) s := ⟨.bl k, H, I, rfl, q⟩
  have lt : ∀ {a b : D} {x y : V} {v u : Value} {k : Bool}, Cn X.K G H x a → Cn X.K G H y b → RelV x v → RelV y u → ltD a b = .ok k → (∃ as, Reads s.heap v a as) ∧ (∃ bs, Reads s.heap u b bs) ∧ PySem.W.alike a b = true ∧ a ≠ .none ∧ X.A.units + min a.depth b.depth < cLine ∧ k = PySem.W.dataLt a b := fun {a b x y v u k} ca cb rx ry e => by
    obtain ⟨h1, h2, h3, h4, h5⟩ := ltD_ok e
    obtain ⟨r1, _, d1⟩ := cn_reads I sG ca rx h2
    obtain ⟨r2, _, d2⟩ := cn_reads I sG cb ry h3
    exact ⟨r1, r2, h1, notNone h4, by omega, h5⟩
  cases o with
  | eq =>
    have e' : eqD a b = .ok k := by cases a <;> cases b <;> exact e
    obtain ⟨h1, h2, rfl⟩ := eqD_ok e'
    obtain ⟨⟨as, r1⟩, p1, d1⟩ := cn_reads I sG ca rx h1
    obtain ⟨⟨bs, r2⟩, p2, d2⟩ := cn_reads I sG cb ry h2
    exact SeqAt.eq_plain r1 r2 p1 p2 (by omega) fin
  | ne =>
    have e' : (eqD a b).map (!·) = .ok k := by cases a <;> cases b <;> exact e
    obtain ⟨k', e2, rfl⟩ := res_map_ok e'
    obtain ⟨h1, h2, rfl⟩ := eqD_ok e2
    obtain ⟨⟨as, r1⟩, p1, d1⟩ := cn_reads I sG ca rx h1
    obtain ⟨⟨bs, r2⟩, p2, d2⟩ := cn_reads I sG cb ry h2
    exact SeqAt.ne_plain r1 r2 p1 p2 (by omega) fin
  | «is» =>
    have e' : isD a b = .ok k := by cases a <;> cases b <;> exact e
    exact isD_rule ca sG cb rx ry e' fin
  | isnot =>
    have e' : (isD a b).map (!·) = .ok k := by cases a <;> cases b <;> exact e
    obtain ⟨k', e2, rfl⟩ := res_map_ok e'
    exact isnotD_rule ca sG cb rx ry e2 fin
  | inn =>
    have e' : inD a b = .ok k := by cases a <;> cases b <;> exact e
    exact (in_rule hu I sG ca cb rx ry e').1 _ fin
  | notin =>
    have e' : (inD a b).map (!·) = .ok k := by cases a <;> cases b <;> exact e
    obtain ⟨k', e2, rfl⟩ := res_map_ok e'
    exact (in_rule hu I sG ca cb rx ry e2).2 _ fin
  | lt =>
    by_cases hi : ∃ i j, a = .int i ∧ b = .int j
    · obtain ⟨i, j, rfl, rfl⟩ := hi
      cases ca.int; cases cb.int; obtain ⟨t, rfl⟩ := rx; obtain ⟨t', rfl⟩ := ry
      cases e
      exact lt_int fin
    · have e' : ltD a b = .ok k := by
        cases a <;> cases b <;> first | exact e | exact absurd ⟨_, _, rfl, rfl⟩ hi
      obtain ⟨⟨as, r1⟩, ⟨bs, r2⟩, h1, h2, h3, rfl⟩ := lt ca cb rx ry e'
      exact PySem.W.lt_data r1 r2 h1 h2 h3 fin
  | gt =>
    by_cases hi : ∃ i j, a = .int i ∧ b = .int j
    · obtain ⟨i, j, rfl, rfl⟩ := hi
      cases ca.int; cases cb.int; obtain ⟨t, rfl⟩ := rx; obtain ⟨t', rfl⟩ := ry
      cases e
      exact gt_int fin
    · have e' : ltD b a = .ok k := by
        cases a <;> cases b <;> first | exact e | exact absurd ⟨_, _, rfl, rfl⟩ hi
      obtain ⟨⟨as, r1⟩, ⟨bs, r2⟩, h1, h2, h3, rfl⟩ := lt cb ca ry rx e'
      have hn : a ≠ .none := fun z => by
        subst z
        cases b with
        | none => exact h2 rfl
        | _ => cases h1
      refine PySem.W.gt_data r2 r1 ?_ hn (by omega) fin
      rw [PySem.W.alike_comm]; exact h1
  | le =>
    by_cases hi : ∃ i j, a = .int i ∧ b = .int j
    · obtain ⟨i, j, rfl, rfl⟩ := hi
      cases ca.int; cases cb.int; obtain ⟨t, rfl⟩ := rx; obtain ⟨t', rfl⟩ := ry
      cases e
      exact le_int fin
    · have e' : (ltD b a).map (!·) = .ok k := by
        cases a <;> cases b <;> first | exact e | exact absurd ⟨_, _, rfl, rfl⟩ hi
      obtain ⟨k', e2, rfl⟩ := res_map_ok e'
      obtain ⟨⟨as, r1⟩, ⟨bs, r2⟩, h1, h2, h3, rfl⟩ := lt cb ca ry rx e2
      have hn : a ≠ .none := fun z => by
        subst z
        cases b with
        | none => exact h2 rfl
        | _ => cases h1
      refine PySem.W.le_data r2 r1 ?_ hn (by omega) fin
      rw [PySem.W.alike_comm]; exact h1
  | ge =>
    by_cases hi : ∃ i j, a = .int i ∧ b = .int j
    · obtain ⟨i, j, rfl, rfl⟩ := hi
      cases ca.int; cases cb.int; obtain ⟨t, rfl⟩ := rx; obtain ⟨t', rfl⟩ := ry
      cases e
      exact ge_int fin
    · have e' : (ltD a b).map (!·) = .ok k := by
        cases a <;> cases b <;> first | exact e | exact absurd ⟨_, _, rfl, rfl⟩ hi
      obtain ⟨k', e2, rfl⟩ := res_map_ok e'
      obtain ⟨⟨as, r1⟩, ⟨bs, r2⟩, h1, h2, h3, rfl⟩ := lt ca cb rx ry e2
      exact PySem.W.ge_data r1 r2 h1 h2 h3 fin
end
end Fz

/-! Ev23: the less, the greater of two data that are alike. -/
namespace Fz
open PySem PySem.Spec PySem.W PyProof.Rows
section
variable {prog : Program} {w : World} {A : Around} {E : Value → Shared → Prop} {s : Shared}
theorem two_reads {a b : Value} {x y : PyData} {as bs : List Addr} {o : Obj} (ra : Reads s.heap a x as) (rb : Reads s.heap b y bs) : ∃ cs, ReadsAll (s.heap.push o) (#[a, b] : Array Value).toList [x, y] cs :=
  ⟨_, .cons (reads_keeps (fun _ _ e => Heap.get?_push_of_some _ e) ra) (.cons (reads_keeps (fun _ _ e => Heap.get?_push_of_some _ e) rb) .nil)⟩
theorem min_two_data {a b : Value} {x y : PyData} {as bs : List Addr} {Q : Value → Shared → Prop} (hh : A.handled = none) (ra : Reads s.heap a x as) (rb : Reads s.heap b y bs) (ha : AlikeAll [x, y]) (hu : A.units + 1 + PyData.depthAll [x, y] < cLine)
    (h : ∀ (i : Nat) v h' tk cs, (#[a, b] : Array Value)[i]? = some v → Reads h' v (minD x [y]) cs → (∀ b o, s.heap.get? b = some o → h'.get? b = some o) → Q v { s with heap := h', toks := tk }) :
    wpAny (model prog w) A (call (.builtin "min") [a, b]) Q E s := by
  have hname : (toString "min" ++ toString ".loop" : String) = "min.loop" := by decide
  have hT : (s.heap.push { cls := .type "tuple", data := .seq #[a, b] }).IsTuple s.heap.objs.size #[a, b] := ⟨_, Heap.get?_push_size _ rfl, rfl, 0, rfl⟩
  obtain ⟨cs, hr⟩ := two_reads (o := { cls := .type "tuple", data := .seq #[a, b] }) ra rb
  refine call_function_tree F.kind_min F.plain_min F.entry_min (F.args_min2 _ _) ?_
  show wpAny _ A.in1 (Builtin.Builtins.bindParams "min" ["key", "default"] 0 ⟨[], []⟩ >>= _) _ _ s
  refine wpAny_bind (wpAny_of_eq (show Builtin.Builtins.bindParams "min" ["key", "default"] 0 ⟨[], []⟩ = pure [none, none] from rfl) ?_)
  show wpAny _ A.in1 (newTuple [a, b] >>= _) _ _ s
  refine wpAny_bind (wpAny_newObj_type ?_)
  refine wpAny_bind (iter_tupleW (s := { s with heap := s.heap.push { cls := .type "tuple", data := .seq #[a, b] } }) (A := A.in1) hh hT fun s₂ e W st hfp hw hk => ?_)
  refine wpAny_bind (wpAny_newObj_type ?_)
  have hSf : s₂.heap.objs.size ∉ [(s.heap.push { cls := .type "tuple", data := .seq #[a, b] }).objs.size, s.heap.objs.size] := fun hm => Nat.lt_irrefl _ (hfp _ hm)
  rw [hname]
  refine wpAny_pure ⟨plainId_quiet F.plain_min_loop _, codeAny_min_loop_firstH W _ hw _ (cmpIn_lt (s := { s with heap := s.heap.push { cls := .type "tuple", data := .seq #[a, b] } }) (A := A.in1) hr ha (by show A.units + 1 + _ < _; exact hu)) s₂.heap.objs.size hSf (fresh_in hk) _ (by show 0 < 2; omega) (fun b o e => Heap.get?_push_of_some _ (hk b o e)) (W.frame 0 s₂ _ s₂.toks st (Nat.le_refl _) fun b _ o e => Heap.get?_push_of_some _ e) (Heap.get?_push_size _ rfl) fun v s' hP hm => ?_⟩
  have m := Moved.drop_new (tk := s₂.toks) hm (Nat.le_refl _)
  obtain ⟨h', tk, rfl, hk'⟩ := moved_old e rfl m
  obtain ⟨ds, r, _, _, _⟩ := readsAll_atA hr _ v hP
  have e2 := (argBest_fold dataLt PyData.none x [y] 1 (Nat.le_refl _)).2
  exact h _ v h' tk ds hP (reads_keeps hk' (by unfold minD; rw [← show List.take 1 [y] = [y] from rfl, ← e2]; exact r)) fun b o e => hk' b o (Heap.get?_push_of_some _ e)
theorem max_two_data {a b : Value} {x y : PyData} {as bs : List Addr} {Q : Value → Shared → Prop} (hh : A.handled = none) (ra : Reads s.heap a x as) (rb : Reads s.heap b y bs) (ha : AlikeAll [x, y]) (hu : A.units + 1 + PyData.depthAll [x, y] < cLine)
    (h : ∀ (i : Nat) v h' tk cs, (#[a, b] : Array Value)[i]? = some v → Reads h' v (maxD x [y]) cs → (∀ b o, s.heap.get? b = some o → h'.get? b = some o) → Q v { s with heap := h', toks := tk }) :
    wpAny (model prog w) A (call (.builtin "max") [a, b]) Q E s := by
  have hname : (toString "max" ++ toString ".loop" : String) = "max.loop" := by decide
  have hT : (s.heap.push { cls := .type "tuple", data := .seq #[a, b] }).IsTuple s.heap.objs.size #[a, b] := ⟨_, Heap.get?_push_size _ rfl, rfl, 0, rfl⟩
  obtain ⟨cs, hr⟩ := two_reads (o := { cls := .type "tuple", data := .seq #[a, b] }) ra rb
  refine call_function_tree F.kind_max F.plain_max F.entry_max (F.args_max2 _ _) ?_
  show wpAny _ A.in1 (Builtin.Builtins.bindParams "max" ["key", "default"] 0 ⟨[], []⟩ >>= _) _ _ s
  refine wpAny_bind (wpAny_of_eq (show Builtin.Builtins.bindParams "max" ["key", "default"] 0 ⟨[], []⟩ = pure [none, none] from rfl) ?_)
  show wpAny _ A.in1 (newTuple [a, b] >>= _) _ _ s
  refine wpAny_bind (wpAny_newObj_type ?_)
  refine wpAny_bind (iter_tupleW (s := { s with heap := s.heap.push { cls := .type "tuple", data := .seq #[a, b] } }) (A := A.in1) hh hT fun s₂ e W st hfp hw hk => ?_)
  refine wpAny_bind (wpAny_newObj_type ?_)
  have hSf : s₂.heap.objs.size ∉ [(s.heap.push { cls := .type "tuple", data := .seq #[a, b] }).objs.size, s.heap.objs.size] := fun hm => Nat.lt_irrefl _ (hfp _ hm)
  rw [hname]
  refine wpAny_pure ⟨plainId_quiet F.plain_max_loop _, codeAny_max_loop_firstH W _ hw _ (cmpIn_gt (s := { s with heap := s.heap.push { cls := .type "tuple", data := .seq #[a, b] } }) (A := A.in1) hr ha (by show A.units + 1 + _ < _; exact hu)) s₂.heap.objs.size hSf (fresh_in hk) _ (by show 0 < 2; omega) (fun b o e => Heap.get?_push_of_some _ (hk b o e)) (W.frame 0 s₂ _ s₂.toks st (Nat.le_refl _) fun b _ o e => Heap.get?_push_of_some _ e) (Heap.get?_push_size _ rfl) fun v s' hP hm => ?_⟩
  have m := Moved.drop_new (tk := s₂.toks) hm (Nat.le_refl _)
  obtain ⟨h', tk, rfl, hk'⟩ := moved_old e rfl m
  obtain ⟨ds, r, _, _, _⟩ := readsAll_atA hr _ v hP
  have e2 := (argBest_fold (fun a b => dataLt b a) PyData.none x [y] 1 (Nat.le_refl _)).2
  exact h _ v h' tk ds hP (reads_keeps hk' (by unfold maxD; rw [← show List.take 1 [y] = [y] from rfl, ← e2]; exact r)) fun b o e => hk' b o (Heap.get?_push_of_some _ e)
end
end Fz

/-! Ev35: sorted of a tuple. -/
namespace Fz
open PySem PySem.Spec PyProof.Rows PySem.W PySem.Calls
section
variable {prog : Program} {w : World} {A : Around} {E : Value → Shared → Prop} {s : Shared} {κ : PyProof.Rows.KeyKind}
/-- a tuple's items, collected -/
theorem collect_tp {p : Addr} {us : List Value} {Q : List Value → Shared → Prop} (hp : IsTup s.heap p us.toArray) (hz : us.length ≤ sizeLine)
    (q : Q us { s with heap := (s.heap.push (seqObj "list" #[] 0)).update s.heap.objs.size (Obj.mapSeq (· ++ us.toArray)) }) : wpAny (model prog w) A (collect (.ref p)) Q E s := by
  obtain ⟨ob, hob, hcl, k, hdt⟩ := hp
  unfold collect
  refine wpAny_bind (wpAny_runValue (codeAny_builtin entry_proto_collect' ?_))
  show wpAny (model prog w) _ (do again (.builtin "list.__iadd__" ⟨[← newList [], .ref p], []⟩)) _ _ s
  refine wpAny_bind (wpAny_newList (wpAny_pure ⟨Code.quiet_builtin _ (by decide +kernel), codeAny_builtin entry_list_iadd' ?_⟩))
  show wpAny (model prog w) _ (Builtin.List.listExtendWith (.ref s.heap.objs.size) (.ref p) (.ref s.heap.objs.size)) _ _ { s with heap := s.heap.push (seqObj "list" #[] 0) }
  unfold Builtin.List.listExtendWith
  have hob' : (s.heap.push (seqObj "list" #[] 0)).get? p = some ob := Heap.get?_push_of_some _ hob
  refine wpAny_bind (wpAny_typeOf (T := "tuple") ⟨ob, hob', hcl⟩ ?_)
  have tt : (Value.type "tuple" == Value.type "tuple") = true := by rfl
  rw [if_pos (by rw [tt]; simp)]
  refine wpAny_bind (listItems_at (n := k) hob' hdt ?_)
  refine wpAny_bind (listItems_at (n := 0) (xs := #[]) (Heap.get?_push_size _ rfl) rfl ?_)
  rw [if_neg (by simp)]
  refine wpAny_bind (listUpdate_at (n := 0) (xs := #[]) (Heap.get?_push_size _ rfl) rfl ?_ (Nat.zero_le _) (by show (#[] ++ us.toArray).size ≤ sizeLine + 1; simp only [List.size_toArray, Array.size_append, List.length_nil]; omega))
  refine wpAny_pure ?_
  show wpAny (model prog w) A (do
      let o ← load s.heap.objs.size
      match o.data with
      | .seq ys _ => pure ys.toList
      | _ => unsupported "internal:collect") Q E { s with heap := (s.heap.push (seqObj "list" #[] 0)).update s.heap.objs.size (Obj.mapSeq (· ++ us.toArray)) }
  refine wpAny_bind (wpAny_load (get?_update_seq (Heap.get?_push_size _ rfl) _) ?_)
  show wpAny (model prog w) _ (pure ((#[] : Array Value) ++ us.toArray).toList) Q E _
  rw [show ((#[] : Array Value) ++ us.toArray).toList = us by simp]
  exact wpAny_pure q
/-- sorted(t), t a tuple: the sort of a new list of its items -/
theorem sorted_tp {p : Addr} {us : List Value} {Q : Value → Shared → Prop} (hp : IsTup s.heap p us.toArray) (S : SortsAt prog w A.in1.in1 { s with heap := sortingHeap (copyHeap s.heap us) (s.heap.objs.size + 1) us } κ us) (hz : us.length ≤ sizeLine)
    (q : Q (.ref (s.heap.objs.size + 1)) { s with heap := sortedAll s.heap us (sortVals κ false us us).toArray }) : wpAny (model prog w) A (call (.builtin "sorted") [.ref p]) Q E s := by
  have body : ∀ E' : Value → Shared → Prop, wpAny (model prog w) A.in1.in1 (Builtin.«list.sort» ⟨[.ref (s.heap.objs.size + 1)], []⟩) (fun f z => f = .done (.ret .none) ∧ Q (.ref (s.heap.objs.size + 1)) z) E' { s with heap := copyHeap s.heap us } := fun E' => list_sort_vals (s := { s with heap := copyHeap s.heap us }) (copyHeap_at s.heap us) S hz ⟨rfl, q⟩
  refine call_function_entry_kw kind_sorted plain_sorted entry_sorted (args_sorted1 _) ?_
  unfold Builtin.«sorted»
  refine wpAny_bind (m := checkCount "sorted" 1 1 _) (wpAny_pure ?_)
  refine wpAny_bind (collect_tp hp hz ?_)
  refine wpAny_bind (wpAny_newList ?_ hz)
  have zz : ((s.heap.push (seqObj "list" #[] 0)).update s.heap.objs.size (Obj.mapSeq (· ++ us.toArray))).objs.size = s.heap.objs.size + 1 := by
    rw [Heap.size_update, size_push']
  show wpAny (model prog w) _ _ _ _ { s with heap := copyHeap s.heap us }
  rw [zz]
  refine wpAny_bind (wpAny_holding (wpAny_call_entry_kw slot_list_sort ⟨_, copyHeap_at s.heap us, rfl⟩ entry_list_sort ?srt (args_list_sort _)))
  case srt =>
    show wpAny (model prog w) A.in1.in1 (Builtin.«list.sort» ⟨[.ref (s.heap.objs.size + 1)], []⟩) _ _ _
    refine wpAny_mono (body _) (fun f z ⟨ef, hq⟩ => ?_) fun _ _ e => e
    subst ef
    exact ⟨_, rfl, wpAny_pure ⟨_, rfl, hq⟩⟩
theorem sorted_dataT {β : Type} {R : Value → β → Prop} {enc : β → PyData} {bs : List β} {us : List Value} {p : Addr} {Q : Value → Shared → Prop} (hp : IsTup s.heap p us.toArray) (e : EachIs R us bs) (er : EachIs (fun v b => ∃ as, Reads s.heap v (enc b) as) us bs) (hal : AllAlike (bs.map enc)) (hk : Sortable (bs.map enc)) (hL : bs.length ≤ sizeLine)
    (hu : ∀ b, b ∈ bs → A.units + 2 + (enc b).depth < cLine) (h : ∀ out, out.length = bs.length → EachIs R out (bs.mergeSort (dataLe false enc)) → Q (.ref (s.heap.objs.size + 1)) { s with heap := sortedAll s.heap us (List.toArray out) }) :
    wpAny (model prog w) A (call (.builtin "sorted") [.ref p]) Q E s := by
  have er2 : EachIs (fun v b => ∃ as, Reads (sortingHeap (copyHeap s.heap us) (s.heap.objs.size + 1) us) v (enc b) as) us bs := er.mono fun _ _ ⟨as, r⟩ => ⟨as, PyProof.Rows.Reads.keeps (fun _ _ => sorting_copy_old) r⟩
  refine sorted_tp hp (SortsAt.data (s := { s with heap := sortingHeap (copyHeap s.heap us) (s.heap.objs.size + 1) us }) (each_map (R := fun v d => ∃ as, Reads (sortingHeap (copyHeap s.heap us) (s.heap.objs.size + 1) us) v d as) enc er2) hal hk (bound_map hu)) (by rw [e.length]; exact hL) ?_
  exact h _ (by rw [sortVals_length false rfl]; exact e.length) (sortVals_data false e er2 hal)
end
end Fz

/-! Ev4: subscripts, slices, built-in functions. -/
namespace Fz
open PySem PySem.Spec PyProof.Rows L2

theorem atD_eq {α : Type} (xs : List α) (i : Int) : atD xs i = L2.atI xs i := by
  unfold atD L2.atI L2.ixN
  by_cases h : 0 ≤ i
  · rw [if_pos h, if_pos h]
    by_cases h1 : i < xs.length
    · rw [if_pos h1]; rfl
    · rw [if_neg h1]
      rw [List.getElem?_eq_none (by omega)]
      rfl
  · rw [if_neg h, if_neg h]
    by_cases h1 : -(xs.length : Int) ≤ i
    · rw [if_pos h1, if_pos h1]; rfl
    · rw [if_neg h1, if_neg h1]; rfl
theorem sEnd_eq (n d : Nat) (o : Option Int) : sEnd n d o = HT.sIx n d o := by
  cases o with
  | none => rfl
  | some v =>
    show (if 0 ≤ v then min v.toNat n else (v + n).toNat) = if v < 0 then (v + (n : Int)).toNat else min v.toNat n
    by_cases h : 0 ≤ v
    · rw [if_pos h, if_neg (by omega)]
    · rw [if_neg h, if_pos (by omega)]
section
variable {K : PySem.W.Frag} {G H : Hp} {vs : List V} {ds : List D}
theorem RpA.at (r : RpA K G vs ds) {i : Int} {d : D} (h : atD ds i = some d) : ∃ v, L2.atI vs i = some v ∧ Rp K G v d := by
  rw [atD_eq] at h
  unfold L2.atI at h ⊢
  rw [r.len]
  cases e : L2.ixN ds.length i with
  | none => rw [e] at h; cases h
  | some j =>
    rw [e] at h
    exact r.getD j h
theorem RpA.cut (r : RpA K G vs ds) (lo hi : Option Int) : RpA K G (cutV vs lo hi) (cutD ds lo hi) := by
  unfold cutV cutD
  rw [sEnd_eq, sEnd_eq, r.len]
  exact (r.drop _).take _
theorem RpA.intsOf : ∀ {vs : List V} {ds : List D} {ns : List Int}, RpA K G vs ds → Fz.intsOf ds = some ns → vs = ns.map V.int
  | _, _, _, .nil, h => by cases h; rfl
  | _, _, _, .cons (d := d) r t, h => by
    cases d with
    | int i =>
      cases r
      unfold Fz.intsOf at h
      obtain ⟨ms, e1, e2⟩ := Option.map_eq_some_iff.mp h
      subst e2
      rw [RpA.intsOf t e1]
      rfl
    | _ => cases h
theorem RpA.boolsOf : ∀ {vs : List V} {ds : List D} {ns : List Bool}, RpA K G vs ds → Fz.boolsOf ds = some ns → vs = ns.map V.bl
  | _, _, _, .nil, h => by cases h; rfl
  | _, _, _, .cons (d := d) r t, h => by
    cases d with
    | bool i =>
      cases r
      unfold Fz.boolsOf at h
      obtain ⟨ms, e1, e2⟩ := Option.map_eq_some_iff.mp h
      subst e2
      rw [RpA.boolsOf t e1]
      rfl
    | _ => cases h
end

/-! ### subscripts -/
def rIxE (K : PySem.W.Frag) : R2 := fun x y H Q => ∃ G a b r, Sub G H ∧ Cn K G H x a ∧ Cn K G H y b ∧ ixD a b = .ok r ∧ Out K G H r Q
section
variable {X : Cx}
theorem lkS_at {K : PySem.W.Frag} {G : Hp} {s : Str} {d : D} : ∀ {ks : List Key} {vs : List V} {ds : List D}, RpA K G vs ds → ks.length = ds.length → lkS s ((ks.map keyD).zip ds) = some d → ∃ z, valV (ks.zip vs) (Sum.inr s : Key) = some z ∧ Rp K G z d
  | [], _, _, _, _, h => by simp [lkS] at h
  | _ :: _, _, [], _, hl, _ => by simp at hl
  | k :: ks, _, d0 :: ds, .cons (v := v) (vs := vs) r t, hl, h => by
    cases k with
    | inl n =>
      have h' : lkS s ((ks.map keyD).zip ds) = some d := h
      obtain ⟨z, e1, e2⟩ := lkS_at t (by simpa using hl) h'
      exact ⟨z, by rw [List.zip_cons_cons, valV_neg (by intro q; cases q), e1], e2⟩
    | inr x =>
      have h' : (if x = s then some d0 else lkS s ((ks.map keyD).zip ds)) = some d := h
      by_cases hx : x = s
      · rw [if_pos hx] at h'
        cases h'
        exact ⟨v, by rw [List.zip_cons_cons, valV_pos (by show (Sum.inr x : Key) = Sum.inr s; rw [hx])], r⟩
      · rw [if_neg hx] at h'
        obtain ⟨z, e1, e2⟩ := lkS_at t (by simpa using hl) h'
        exact ⟨z, by rw [List.zip_cons_cons, valV_neg (by intro q; cases q; exact hx rfl), e1], e2⟩
theorem lkI_at {K : PySem.W.Frag} {G : Hp} {s : Int} {d : D} : ∀ {ks : List Key} {vs : List V} {ds : List D}, RpA K G vs ds → ks.length = ds.length → lkI s ((ks.map keyD).zip ds) = some d → ∃ z, valV (ks.zip vs) (Sum.inl s : Key) = some z ∧ Rp K G z d
  | [], _, _, _, _, h => by simp [lkI] at h
  | _ :: _, _, [], _, hl, _ => by simp at hl
  | k :: ks, _, d0 :: ds, .cons (v := v) (vs := vs) r t, hl, h => by
    cases k with
    | inr n =>
      have h' : lkI s ((ks.map keyD).zip ds) = some d := h
      obtain ⟨z, e1, e2⟩ := lkI_at t (by simpa using hl) h'
      exact ⟨z, by rw [List.zip_cons_cons, valV_neg (by intro q; cases q), e1], e2⟩
    | inl x =>
      have h' : (if x = s then some d0 else lkI s ((ks.map keyD).zip ds)) = some d := h
      by_cases hx : x = s
      · rw [if_pos hx] at h'
        cases h'
        exact ⟨v, by rw [List.zip_cons_cons, valV_pos (by show (Sum.inl x : Key) = Sum.inl s; rw [hx])], r⟩
      · rw [if_neg hx] at h'
        obtain ⟨z, e1, e2⟩ := lkI_at t (by simpa using hl) h'
        exact ⟨z, by rw [List.zip_cons_cons, valV_neg (by intro q; cases q; exact hx rfl), e1], e2⟩
theorem Cn.dictD {K : PySem.W.Frag} {G H : Hp} {v : V} (s : Sub G H) {kvs : List (D × D)} (c : Cn K G H v (.dict kvs)) : (∃ ds x, kvs = [(.list ds, x)]) ∨ ∃ (a : Addr) (ks : List Key) (vs : List V) (ds : List D), v = V.ref a ∧ H a = some (.dK (ks.zip vs)) ∧ ks.length = ds.length ∧ RpA K G vs ds ∧ kvs = (ks.map keyD).zip ds := by
  rcases c with c | ⟨_, _, _, _, z, _⟩
  · cases c with
    | scr _ _ => exact .inl ⟨_, _, rfl⟩
    | fn => exact .inl ⟨_, _, rfl⟩
    | dct h l r => exact .inr ⟨_, _, _, _, rfl, s _ _ h, l, r, rfl⟩
  · cases z
theorem dk_item {X : Cx} {pins : List (Addr × Obj)} {s : Shared} {σ : L2.St} {H : Hp} {a : Addr} {kvs : List (Key × V)} {k : Key} {z : V} {u : Value} {value slice : Expr} {Q : VK} (hu : X.A.units + 1 < cLine) (I : Inv X pins σ H s) (h : H a = some (.dK kvs)) (hv : valV kvs k = some z) (ru : RelV (kV k) u) (q : Q z H)
    (hs : subscripted slice false (.ref a) u = operate [.ref a, u] (getItem (.ref a) u)) : wpAny (model X.prog X.w) X.A (subscriptTail value slice (.ref a) u) (EP X pins σ Q) X.xe s := by
  have g : DGet H a (kV k) (some z) := .inl ⟨kvs, k, .inl h, rfl, hv.symm⟩
  unfold subscriptTail
  refine wpAny_bind ?_
  rw [getitemInPython_of_ne (dict_typeIs I g).not_modules]
  refine wpAny_bind (wpAny_specialOf (dict_typeIs I g) PySem.F.slot_dict_getitem.lookup ?_)
  have fin : wpAny (model X.prog X.w) X.A (subscripted slice false (.ref a) u) (fun r s₃ => wpAny (model X.prog X.w) X.A (letTemporaryGo value (.ref a) r >>= fun _ => pure r) (EP X pins σ Q) X.xe s₃) X.xe s := by
    rw [hs]
    exact wpAny_operating (wpAny_mono (d_getItem hu I g ru fun w' s' I' rw' => (⟨z, H, I', rw', q⟩ : EP X pins σ Q w' s')) (fun r s₃ h₃ => wpAny_bind (wpAny_letTemporaryGo (wpAny_pure h₃))) fun _ _ x => x)
  first
    | exact wpAny_pure (wpAny_bind fin)
    | exact wpAny_bind (wpAny_pure (wpAny_bind fin))
    | exact wpAny_bind fin
theorem ix_ok (hu : X.A.units + 1 < cLine) : IxR X (rIxE X.K) := by
  intro value slice pins s σ H x y v u Q I rx ry h hs
  obtain ⟨G, a, b, r, sG, ca, cb, e, q⟩ := h
  cases b with
  | str k =>
    cases cb.str
    cases a with
    | dict kvs =>
      simp only [ixD] at e
      split at e
      · rename_i d hd
        cases e
        rcases ca.dictD sG with ⟨ds, dx, rfl⟩ | ⟨p, ks, vs, ds, rfl, hp, hl, ra, rfl⟩
        · cases hd
        · obtain ⟨z, e1, e2⟩ := lkS_at ra hl hd
          cases rx
          exact dk_item hu I hp e1 ry (out_v sG q e2) hs
      · cases e
    | _ => cases e
  | int i =>
    cases cb.int
    cases a with
    | dict kvs =>
      simp only [ixD] at e
      split at e
      · rename_i d hd
        cases e
        rcases ca.dictD sG with ⟨ds, dx, rfl⟩ | ⟨p, ks, vs, ds, rfl, hp, hl, ra, rfl⟩
        · cases hd
        · obtain ⟨z, e1, e2⟩ := lkI_at ra hl hd
          cases rx
          exact dk_item hu I hp e1 ry (out_v sG q e2) hs
      · cases e
    | list ds =>
      obtain ⟨p, vs, rfl, hp, ra⟩ := ca.list sG
      simp only [ixD] at e
      split at e
      · rename_i d hd
        cases e
        obtain ⟨z, e1, e2⟩ := ra.at hd
        exact ix_list value slice pins s σ H _ _ v u Q I rx ry ⟨p, vs, i, z, rfl, rfl, .inl (.inl hp), e1, out_v sG q e2⟩ hs
      · cases e
    | tuple ds =>
      obtain ⟨p, vs, rfl, hp, ra⟩ := ca.tuple sG
      simp only [ixD] at e
      split at e
      · rename_i d hd
        cases e
        obtain ⟨z, e1, e2⟩ := ra.at hd
        exact ix_tup value slice pins s σ H _ _ v u Q I rx ry ⟨p, vs, i, z, rfl, rfl, hp, e1, out_v sG q e2⟩ hs
      · cases e
    | str z =>
      cases ca.str
      simp only [ixD] at e
      split at e
      · rename_i hl
        split at e
        · rename_i c hc
          cases e
          rw [atD_eq] at hc
          exact ix_str value slice pins s σ H _ _ v u Q I rx ry ⟨z, i, c, rfl, rfl, by rw [sizeLine_eq]; exact hl, hc, out_v sG q (.str _)⟩ hs
        · cases e
      · cases e
    | _ => cases e
  | _ => cases a <;> cases e

/-! ### slices -/
def rSlE (K : PySem.W.Frag) : V → Option Int → Option Int → Hp → VK → Prop := fun x lo hi H Q => ∃ G a r, Sub G H ∧ Cn K G H x a ∧ slcD a lo hi = .ok r ∧ Out K G H r Q
theorem cutD_whole {α : Type} {xs : List α} {lo hi : Option Int} (h : HT.sIx xs.length 0 lo = 0 ∧ HT.sIx xs.length xs.length hi = xs.length) : cutD xs lo hi = xs := by
  unfold cutD
  rw [sEnd_eq, sEnd_eq, h.1, h.2]
  simp
theorem sl_ok : SlR X (rSlE X.K) := by
  intro pins s σ H x v vl vu lo hi sl Q I rx hs pl pu h
  obtain ⟨G, a, r, sG, ca, e, q⟩ := h
  cases a with
  | list ds =>
    obtain ⟨p, vs, rfl, hp, ra⟩ := ca.list sG
    cases e
    exact sl_list pins s σ H _ v vl vu lo hi sl Q I rx hs pl pu ⟨p, vs, rfl, .inl (.inl hp), fun l hl => out_t sG q hl (ra.cut lo hi)⟩
  | tuple ds =>
    obtain ⟨p, vs, rfl, hp, ra⟩ := ca.tuple sG
    cases e
    refine sl_tupA pins s σ H _ v vl vu lo hi sl Q I rx hs pl pu ⟨p, vs, rfl, hp, fun hw => ?_, fun _ l hl => out_tup sG q hl (ra.cut lo hi)⟩
    rw [ra.len] at hw
    rw [cutD_whole hw] at q
    refine q (.ref p) G H (Ext.rfl' sG) ?_
    rcases ca with c | ⟨_, _, _, _, z, _⟩
    · exact c
    · cases z
  | dict kvs =>
    rcases ca with c | ⟨_, _, _, _, z, _⟩
    · cases c with
      | scr hS he =>
        rename_i p ns ds
        subst he
        cases e
        exact sl_list pins s σ H _ v vl vu lo hi sl Q I rx hs pl pu ⟨p, _, rfl, sqL_sub sG hS, fun l hl => out_t sG q hl ((RpA.ints ns).cut lo hi)⟩
      | dct hG hl hr =>
        rename_i ks vs ds
        cases ks with
        | nil => cases e
        | cons k ks =>
          cases ds with
          | nil => cases e
          | cons d ds => cases k <;> cases e
      | fn => cases e
    · cases z
  | _ => cases e

/-! ### built-in functions -/
/-- what each reads as -/
inductive Cns (K : PySem.W.Frag) (G H : Hp) : List V → List D → Prop
  | nil : Cns K G H [] []
  | cons {v vs d ds} : Cn K G H v d → Cns K G H vs ds → Cns K G H (v :: vs) (d :: ds)
def rBi (K : PySem.W.Frag) (k : BiK) : List V → Hp → VK → Prop := fun xs H Q => ∃ G ds r, Sub G H ∧ Cns K G H xs ds ∧ biD k ds = .ok r ∧ Out K G H r Q
theorem Cns.one {K : PySem.W.Frag} {G H : Hp} {xs : List V} {d : D} (c : Cns K G H xs [d]) : ∃ v, xs = [v] ∧ Cn K G H v d := by
  cases c with
  | cons a b => cases b; exact ⟨_, rfl, a⟩
theorem Cns.two {K : PySem.W.Frag} {G H : Hp} {xs : List V} {d d' : D} (c : Cns K G H xs [d, d']) : ∃ v w, xs = [v, w] ∧ Cn K G H v d ∧ Cn K G H w d' := by
  cases c with
  | cons a b =>
    cases b with
    | cons a' b' => cases b'; exact ⟨_, _, rfl, a, a'⟩
def biVal : BiK → Value
  | .len => .builtin "len" | .abs => .builtin "abs" | .int => .type "int" | .tuple => .type "tuple" | .list => .type "list" | .all => .builtin "all" | .any => .builtin "any" | .sum => .builtin "sum"
  | .min1 => .builtin "min" | .max1 => .builtin "max" | .min2 => .builtin "min" | .max2 => .builtin "max" | .sorted => .builtin "sorted" | .repr => .builtin "repr" | _ => .none
theorem biD_one {k : BiK} {ds : List D} {r : R} (hk : biVal k ≠ .none) (h : biD k ds = .ok r) : (∃ a, ds = [a]) ∨ (∃ a b, ds = [a, b]) := by
  match ds with
  | [] => cases k <;> cases h
  | [a] => exact .inl ⟨a, rfl⟩
  | [a, b] => exact .inr ⟨a, b, rfl⟩
  | a :: b :: c :: l => cases k <;> (try cases h) <;> first | exact absurd rfl hk | (cases a <;> (try cases h) <;> cases b <;> cases h)
theorem AlikeB_ok {xs : List D} (h : AlikeB xs = true) : PySem.W.AlikeAll xs ∧ PyData.plainAll xs = true ∧ PyData.depthAll xs ≤ 40 := by
  unfold AlikeB at h
  rw [Bool.and_eq_true, List.all_eq_true, List.all_eq_true] at h
  obtain ⟨h1, h2⟩ := h
  have h3 : xs.all (shp 40) = true := List.all_eq_true.mpr fun x hx => (Bool.and_eq_true_iff.mp (h2 x hx)).1
  refine ⟨⟨fun x hx y hy => List.all_eq_true.mp (h1 x hx) y hy, fun x hx => notNone ?_⟩, shpAll h3⟩
  have := (Bool.and_eq_true_iff.mp (h2 x hx)).2
  simpa using this
theorem vals1' {x : V} {us : List Value} (r : Vals [x] us) : ∃ u, us = [u] ∧ RelV x u := vals1 r
/-- the value chosen among a list's or a tuple's -/
theorem pick_rp {pins : List (Addr × Obj)} {s : Shared} {σ : L2.St} {G H : Hp} {vs : List V} {its : List Value} {ds : List D} (I : Inv X pins σ H s) (sG : Sub G H) (rv : Vals vs its) (ra : RpA X.K G vs ds) (hp : PyData.plainAll ds = true) {i : Nat} {v : Value} (hv : its[i]? = some v)
    {h' : Heap} {d : D} {bs : List Addr} (hk : ∀ b o, s.heap.get? b = some o → h'.get? b = some o) (r : Reads h' v d bs) : ∃ z, RelV z v ∧ Rp X.K G z d := by
  have hl := rv.length
  have hi : i < its.length := (List.getElem?_eq_some_iff.mp hv).1
  have hi2 : i < vs.length := by omega
  obtain ⟨u, e1, e2⟩ := rv.get (List.getElem?_eq_getElem hi2)
  rw [hv] at e1
  cases e1
  obtain ⟨d', e3, e4⟩ := ra.get i (List.getElem?_eq_getElem hi2)
  have hm : d' ∈ ds := List.mem_of_getElem? e3
  have pl : d'.plain = true := PySem.W.plain_mem hp hm
  obtain ⟨as, r'⟩ := Dp.reads I d' _ v (e4.dp sG pl) e2
  have e5 := SeqAt.plain_unique d' d v _ _ pl (PyProof.Rows.Reads.keeps hk r') r
  subst e5
  exact ⟨_, e2, e4⟩
theorem each_of {K : PySem.W.Frag} {G : Hp} : ∀ {vs : List V} {its : List Value} {ds : List D}, Vals vs its → RpA K G vs ds → PySem.W.EachIs (fun v (p : V × D) => RelV p.1 v ∧ Rp K G p.1 p.2) its (vs.zip ds)
  | _, _, _, .nil, .nil => .nil
  | _, _, _, .cons r t, .cons q u => .cons ⟨r, q⟩ (each_of t u)
theorem of_each {K : PySem.W.Frag} {G : Hp} : ∀ {its : List Value} {ps : List (V × D)}, PySem.W.EachIs (fun v (p : V × D) => RelV p.1 v ∧ Rp K G p.1 p.2) its ps → Vals (ps.map (·.1)) its ∧ RpA K G (ps.map (·.1)) (ps.map (·.2))
  | _, _, .nil => ⟨.nil, .nil⟩
  | _, _, .cons r t => ⟨.cons r.1 (of_each t).1, .cons r.2 (of_each t).2⟩
theorem zip_snd {vs : List V} {ds : List D} (h : vs.length = ds.length) : (vs.zip ds).map (·.2) = ds := by
  rw [show (fun (x : V × D) => x.2) = Prod.snd from rfl, List.map_snd_zip]
  omega
theorem each_mem {α β : Type} {R R' : α → β → Prop} : ∀ {as : List α} {bs : List β}, PySem.W.EachIs R as bs → (∀ a b, b ∈ bs → R a b → R' a b) → PySem.W.EachIs R' as bs
  | _, _, .nil, _ => .nil
  | _, _, .cons r t, f => .cons (f _ _ List.mem_cons_self r) (each_mem t fun a b hb => f a b (List.mem_cons_of_mem _ hb))
theorem depth_mem : ∀ {xs : List D} {x : D}, x ∈ xs → x.depth ≤ PyData.depthAll xs
  | y :: ys, x, h => by
    simp only [PyData.depthAll]
    rcases List.mem_cons.mp h with rfl | h
    · omega
    · have := depth_mem h
      omega
theorem tup_rp {K : PySem.W.Frag} {G H : Hp} {v : V} {ds : List D} (c : Cn K G H v (.tuple ds)) : Rp K G v (.tuple ds) := by
  rcases c with c | ⟨_, _, _, _, z, _⟩
  · exact c
  · cases z
theorem log2_small {n : Nat} (h : n < 18446744073709551616) : n.log2 < 1920 := by
  by_cases h0 : n = 0
  · subst h0; decide
  · have h1 : n < 2 ^ 1920 := Nat.lt_of_lt_of_le h (by decide)
    exact (Nat.log2_lt h0).mpr h1
theorem ints_any : ∀ {xs : List D} {ns : List Int}, intsOf xs = some ns → PyData.plainAll xs = true ∧ (∀ x ∈ xs, x.fits63) ∧ xs.any PyData.truthy = ns.any fun n => n != 0
  | [], ns, h => by cases h; exact ⟨rfl, fun x hx => (by cases hx), rfl⟩
  | .int i :: xs, ns, h => by
    simp only [intsOf, Option.map_eq_some_iff] at h
    obtain ⟨ms, h, rfl⟩ := h
    obtain ⟨a, b, c⟩ := ints_any h
    refine ⟨by rw [PyData.plainAll, a]; rfl, fun x hx => ?_, ?_⟩
    · rcases List.mem_cons.mp hx with rfl | hx
      · trivial
      · exact b x hx
    · rw [List.any_cons, List.any_cons, c]
      rfl
  | .none :: _, _, h => by cases h
  | .bool _ :: _, _, h => by cases h
  | .str _ :: _, _, h => by cases h
  | .list _ :: _, _, h => by cases h
  | .tuple _ :: _, _, h => by cases h
  | .dict _ :: _, _, h => by cases h
theorem bi_ok (k : BiK) (hc : X.calm = true) (hu : X.A.units + 64 < cLine) (hk : biVal k ≠ .none) : CallR X (biVal k) (rBi X.K k) := by
  intro pins s σ H xs us Q I rx h
  obtain ⟨G, ds, r, sG, cs, e, q⟩ := h
  have hsl := sizeLine_eq
  rcases biD_one hk e with ⟨a, rfl⟩ | ⟨a, b, rfl⟩
  · obtain ⟨x, rfl, ca⟩ := cs.one
    obtain ⟨u, rfl, ru⟩ := vals1 rx
    cases k with
    | len =>
      cases a with
      | list ds =>
        obtain ⟨p, vs, rfl, hp, ra⟩ := ca.list sG
        cases e
        exact call_len pins s σ H _ _ Q I rx ⟨_, vs.length, rfl, .inl ⟨vs, .inl (.inl hp), rfl⟩, by rw [ra.len]; exact out_v sG q (.int _)⟩
      | tuple ds =>
        obtain ⟨p, vs, rfl, hp, ra⟩ := ca.tuple sG
        cases e
        exact call_len pins s σ H _ _ Q I rx ⟨_, vs.length, rfl, .inr ⟨vs, hp, rfl⟩, by rw [ra.len]; exact out_v sG q (.int _)⟩
      | str z =>
        cases ca.str
        simp only [biD] at e
        split at e
        · rename_i hl
          cases e
          exact call_len pins s σ H _ _ Q I rx ⟨_, z.length, rfl, ⟨by rw [hsl]; exact hl, rfl⟩, out_v sG q (.int _)⟩
        · cases e
      | _ => cases e
    | int =>
      cases a with
      | int i => cases ca.int; cases e; exact call_int1 pins s σ H _ _ Q I rx (.inl ⟨i, rfl, out_v sG q (.int _)⟩)
      | bool i => cases ca.bool; cases e; exact call_int1 pins s σ H _ _ Q I rx (.inr ⟨i, rfl, out_v sG q (.int _)⟩)
      | _ => cases e
    | repr =>
      cases a with
      | none =>
        have e : reprD .none = .ok r := e
        cases ca.none; cases e; cases ru
        exact PySem.P.repr_of_none ⟨.str _, H, I.tok _, ⟨_, rfl⟩, out_v sG q (.str _)⟩
      | bool b =>
        have e : reprD (.bool b) = .ok r := e
        cases ca.bool; cases e; cases ru
        exact PySem.P.repr_of_bool ⟨.str _, H, I.tok _, ⟨_, rfl⟩, out_v sG q (.str _)⟩
      | int i =>
        cases ca.int
        obtain ⟨t, rfl⟩ := ru
        simp only [biD, reprD] at e
        split at e
        · rename_i hm
          cases e
          exact PySem.P.repr_of_int (log2_small hm) ⟨.str _, H, I.tok _, ⟨_, rfl⟩, out_v sG q (.str _)⟩
        · cases e
      | _ => cases e
    | abs =>
      cases a with
      | int i => cases ca.int; cases e; exact call_abs pins s σ H _ _ Q I rx ⟨i, rfl, out_v sG q (.int _)⟩
      | _ => cases e
    | tuple =>
      cases a with
      | list ds =>
        obtain ⟨p, vs, rfl, hp, ra⟩ := ca.list sG
        cases e
        exact call_tuple_of pins s σ H _ _ Q I rx ⟨p, vs, rfl, .inl ⟨.inl (.inl hp), fun l hl => out_tup sG q hl ra⟩⟩
      | tuple ds =>
        obtain ⟨p, vs, rfl, hp, ra⟩ := ca.tuple sG
        cases e
        refine call_tuple_of pins s σ H _ _ Q I rx ⟨p, vs, rfl, .inr ⟨hp, q (.ref p) G H (Ext.rfl' sG) ?_⟩⟩
        rcases ca with c | ⟨_, _, _, _, z, _⟩
        · exact c
        · cases z
      | _ => cases e
    | list =>
      cases a with
      | list ds =>
        obtain ⟨p, vs, rfl, hp, ra⟩ := ca.list sG
        cases e
        exact call_list_of pins s σ H _ _ Q I rx ⟨p, vs, rfl, .inl (.inl (.inl hp)), fun l hl => out_t sG q hl ra⟩
      | tuple ds =>
        obtain ⟨p, vs, rfl, hp, ra⟩ := ca.tuple sG
        cases e
        exact call_list_of pins s σ H _ _ Q I rx ⟨p, vs, rfl, .inr hp, fun l hl => out_t sG q hl ra⟩
      | _ => cases e
    | all =>
      cases a with
      | list ds =>
        obtain ⟨p, vs, rfl, hp, ra⟩ := ca.list sG
        simp only [biD] at e
        split at e
        · rename_i bs hb
          cases e
          have ev := ra.boolsOf hb
          subst ev
          exact cr_all hc pins s σ H _ _ Q I rx ⟨p, bs, rfl, .inl (.inl hp), out_v sG q (.bl _)⟩
        · cases e
      | _ => cases e
    | any =>
      cases a with
      | list ds =>
        obtain ⟨p, vs, rfl, hp, ra⟩ := ca.list sG
        simp only [biD] at e
        split at e
        · rename_i bs hb
          cases e
          have ev := ra.boolsOf hb
          subst ev
          exact cr_any hc pins s σ H _ _ Q I rx ⟨p, bs, rfl, .inl (.inl hp), out_v sG q (.bl _)⟩
        · cases e
      | tuple ds =>
        obtain ⟨p, vs, rfl, hp, ra⟩ := ca.tuple sG
        simp only [biD] at e
        split at e
        · rename_i bs hb
          cases e
          cases ru
          obtain ⟨pl, ff, tt⟩ := ints_any hb
          obtain ⟨its, rv, hl, hz⟩ := I.tuple hp
          obtain ⟨as, hr⟩ := Dp.readsAll I ds vs its (ra.dp sG pl) rv
          refine PySem.W.any_tuple_data (I.ok.hd hc) (show s.heap.IsTuple p its.toArray from hl) (by simpa using hr) pl ff fun h' tk hk => ?_
          rw [tt]
          exact ⟨.bl _, H, I.kept hk, rfl, out_v sG q (.bl _)⟩
        · cases e
      | _ => cases e
    | sum =>
      cases a with
      | list ds =>
        obtain ⟨p, vs, rfl, hp, ra⟩ := ca.list sG
        simp only [biD] at e
        split at e
        · rename_i bs hb
          cases e
          have ev := ra.intsOf hb
          subst ev
          exact cr_sum hc pins s σ H _ _ Q I rx ⟨p, bs, rfl, .inl (.inl hp), out_v sG q (.int _)⟩
        · cases e
      | tuple ds =>
        obtain ⟨p, vs, rfl, hp, ra⟩ := ca.tuple sG
        simp only [biD] at e
        split at e
        · rename_i bs hb
          cases e
          have ev := ra.intsOf hb
          subst ev
          cases ru
          obtain ⟨its, rv, hl, hz⟩ := I.tuple hp
          have hl : s.heap.IsTuple p its.toArray := hl
          have hi := rv.ints
          obtain ⟨ys, ey⟩ := hi.allInts.items
          have hn : numsOf (intItems ys).toList = bs := by rw [← ey]; exact hi.numsOf
          rw [nums_intItems] at hn
          rw [ey] at hl
          refine PySem.W.ktm_sumG (I.ok.hd hc) hl fun h' tk t' hk => ?_
          rw [preSum_eq, List.take_of_length_le (by simp), hn]
          exact ⟨.int _, H, I.kept hk, ⟨_, rfl⟩, out_v sG q (.int _)⟩
        · cases e
      | _ => cases e
    | sorted =>
      cases a with
      | list ds =>
        obtain ⟨p, vs, rfl, hp, ra⟩ := ca.list sG
        simp only [biD] at e
        split at e
        · rename_i hm
          cases e
          obtain ⟨al, pl, dp⟩ := AlikeB_ok hm.1
          cases ru
          obtain ⟨its, rv, hl, hz⟩ := I.list (.inl (.inl hp) : SqL X.K H p vs)
          have hlen := ra.len
          have hzl : (vs.zip ds).length = vs.length := by rw [List.length_zip]; omega
          have hmap : (vs.zip ds).map (fun p => p.2) = ds := zip_snd hlen
          refine PySem.W.sorted_data (bs := vs.zip ds) (enc := fun p => p.2) hl.isList (each_of rv ra) ?_ (by rw [hmap]; exact al.1) ?_ (by rw [hzl]; exact hz) (fun b hb => ?_) fun out ho hout => ?_
          · exact each_mem (each_of rv ra) fun v b hb hr => by
              have hbm : b.2 ∈ ds := by rw [← hmap]; exact List.mem_map_of_mem hb
              exact Dp.reads I b.2 b.1 v (hr.2.dp sG (PySem.W.plain_mem pl hbm)) hr.1
          · rw [hmap]
            have h2 := hm.2
            unfold SortB at h2
            rw [Bool.or_eq_true] at h2
            rcases h2 with h2 | h2
            · refine .inl fun d hd => ?_
              have := List.all_eq_true.mp h2 d hd
              cases d with
              | tuple l =>
                cases l with
                | nil => cases this
                | cons x l => exact ⟨x, l, rfl⟩
              | _ => cases this
            · refine .inr fun d hd => ⟨al.2 d hd, fun xs z => ?_⟩
              have := List.all_eq_true.mp h2 d hd
              subst z
              cases this
          · have hbm : b.2 ∈ ds := by rw [← hmap]; exact List.mem_map_of_mem hb
            have hd := depth_mem hbm
            omega
          · obtain ⟨h1, h2⟩ := of_each hout
            obtain ⟨ep, he'⟩ := PyProof.Rows.sortedAll_at s.heap its out.toArray
            have hperm := List.mergeSort_perm (vs.zip ds) (PySem.W.dataLe false fun p => p.2)
            have e2 : ((vs.zip ds).mergeSort (PySem.W.dataLe false fun p => p.2)).map (·.2) = ds.mergeSort (PySem.W.dataLe false id) := by
              rw [List.map_mergeSort (r := PySem.W.dataLe false fun (p : V × D) => p.2) (s := PySem.W.dataLe false id) (f := fun (p : V × D) => p.2) (l := vs.zip ds) (fun a _ b _ => rfl), hmap]
            rw [e2] at h2
            have hn : H (s.heap.objs.size + 1) = none := I.hok.fresh (Nat.le_succ _)
            refine ⟨.ref _, upd H (s.heap.objs.size + 1) (.lst _), I.laid (t' := s.toks) (fun _ _ => PyProof.Rows.sortedAll_old) (Nat.le_succ _) ⟨?_, out, ep, h1, by simpa using he'⟩, rfl, out_t sG q hn h2⟩
            rw [List.length_map, hperm.length_eq, hzl]
            exact hz
        · cases e
      | tuple ds =>
        obtain ⟨p, vs, rfl, hp, ra⟩ := ca.tuple sG
        simp only [biD] at e
        split at e
        · rename_i hm
          cases e
          obtain ⟨al, pl, dp⟩ := AlikeB_ok hm.1
          cases ru
          obtain ⟨its, rv, hl, hz⟩ := I.tuple hp
          have hlen := ra.len
          have hzl : (vs.zip ds).length = vs.length := by rw [List.length_zip]; omega
          have hmap : (vs.zip ds).map (fun p => p.2) = ds := zip_snd hlen
          refine sorted_dataT (bs := vs.zip ds) (enc := fun p => p.2) hl (each_of rv ra) ?_ (by rw [hmap]; exact al.1) ?_ (by rw [hzl]; exact hz) (fun b hb => ?_) fun out ho hout => ?_
          · exact each_mem (each_of rv ra) fun v b hb hr => by
              have hbm : b.2 ∈ ds := by rw [← hmap]; exact List.mem_map_of_mem hb
              exact Dp.reads I b.2 b.1 v (hr.2.dp sG (PySem.W.plain_mem pl hbm)) hr.1
          · rw [hmap]
            have h2 := hm.2
            unfold SortB at h2
            rw [Bool.or_eq_true] at h2
            rcases h2 with h2 | h2
            · refine .inl fun d hd => ?_
              have := List.all_eq_true.mp h2 d hd
              cases d with
              | tuple l =>
                cases l with
                | nil => cases this
                | cons x l => exact ⟨x, l, rfl⟩
              | _ => cases this
            · refine .inr fun d hd => ⟨al.2 d hd, fun xs z => ?_⟩
              have := List.all_eq_true.mp h2 d hd
              subst z
              cases this
          · have hbm : b.2 ∈ ds := by rw [← hmap]; exact List.mem_map_of_mem hb
            have hd := depth_mem hbm
            omega
          · obtain ⟨h1, h2⟩ := of_each hout
            obtain ⟨ep, he'⟩ := PyProof.Rows.sortedAll_at s.heap its out.toArray
            have hperm := List.mergeSort_perm (vs.zip ds) (PySem.W.dataLe false fun p => p.2)
            have e2 : ((vs.zip ds).mergeSort (PySem.W.dataLe false fun p => p.2)).map (·.2) = ds.mergeSort (PySem.W.dataLe false id) := by
              rw [List.map_mergeSort (r := PySem.W.dataLe false fun (p : V × D) => p.2) (s := PySem.W.dataLe false id) (f := fun (p : V × D) => p.2) (l := vs.zip ds) (fun a _ b _ => rfl), hmap]
            rw [e2] at h2
            have hn : H (s.heap.objs.size + 1) = none := I.hok.fresh (Nat.le_succ _)
            refine ⟨.ref _, upd H (s.heap.objs.size + 1) (.lst _), I.laid (t' := s.toks) (fun _ _ => PyProof.Rows.sortedAll_old) (Nat.le_succ _) ⟨?_, out, ep, h1, by simpa using he'⟩, rfl, out_t sG q hn h2⟩
            rw [List.length_map, hperm.length_eq, hzl]
            exact hz
        · cases e
      | _ => cases e
    | min1 =>
      have hd : a = .list ((items a).getD []) ∨ a = .tuple ((items a).getD []) := by
        cases a <;> first | exact .inl rfl | exact .inr rfl | cases e
      generalize hit : (items a).getD [] = l at hd
      rcases hd with rfl | rfl
      · obtain ⟨p, vs, rfl, hp, ra⟩ := ca.list sG
        cases l with
        | nil => cases e
        | cons x l =>
          simp only [biD, items] at e
          split at e
          · rename_i hm
            cases e
            obtain ⟨al, pl, dp⟩ := AlikeB_ok hm
            cases ru
            obtain ⟨its, rv, hl, hz⟩ := I.list (.inl (.inl hp) : SqL X.K H p vs)
            obtain ⟨as, hr⟩ := Dp.readsAll I (x :: l) vs its (ra.dp sG pl) rv
            refine PySem.W.min_list_data (I.ok.hd hc) hl.isList (by simpa using hr) al (by omega) fun i v h' tk bs hv r hk => ?_
            obtain ⟨z, rz, rpz⟩ := pick_rp I sG rv ra pl (by simpa using hv) hk r
            exact ⟨z, H, I.kept hk, rz, out_v sG q rpz⟩
          · cases e
      · obtain ⟨p, vs, rfl, hp, ra⟩ := ca.tuple sG
        cases l with
        | nil => cases e
        | cons x l =>
          simp only [biD, items] at e
          split at e
          · rename_i hm
            cases e
            obtain ⟨al, pl, dp⟩ := AlikeB_ok hm
            cases ru
            obtain ⟨its, rv, hl, hz⟩ := I.tuple hp
            obtain ⟨as, hr⟩ := Dp.readsAll I (x :: l) vs its (ra.dp sG pl) rv
            refine PySem.W.min_tuple_data (I.ok.hd hc) (show s.heap.IsTuple p its.toArray from hl) (by simpa using hr) al (by omega) fun i v h' tk bs hv r hk => ?_
            obtain ⟨z, rz, rpz⟩ := pick_rp I sG rv ra pl (by simpa using hv) hk r
            exact ⟨z, H, I.kept hk, rz, out_v sG q rpz⟩
          · cases e
    | max1 =>
      have hd : a = .list ((items a).getD []) ∨ a = .tuple ((items a).getD []) := by
        cases a <;> first | exact .inl rfl | exact .inr rfl | cases e
      generalize hit : (items a).getD [] = l at hd
      rcases hd with rfl | rfl
      · obtain ⟨p, vs, rfl, hp, ra⟩ := ca.list sG
        cases l with
        | nil => cases e
        | cons x l =>
          simp only [biD, items] at e
          split at e
          · rename_i hm
            cases e
            obtain ⟨al, pl, dp⟩ := AlikeB_ok hm
            cases ru
            obtain ⟨its, rv, hl, hz⟩ := I.list (.inl (.inl hp) : SqL X.K H p vs)
            obtain ⟨as, hr⟩ := Dp.readsAll I (x :: l) vs its (ra.dp sG pl) rv
            refine PySem.W.max_list_data (I.ok.hd hc) hl.isList (by simpa using hr) al (by omega) fun i v h' tk bs hv r hk => ?_
            obtain ⟨z, rz, rpz⟩ := pick_rp I sG rv ra pl (by simpa using hv) hk r
            exact ⟨z, H, I.kept hk, rz, out_v sG q rpz⟩
          · cases e
      · obtain ⟨p, vs, rfl, hp, ra⟩ := ca.tuple sG
        cases l with
        | nil => cases e
        | cons x l =>
          simp only [biD, items] at e
          split at e
          · rename_i hm
            cases e
            obtain ⟨al, pl, dp⟩ := AlikeB_ok hm
            cases ru
            obtain ⟨its, rv, hl, hz⟩ := I.tuple hp
            obtain ⟨as, hr⟩ := Dp.readsAll I (x :: l) vs its (ra.dp sG pl) rv
            refine PySem.W.max_tuple_data (I.ok.hd hc) (show s.heap.IsTuple p its.toArray from hl) (by simpa using hr) al (by omega) fun i v h' tk bs hv r hk => ?_
            obtain ⟨z, rz, rpz⟩ := pick_rp I sG rv ra pl (by simpa using hv) hk r
            exact ⟨z, H, I.kept hk, rz, out_v sG q rpz⟩
          · cases e
    | _ => first | exact absurd rfl hk | (cases a <;> cases e)
  · obtain ⟨x, y, rfl, ca, cb⟩ := cs.two
    cases k with
    | min2 =>
      cases a with
      | int i =>
        cases b with
        | int j =>
          cases ca.int; cases cb.int; cases e
          exact call_min2 hc pins s σ H _ _ Q I rx ⟨i, j, rfl, out_v sG q (.int _)⟩
        | _ => cases e
      | tuple xs =>
        cases b with
        | tuple ys =>
          simp only [biD] at e
          split at e
          · rename_i hm
            cases e
            obtain ⟨al, pl, dp⟩ := AlikeB_ok hm
            obtain ⟨u, u2, rfl, r1, r2⟩ := vals2 rx
            have ra : RpA X.K G [x, y] [.tuple xs, .tuple ys] := .cons (tup_rp ca) (.cons (tup_rp cb) .nil)
            obtain ⟨as, q1⟩ := Dp.reads I _ x u (ca.dp sG (PySem.W.plain_mem pl (by simp))) r1
            obtain ⟨bs, q2⟩ := Dp.reads I _ y u2 (cb.dp sG (PySem.W.plain_mem pl (by simp))) r2
            refine min_two_data (I.ok.hd hc) q1 q2 al (by omega) fun i v h' tk bs hv r hk => ?_
            obtain ⟨z, rz, rpz⟩ := pick_rp I sG rx ra pl (i := i) (v := v) (by simpa using hv) hk r
            exact ⟨z, H, I.kept hk, rz, out_v sG q rpz⟩
          · cases e
        | _ => cases e
      | _ => cases e
    | max2 =>
      cases a with
      | int i =>
        cases b with
        | int j =>
          cases ca.int; cases cb.int; cases e
          exact call_max2 hc pins s σ H _ _ Q I rx ⟨i, j, rfl, out_v sG q (.int _)⟩
        | _ => cases e
      | tuple xs =>
        cases b with
        | tuple ys =>
          simp only [biD] at e
          split at e
          · rename_i hm
            cases e
            obtain ⟨al, pl, dp⟩ := AlikeB_ok hm
            obtain ⟨u, u2, rfl, r1, r2⟩ := vals2 rx
            have ra : RpA X.K G [x, y] [.tuple xs, .tuple ys] := .cons (tup_rp ca) (.cons (tup_rp cb) .nil)
            obtain ⟨as, q1⟩ := Dp.reads I _ x u (ca.dp sG (PySem.W.plain_mem pl (by simp))) r1
            obtain ⟨bs, q2⟩ := Dp.reads I _ y u2 (cb.dp sG (PySem.W.plain_mem pl (by simp))) r2
            refine max_two_data (I.ok.hd hc) q1 q2 al (by omega) fun i v h' tk bs hv r hk => ?_
            obtain ⟨z, rz, rpz⟩ := pick_rp I sG rx ra pl (i := i) (v := v) (by simpa using hv) hk r
            exact ⟨z, H, I.kept hk, rz, out_v sG q rpz⟩
          · cases e
        | _ => cases e
      | _ => cases e
    | _ => first | exact absurd rfl hk | (cases a <;> cases e)
/-- max of four ints -/
theorem max_four {prog : Program} {w : World} {A : Around} {E : Value → Shared → Prop} {s : Shared} {Q : Value → Shared → Prop} {a b c d : Value} (hh : A.handled = none) (ha : Flt.NumV a) (hb : Flt.NumV b) (hc : Flt.NumV c) (hd : Flt.NumV d)
    (h : ∀ v h' tk, (∀ d o, s.heap.get? d = some o → h'.get? d = some o) → #[a, b, c, d][argBest (fun i j => Flt.ltV (#[a, b, c, d].getD j .none) (#[a, b, c, d].getD i .none)) 3]? = some v → Q v { s with heap := h', toks := tk }) :
    wpAny (model prog w) A (call (.builtin "max") [a, b, c, d]) Q E s := by
  have hT : (s.heap.push { cls := .type "tuple", data := .seq #[a, b, c, d] }).IsTuple s.heap.objs.size #[a, b, c, d] := ⟨_, Heap.get?_push_size _ rfl, rfl, 0, rfl⟩
  have nm : (toString "max" ++ toString ".loop" : String) = "max.loop" := by decide
  have ar : argsOk "max" ⟨[a, b, c, d], []⟩ := by unfold argsOk; kernel_rfl
  refine call_function_tree F.kind_max F.plain_max F.entry_max ar ?_
  refine (show wpAny _ A.in1 (Builtin.Builtins.bindParams "max" ["key", "default"] 0 ⟨[], []⟩ >>= _) _ _ s from wpAny_bind (wpAny_of_eq (show Builtin.Builtins.bindParams "max" ["key", "default"] 0 ⟨[], []⟩ = pure [none, none] from rfl) ?_))
  refine (show wpAny _ A.in1 (newTuple [a, b, c, d] >>= _) _ _ s from wpAny_bind (wpAny_newObj_type ?_))
  have sz : (s.heap.push { cls := .type "tuple", data := .seq #[a, b, c, d] }).objs.size = s.heap.objs.size + 1 := Heap.size_push ..
  refine wpAny_bind (wpAny_pyIter_tuple hT ?_)
  have hf : s.heap.objs.size ≠ (s.heap.push { cls := .type "tuple", data := .seq #[a, b, c, d] }).objs.size := by rw [sz]; exact Nat.ne_of_lt (Nat.lt_succ_self _)
  have n1 : ∀ n : Nat, n + 1 ≠ n + 1 + 1 := fun n => by omega
  have n2 : ∀ n : Nat, n ≠ n + 1 + 1 := fun n => by omega
  have n3 : ∀ n : Nat, ¬ n + 1 < n := fun n => by omega
  have n4 : ∀ n : Nat, ¬ n + 1 + 1 < n := fun n => by omega
  have W := Walks.tuple (prog := prog) (w := w) (A := A.in1) hh _ s.heap.objs.size (Ne.symm hf).symm #[a, b, c, d]
  refine wpAny_bind (wpAny_newObj_type ?_)
  rw [nm]
  refine wpAny_pure ⟨plainId_quiet F.plain_max_loop _, codeAny_max_loop_first W _ (Flt.cmpOf_gt #[a, b, c, d] (by simp [ha, hb, hc, hd])) _ (fun hm => ?g1) (by simp) (W.frame _ _ _ ⟨⟨_, Heap.get?_push_size _ rfl, rfl, rfl⟩, hT.push _⟩ fun b _ o e => Heap.get?_push_of_some _ e) (Heap.get?_push_size _ rfl) fun v h' tk hP hk => ?g3⟩
  case g1 =>
    have z : ((s.heap.push { cls := .type "tuple", data := .seq #[a, b, c, d] }).push { cls := .type "tuple_iterator", data := .fields #[.ref s.heap.objs.size, .int 0 0] }).objs.size = s.heap.objs.size + 1 + 1 := by rw [Heap.size_push, sz]
    rcases List.mem_cons.mp hm with hm | hm
    · exact n1 _ ((hm.trans sz).symm.trans z)
    · rcases List.mem_cons.mp hm with hm | hm
      · exact n2 _ (hm.symm.trans z)
      · cases hm
  case g3 =>
    refine h v h' tk (fun q o e => ?_) hP
    have lt := Heap.lt_size e
    refine hk q o (fun hm => ?_) (fun hm => ?_) (Heap.get?_push_of_some _ (Heap.get?_push_of_some _ (Heap.get?_push_of_some _ e)))
    · rcases List.mem_cons.mp hm with hm | hm
      · exact n3 _ ((hm.trans sz) ▸ lt)
      · cases hm
    · have z : ((s.heap.push { cls := .type "tuple", data := .seq #[a, b, c, d] }).push { cls := .type "tuple_iterator", data := .fields #[.ref s.heap.objs.size, .int 0 0] }).objs.size = s.heap.objs.size + 1 + 1 := by rw [Heap.size_push, sz]
      exact n4 _ ((hm.trans z) ▸ lt)
theorem call_max4 (hc : X.calm = true) : CallR X (.builtin "max") (rBi X.K .max4) := by
  intro pins s σ H xs us Q I rx h
  obtain ⟨G, ds, r, sG, cs, e, q⟩ := h
  match ds, e with
  | [.int i, .int j, .int k, .int l], e =>
    cases e
    cases cs with
    | cons c1 cs => cases cs with
      | cons c2 cs => cases cs with
        | cons c3 cs => cases cs with
          | cons c4 cs =>
            cases cs
            cases c1.int; cases c2.int; cases c3.int; cases c4.int
            cases rx with
            | cons r1 rx => cases rx with
              | cons r2 rx => cases rx with
                | cons r3 rx => cases rx with
                  | cons r4 rx =>
                    cases rx
                    obtain ⟨t1, rfl⟩ := r1
                    obtain ⟨t2, rfl⟩ := r2
                    obtain ⟨t3, rfl⟩ := r3
                    obtain ⟨t4, rfl⟩ := r4
                    refine max_four (I.ok.hd hc) (.int _ _) (.int _ _) (.int _ _) (.int _ _) fun v h' tk k0 hv => ⟨.int (mx4 i j k l), H, I.kept k0, ?_, out_v sG q (.int _)⟩
                    have l4 : ∀ (x y : Int) (t u : Tok), Flt.ltV (.int x t) (.int y u) = decide (x < y) := fun _ _ _ _ => rfl
                    simp only [argBest] at hv
                    by_cases h1 : i < j <;> by_cases h2 : i < k <;> by_cases h3 : j < k <;> by_cases h4 : i < l <;> by_cases h5 : j < l <;> by_cases h6 : k < l <;> simp [l4, h1, h2, h3, h4, h5, h6] at hv <;> first | omega | (subst hv; simp only [mx4, gt_iff_lt, h1, h2, h3, h4, h5, h6, if_true, if_false]; exact ⟨_, rfl⟩)
end
end Fz

/-! Ev5: a def's text as terms (cE), and that a term tells what the text does. -/
namespace Fz
open PySem PySem.Spec PyProof.Rows L2

/-! ### readings -/
/-- what is wanted of an exception: its class, what it bears, the heap -/
abbrev EW := Str → List D → Hp → Prop
/-- what is kept where an exception leaves -/
structure Kx (T : Tb) (σD : Sts) (σV : L2.St) (H H' : Hp) : Prop where
  keep : ∀ b o, H b = some o → NoTbl o → ¬ Own σD σV b → H' b = some o
  dom : ∀ b, St H b → St H' b
  tabs : LamX.Tabs T.l H'
theorem Kx.of_step {T : Tb} {σD σ1 : Sts} {σV σV1 : L2.St} {G H G1 H1 H' : Hp} (st : Step σD σV G H σ1 σV1 G1 H1) (k : Kx T σ1 σV1 H1 H') : Kx T σD σV H H' where
  keep := fun b o h n no => k.keep b o (st.keep b o h n no) n fun z => (st.own b z).elim no fun e => e (St.of h n)
  dom := fun b h => k.dom b (st.dom b h)
  tabs := k.tabs
/-- a result told: k of what is given, the wish of what is raised -/
def Rn (T : Tb) (W : EW) {α : Type} (σD : Sts) (σV : L2.St) (H : Hp) (x : Res α) (k : α → Prop) : Prop := match x with
  | .ok a => k a
  | .ex c as => ∀ H', Kx T σD σV H H' → W c as H'
  | .no => False
def NoEx {α : Type} (x : Res α) : Prop := ∀ c as, x ≠ .ex c as
theorem bind_ok {α β : Type} {x : Res α} {f : α → Res β} {b : β} (h : x.bind f = .ok b) : ∃ a, x = .ok a ∧ f a = .ok b := by
  cases x with
  | ok a => exact ⟨a, rfl, h⟩
  | ex c as => cases h
  | no => cases h
theorem NoEx.bind {α β : Type} {x : Res α} {f : α → Res β} (h : NoEx x) (hf : ∀ a, NoEx (f a)) : NoEx (x.bind f) := by
  cases x with
  | ok a => exact hf a
  | ex c as => exact absurd rfl (h c as)
  | no => exact fun c as z => by cases z
theorem NoEx.bindN {α β : Type} {x : Res α} {f : α → Res β} (hf : ∀ a, NoEx (f a)) : NoEx (x.bindN f) := by
  cases x with
  | ok a => exact hf a
  | ex c as => exact fun c as z => by cases z
  | no => exact fun c as z => by cases z
theorem NoEx.ok {α : Type} {a : α} : NoEx (.ok a : Res α) := fun c as z => by cases z
theorem NoEx.no {α : Type} : NoEx (.no : Res α) := fun c as z => by cases z
theorem NoEx.map {α β : Type} {x : Res α} {f : α → β} (h : NoEx x) : NoEx (x.map f) := by
  cases x with
  | ok a => exact NoEx.ok
  | ex c as => exact absurd rfl (h c as)
  | no => exact NoEx.no
theorem NoEx.ite {α : Type} {p : Prop} [Decidable p] {x y : Res α} (hx : NoEx x) (hy : NoEx y) : NoEx (if p then x else y) := by
  split
  · exact hx
  · exact hy
/-- what goes on with a result -/
structure Cont (T : Tb) (W : EW) (σV : L2.St) {β : Type} (N : Sts → Hp → Hp → Res β → Prop) : Prop where
  bind : ∀ {α : Type} {σD : Sts} {G H : Hp} {x : Res α} {f : α → Res β}, N σD G H (x.bind f) → Rn T W σD σV H x fun a => N σD G H (f a)
  shift : ∀ {σD σ1 : Sts} {G H G1 H1 : Hp} {y : Res β}, Step σD σV G H σ1 σV G1 H1 → Held σD σ1 → N σD G H y → N σ1 G1 H1 y
theorem Cont.ok {T : Tb} {W : EW} {σV : L2.St} {α β : Type} {N : Sts → Hp → Hp → Res β → Prop} (C : Cont T W σV N) {σD : Sts} {G H : Hp} {x : Res α} {f : α → Res β} (h : N σD G H (x.bind f)) (nx : NoEx x) : ∃ a, x = .ok a ∧ N σD G H (f a) := by
  have h := C.bind h
  cases x with
  | ok a => exact ⟨a, rfl, h⟩
  | ex c as => exact absurd rfl (nx c as)
  | no => exact h.elim
theorem Rn.mono {T : Tb} {W : EW} {α : Type} {σD : Sts} {σV : L2.St} {H : Hp} {x : Res α} {k k' : α → Prop} (h : Rn T W σD σV H x k) (hk : ∀ a, x = .ok a → k a → k' a) : Rn T W σD σV H x k' := by
  cases x with
  | ok a => exact hk a rfl h
  | ex c as => exact h
  | no => exact h
theorem Rn.bind {T : Tb} {W : EW} {α β : Type} {σD : Sts} {σV : L2.St} {H : Hp} {x : Res α} {f : α → Res β} {k : β → Prop} (h : Rn T W σD σV H (x.bind f) k) : Rn T W σD σV H x fun a => Rn T W σD σV H (f a) k := by
  cases x with
  | ok a => exact h
  | ex c as => exact h
  | no => exact h
theorem Rn.shift {T : Tb} {W : EW} {α : Type} {σD σ1 : Sts} {σV σV1 : L2.St} {G H G1 H1 : Hp} {x : Res α} {k k' : α → Prop} (st : Step σD σV G H σ1 σV1 G1 H1) (h : Rn T W σD σV H x k) (hk : ∀ a, k a → k' a) : Rn T W σ1 σV1 H1 x k' := by
  cases x with
  | ok a => exact hk a h
  | ex c as => exact fun H' kx => h H' (kx.of_step st)
  | no => exact h
section
variable (Φ : Fns) (Γ : List D) (T : Tb) (W : EW) (K : PySem.W.Frag)
/-- what is wanted behind a step from (σD, G, H): the slots' values are as they were -/
def NP {α : Type} (σV : L2.St) (P : Hp → α → Sts → Hp → Hp → Prop) (σD : Sts) (G H : Hp) (x : Res (α × Sts)) : Prop :=
  Rn T W σD σV H x fun q => ∀ G' H', S2 T K G' H' q.2 σV → Step σD σV G H q.2 σV G' H' → Held σD q.2 → P H q.1 q.2 G' H'
/-- a wish that a later heap bears too -/
def Up {α : Type} (P : Hp → α → Sts → Hp → Hp → Prop) : Prop := ∀ H H1 a σ G' H', (∀ b, St H b → St H1 b) → P H a σ G' H' → P H1 a σ G' H'
inductive ROs (K : PySem.W.Frag) (G : Hp) (σD : Sts) (σV : L2.St) : List V → List R → Prop
  | nil : ROs K G σD σV [] []
  | cons {v vs r rs} : RO K G σD σV v r → ROs K G σD σV vs rs → ROs K G σD σV (v :: vs) (r :: rs)
abbrev wE (σV : L2.St) (Q : VK) : Hp → R → Sts → Hp → Hp → Prop := fun H0 r σ' G' H' => ∀ v, RV K G' H' σ' σV H0 v r → Q v H'
abbrev wA (σV : L2.St) (Q : List V → Hp → Prop) : Hp → List R → Sts → Hp → Hp → Prop := fun _ rs σ' G' H' => ∀ vs, ROs K G' σ' σV vs rs → Q vs H'
abbrev wVs (Q : List V → Hp → Prop) : Hp → List D → Sts → Hp → Hp → Prop := fun _ ds _ G' H' => ∀ vs, RpA K G' vs ds → Q vs H'
abbrev wT {α : Type} (Q : α → Hp → Prop) : Hp → α → Sts → Hp → Hp → Prop := fun _ b _ _ H' => Q b H'
def tE (t : Fz.T) : TE := fun σV H Q => ∃ σD G, S2 T K G H σD σV ∧ NP T W K σV (wE K σV Q) σD G H (evE Φ Γ t σD)
def tA (t : Fz.T) : TA := fun σV H Q => ∃ σD G, S2 T K G H σD σV ∧ NP T W K σV (wA K σV Q) σD G H (evA Φ Γ t σD)
def tVs (t : Fz.T) : TA := fun σV H Q => ∃ σD G, S2 T K G H σD σV ∧ NP T W K σV (wVs K Q) σD G H (evV Φ Γ t σD)
def tT (t : Fz.T) : TT := fun σV H Q => ∃ σD G, S2 T K G H σD σV ∧ NP T W K σV (wT Q) σD G H (evT Φ Γ t σD)
end

section
variable {Φ : Fns} {Γ : List D} {T : Tb} {W : EW} {K : PySem.W.Frag} {G H G1 H1 : Hp} {σD σD1 : Sts} {σV : L2.St}
theorem up_E {Q : VK} : Up (wE K σV Q) := fun H H1 r σ G' H' hd h v rv => h v (by
  cases r with
  | v d => exact rv
  | p i => exact rv
  | t ds =>
    obtain ⟨a, vs, e, h1, h2, h3, h4, h5⟩ := rv
    exact ⟨a, vs, e, h1, h2, h3, fun z => h4 (hd a z), h5⟩)
theorem up_A {Q : List V → Hp → Prop} : Up (wA K σV Q) := fun _ _ _ _ _ _ _ h => h
theorem up_Vs {Q : List V → Hp → Prop} : Up (wVs K Q) := fun _ _ _ _ _ _ _ h => h
theorem up_T {α : Type} {Q : α → Hp → Prop} : Up (wT Q) := fun _ _ _ _ _ _ _ h => h
theorem cont_NP {α : Type} {P : Hp → α → Sts → Hp → Hp → Prop} (up : Up P) : Cont T W σV (NP T W K σV P) where
  bind := fun h => Rn.bind h
  shift := fun st hd h => Rn.shift st h fun q k G' H' S' st' hd' => up _ _ _ _ _ _ st.dom (k G' H' S' (st.trans st') (hd.trans hd'))
abbrev kE {Q : VK} : Cont T W σV (NP T W K σV (wE K σV Q)) := cont_NP up_E
abbrev kA {Q : List V → Hp → Prop} : Cont T W σV (NP T W K σV (wA K σV Q)) := cont_NP up_A
abbrev kVs {Q : List V → Hp → Prop} : Cont T W σV (NP T W K σV (wVs K Q)) := cont_NP up_Vs
abbrev kT {α : Type} {Q : α → Hp → Prop} : Cont T W σV (NP T W K σV (wT Q)) := cont_NP up_T
/-- a result given -/
theorem NP.fin {α : Type} {P : Hp → α → Sts → Hp → Hp → Prop} {a : α} (S : S2 T K G H σD σV) (h : NP T W K σV P σD G H (.ok (a, σD))) : P H a σD G H := h G H S Step.rfl' Held.rfl'
theorem NP.fin' {α : Type} {P : Hp → α → Sts → Hp → Hp → Prop} {q : α × Sts} (h : NP T W K σV P σD G H (.ok q)) (S : S2 T K G1 H1 q.2 σV) (st : Step σD σV G H q.2 σV G1 H1) (hd : Held σD q.2) : P H q.1 q.2 G1 H1 := h G1 H1 S st hd
theorem ROs.step : ∀ {vs : List V} {rs : List R}, ROs K G σD σV vs rs → Sub G G1 → Held σD σD1 → ROs K G1 σD1 σV vs rs
  | _, _, .nil, _, _ => .nil
  | _, _, .cons a b, g, h => .cons (a.step g h) (b.step g h)
theorem ROs.cns (S : S2 T K G H σD σV) : ∀ {vs : List V} {rs : List R}, ROs K G σD σV vs rs → Cns K G H vs (rs.map (cont σD))
  | _, _, .nil => .nil
  | _, _, .cons a b => .cons (a.cn S) (b.cns S)
section
variable {β : Type} {N : Sts → Hp → Hp → Res β → Prop}
/-- an expression first -/
theorem one_rv (C : Cont T W σV N) {a : Fz.T} {f : R × Sts → Res β} (S : S2 T K G H σD σV) (h : N σD G H ((evE Φ Γ a σD).bind f)) {k : V → Hp → Prop}
    (hk : ∀ x, evE Φ Γ a σD = .ok x → ∀ G' H', S2 T K G' H' x.2 σV → Step σD σV G H x.2 σV G' H' → Held σD x.2 → N x.2 G' H' (f x) → ∀ v, RV K G' H' x.2 σV H v x.1 → k v H') : tE Φ Γ T W K a σV H k :=
  ⟨σD, G, S, (C.bind h).mono fun x e n G' H' S' st hd v rv => hk x e G' H' S' st hd (C.shift st hd n) v rv⟩
/-- one operand -/
theorem one_op (C : Cont T W σV N) {a : Fz.T} {f : R × Sts → Res β} (S : S2 T K G H σD σV) (h : N σD G H ((evE Φ Γ a σD).bind f)) {k : V → Hp → Prop}
    (hk : ∀ x, evE Φ Γ a σD = .ok x → ∀ G' H', S2 T K G' H' x.2 σV → Step σD σV G H x.2 σV G' H' → Held σD x.2 → N x.2 G' H' (f x) → ∀ v, RO K G' x.2 σV v x.1.nt → k v H') : tE Φ Γ T W K a σV H k :=
  ⟨σD, G, S, (C.bind h).mono fun x e n G' H' S' st hd v rv => by
    obtain ⟨G2, S2', st2, su, ro, _⟩ := nt_ok S' st rv
    exact hk x e G2 H' S2' st2 hd (C.shift st2 hd n) v ro⟩
/-- an operand that is kept -/
theorem one_frz (C : Cont T W σV N) {a : Fz.T} {f : R × Sts → Res β} (S : S2 T K G H σD σV) (h : N σD G H ((evE Φ Γ a σD).bind f)) {k : V → Hp → Prop}
    (hk : ∀ x, evE Φ Γ a σD = .ok x → ∀ G' H', S2 T K G' H' (frz x.2 x.1).2 σV → Step σD σV G H (frz x.2 x.1).2 σV G' H' → Held σD (frz x.2 x.1).2 → N (frz x.2 x.1).2 G' H' (f x) → ∀ v, Rp K G' v (frz x.2 x.1).1 → k v H') : tE Φ Γ T W K a σV H k :=
  ⟨σD, G, S, (C.bind h).mono fun x e n G' H' S' st hd v rv => by
    obtain ⟨G2, S2', st2, su, rp, hd2⟩ := frz_ok S' st rv
    exact hk x e G2 H' S2' st2 (hd.trans hd2) (C.shift st2 (hd.trans hd2) n) v rp⟩
theorem cont_nt (σ : Sts) (r : R) : cont σ r.nt = cont σ r := by cases r <;> rfl
/-- two operands -/
theorem two_op (C : Cont T W σV N) {a b : Fz.T} {f : R × Sts → R × Sts → Res β} (S : S2 T K G H σD σV) (h : N σD G H ((evE Φ Γ a σD).bind fun x => (evE Φ Γ b x.2).bind fun y => f x y)) {k : V → V → Hp → Prop}
    (hk : ∀ x y G' H', S2 T K G' H' y.2 σV → Step σD σV G H y.2 σV G' H' → Held σD y.2 → N y.2 G' H' (f x y) → ∀ v w, Cn K G' H' v (cont y.2 x.1) → Cn K G' H' w (cont y.2 y.1) → k v w H') : tE Φ Γ T W K a σV H fun v H1 => tE Φ Γ T W K b σV H1 fun w H2 => k v w H2 :=
  one_op C S h fun x _ G1 H1 S1 st1 hd1 h v ro1 => one_op C S1 h fun y _ G2 H2 S2' st2 hd2 h w ro2 => by
    have c1 := (ro1.step st2.gm hd2).cn S2'
    have c2 := ro2.cn S2'
    rw [cont_nt] at c1 c2
    exact hk x y G2 H2 S2' (st1.trans st2) (hd1.trans hd2) h v w c1 c2
/-- arguments first -/
theorem args_op (C : Cont T W σV N) {a : Fz.T} {f : List R × Sts → Res β} (S : S2 T K G H σD σV) (h : N σD G H ((evA Φ Γ a σD).bind f)) {k : List V → Hp → Prop}
    (hk : ∀ x, evA Φ Γ a σD = .ok x → ∀ G' H', S2 T K G' H' x.2 σV → Step σD σV G H x.2 σV G' H' → Held σD x.2 → N x.2 G' H' (f x) → ∀ vs, ROs K G' x.2 σV vs x.1 → k vs H') : tA Φ Γ T W K a σV H k :=
  ⟨σD, G, S, (C.bind h).mono fun x e n G' H' S' st hd vs ros => hk x e G' H' S' st hd (C.shift st hd n) vs ros⟩
theorem vals_op (C : Cont T W σV N) {a : Fz.T} {f : List D × Sts → Res β} (S : S2 T K G H σD σV) (h : N σD G H ((evV Φ Γ a σD).bind f)) {k : List V → Hp → Prop}
    (hk : ∀ x, evV Φ Γ a σD = .ok x → ∀ G' H', S2 T K G' H' x.2 σV → Step σD σV G H x.2 σV G' H' → Held σD x.2 → N x.2 G' H' (f x) → ∀ vs, RpA K G' vs x.1 → k vs H') : tVs Φ Γ T W K a σV H k :=
  ⟨σD, G, S, (C.bind h).mono fun x e n G' H' S' st hd vs ros => hk x e G' H' S' st hd (C.shift st hd n) vs ros⟩
/-- a value that is a truth value -/
theorem evT_E {t : Fz.T} {σD : Sts} {q : R × Sts} {w : Bool × Sts} (e1 : evE Φ Γ t σD = .ok q) (e2 : boolOf q = .ok w) : evT Φ Γ t σD = .ok w ∧ q = (.v (.bool w.1), w.2) := by
  refine ⟨by unfold evT; rw [e1]; exact e2, ?_⟩
  obtain ⟨r, σ1⟩ := q
  cases r with
  | v d =>
    cases d with
    | bool k => cases e2; rfl
    | _ => cases e2
  | _ => cases e2
theorem boolOf_nx (q : R × Sts) : NoEx (boolOf q) := by
  unfold boolOf
  split
  · exact NoEx.ok
  · exact NoEx.no
/-- a test first -/
theorem test_op (C : Cont T W σV N) {a : Fz.T} {f : Bool × Sts → Res β} (S : S2 T K G H σD σV) (h : N σD G H ((evE Φ Γ a σD).bind fun x => (boolOf x).bind f)) {k : Bool → Hp → Prop}
    (hk : ∀ w G' H', S2 T K G' H' w.2 σV → Step σD σV G H w.2 σV G' H' → Held σD w.2 → N w.2 G' H' (f w) → k w.1 H') : tT Φ Γ T W K a σV H k := by
  refine ⟨σD, G, S, ?_⟩
  have h := C.bind h
  unfold evT
  cases e : evE Φ Γ a σD with
  | ok x =>
    rw [e] at h
    obtain ⟨w, e2, h⟩ := C.ok h (boolOf_nx x)
    show NP T W K σV (wT k) σD G H (boolOf x)
    rw [e2]
    exact fun G' H' S' st hd => hk w G' H' S' st hd (C.shift st hd h)
  | ex c as => rw [e] at h; exact h
  | no => rw [e] at h; exact h
/-- .. as a value -/
theorem bool_op (C : Cont T W σV N) {a : Fz.T} {f : Bool × Sts → Res β} (S : S2 T K G H σD σV) (h : N σD G H ((evE Φ Γ a σD).bind fun x => (boolOf x).bind f)) {k : V → Hp → Prop}
    (hk : ∀ w G' H', S2 T K G' H' w.2 σV → Step σD σV G H w.2 σV G' H' → Held σD w.2 → N w.2 G' H' (f w) → k (.bl w.1) H') : tE Φ Γ T W K a σV H k :=
  one_rv C S h fun x e G' H' S' st hd h v rv => by
    obtain ⟨w, e2, h⟩ := C.ok h (boolOf_nx x)
    obtain ⟨_, rfl⟩ := evT_E e e2
    cases rv
    exact hk w G' H' S' st hd h
end
/-- behind an operation -/
theorem NP.out {r : R} {Q : VK} (S : S2 T K G H σD σV) (h : NP T W K σV (wE K σV Q) σD G H (.ok (r, σD))) : Out K G H r Q := fun v G' H' ex rn => by
  obtain ⟨S', st'⟩ := S.ext ex
  refine h G' H' S' st' Held.rfl' v ?_
  exact rn.rv S fun b hb => st'.dom b hb
end

/-! ### terms of a text -/
/-- what a suite knows of the exception in hand: its name, which classes it is of, its field, what a def tells of it -/
structure XI where
  e : Str
  isx : List (Str × Bool)
  fld : List (Str × D)
  hlp : List (Str × List Bool)
  tst : Option Str
structure CC where
  N : List Str
  sc : Scope
  blk : Option Scope
  fns : List (Str × Nat)
  cst : List (Str × Nat)
  prot : List Nat
  exs : List Str := []
  exa : List Str := []
  cats : List (Str × Nat) := []
  lfns : List (Str × Nat) := []
  lk : Nat := 0
  g : Bool := false
  hot : Bool := false
  exc : Option XI := none
  tbs : List (Str × Nat) := []
  fvs : List Str := []

def ixOf : List Str → Str → Option Nat
  | [], _ => none
  | y :: r, x => if y = x then some 0 else (ixOf r x).map (· + 1)
theorem ixOf_get : ∀ {l : List Str} {x : Str} {i : Nat}, ixOf l x = some i → l[i]? = some x
  | [], _, _, h => by cases h
  | y :: r, x, i, h => by
    unfold ixOf at h
    split at h
    · rename_i e
      cases h
      rw [e]; rfl
    · obtain ⟨j, e1, e2⟩ := Option.map_eq_some_iff.mp h
      subst e2
      simpa using ixOf_get e1
def visB (sc : Scope) (x : Str) : Bool := match sc.names.lookup x with
  | some .local => true
  | some .cell => true
  | some .free => true
  | _ => false
theorem vis_of {sc : Scope} {x : Str} (h : visB sc x = true) : Vis sc x := by
  unfold visB at h
  unfold Vis
  split at h <;> first | (left; assumption) | (right; left; assumption) | (right; right; assumption) | cases h
def gloB (sc : Scope) (x : Str) : Bool := match sc.names.lookup x with
  | some .globalImplicit => true
  | _ => false
theorem glo_of {sc : Scope} {x : Str} (h : gloB sc x = true) : sc.names.lookup x = some .globalImplicit := by
  unfold gloB at h
  split at h
  · assumption
  · cases h
def oddName (x : Str) : Bool := x == ("__debug__" : Str) || x == ("__classdict__" : Str) || x == ("__name__" : Str)
def cName (C : CC) (x : Str) : Option T :=
  if oddName x = true then none
  else if visB C.sc x = true then (ixOf C.N x).map .var
  else if gloB C.sc x = true then (C.cst.lookup x).map .glb
  else none
def cConst : Const → Option T
  | .int n => some (.int n)
  | .bool b => some (.bl b)
  | .none => some .non
  | .str s => some (.str s)
  | _ => none
def cL (f : Expr → Option T) : List Expr → Option T
  | [] => some .nil
  | e :: es => (f e).bind fun t => (cL f es).map (.cons t)
def bK : Operator → Option BinK
  | .Add => some .add | .Sub => some .sub | .Mult => some .mul | .FloorDiv => some .fdiv | .Mod => some .mod | .Pow => some .pow | _ => none
def cK : CmpOp → CmpK
  | .Eq => .eq | .NotEq => .ne | .Lt => .lt | .LtE => .le | .Gt => .gt | .GtE => .ge | .Is => .is | .IsNot => .isnot | .In => .inn | .NotIn => .notin
def cAnd (f : Expr → Option T) : List Expr → Option T
  | [] => none
  | [a] => f a
  | a :: r => (f a).bind fun t => (cAnd f r).map (.and t)
def cOr (f : Expr → Option T) : List Expr → Option T
  | [] => none
  | [a] => f a
  | a :: r => (f a).bind fun t => (cOr f r).map (.or t)
def cCmp (f : Expr → Option T) (a : Expr) : List CmpOp → List Expr → Option T
  | [o], [b] => if behindInMarks o b = true then none else (f a).bind fun ta => (f b).bind fun tb => some (.cmp (cK o) ta tb)
  | [o, p], [b, c] => if lastMarks [o, p] [b, c] = true then none else (f a).bind fun ta => (f b).bind fun tb => (f c).bind fun tc => some (.chn (cK o) (cK p) ta tb tc)
  | _, _ => none
def cPart (f : Expr → Option T) : Option Expr → Option T
  | none => some .nil
  | some e => (f e).map fun t => .cons t .nil
def isM1 : Expr → Bool
  | .UnaryOp .USub (.Constant (.int 1) _ _) _ => true
  | _ => false
def cSub (f : Expr → Option T) (a : Expr) : Expr → Option T
  | .Slice lo hi none _ => (f a).bind fun t => (cPart f lo).bind fun l => (cPart f hi).bind fun h => some (.slc t l h)
  | .Slice lo hi (some s) _ => if (lo.isNone && hi.isNone && isM1 s) = true then (f a).map fun t => .bi .rev (.cons t .nil) else none
  | i => (f a).bind fun t => (f i).bind fun ti => some (.ix t ti)
/-- a dict of the module that is looked up -/
def cTab (C : CC) : Expr → Option Nat
  | .Name x _ => if gloB C.sc x = true ∧ oddName x = false then C.tbs.lookup x else none
  | _ => none
def isSl : Expr → Bool
  | .Slice _ _ _ _ => true
  | _ => false
def biTab (g : Bool) (n : Nat) : List (Str × BiK) := [("len", .len), ("int", .int), ("abs", .abs), ("tuple", .tuple), ("list", .list), ("all", .all), ("any", .any), ("sum", .sum), ("sorted", .sorted), ("repr", if g = true then .show else .repr),
  ("min", if n = 1 then .min1 else .min2), ("max", if n = 1 then .max1 else if n = 4 then .max4 else .max2)]
def biName (g : Bool) (x : Str) (n : Nat) : Option BiK := (biTab g n).lookup x
def isiTab : List (Str × BiK) := [("int", .isInt), ("bool", .isBool), ("tuple", .isTuple), ("list", .isList), ("str", .isStr), ("dict", .isDict)]
def isiName (x : Str) : Option BiK := isiTab.lookup x
/-- the built-in names that a text may use: the module binds none of them -/
def biNames : List Str := ["len", "int", "abs", "tuple", "list", "all", "any", "sum", "sorted", "min", "max", "isinstance", "bool", "str", "dict", "range", "zip", "enumerate", "set", "repr"]
def rngArgs : Expr → Option (List Expr)
  | .Call (.Name r _) [a] [] _ => if r = "range" then some [a] else none
  | .Call (.Name r _) [a, b] [] _ => if r = "range" then some [a, b] else none
  | _ => none
def cCallN (f : Expr → Option T) (C : CC) (x : Str) (as : List Expr) : Option T :=
  if gloB C.sc x = true ∧ oddName x = false then
    match C.fns.lookup x with
    | some i => (cL f as).map (.call i)
    | none =>
      if x = "isinstance" then (match as with
        | [e, .Name ty _] => if gloB C.sc ty = true then (isiName ty).bind fun k => (f e).map fun t => .bi k (.cons t .nil) else none
        | _ => none)
      else match as with
        | [] => none
        | a :: r => (biName C.g x (a :: r).length).bind fun k => (cL f (a :: r)).map (.bi k)
  else none
def cMeth (f : Expr → Option T) (o : Expr) (m : Str) (apos cpos : Pos) : List Expr → Option T
  | [a] => if (apos.endLine == cpos.line) = true then
      (if m = "index" then (f o).bind fun t => (f a).map fun u => .mt .index t u
      else if m = "count" then (f o).bind fun t => (f a).map fun u => .mt .count t u else none) else none
  | _ => none
def cPop (f : Expr → Option T) (C : CC) (x : Str) (apos cpos : Pos) : List Expr → Option T
  | [] => if (apos.endLine == cpos.line) = true ∧ visB C.sc x = true ∧ oddName x = false then (ixOf C.N x).map .pop else none
  | [a] => if (apos.endLine == cpos.line) = true ∧ visB C.sc x = true ∧ oddName x = false then (ixOf C.N x).bind fun i => (f a).map (.popa i) else none
  | _ => none
def setArg : Expr → Option Expr
  | .Call (.Name r _) [a] [] _ => if r = "set" then some a else none
  | _ => none
def cCall (f : Expr → Option T) (C : CC) (g : Expr) (as : List Expr) (ks : List Keyword) (pos : Pos) : Option T :=
  match g, ks with
  | .Name x _, [] => (match as with
      | [a] => match rngArgs a with
        | some rs => if gloB C.sc x = true ∧ gloB C.sc "range" = true ∧ C.fns.lookup x = none then
            (if x = "list" then (cL f rs).map .rgl else if x = "tuple" then (cL f rs).map .rgt else cCallN f C x as) else cCallN f C x as
        | none => (match setArg a with
          | some e => if gloB C.sc x = true ∧ gloB C.sc "set" = true ∧ C.fns.lookup x = none then
              (if x = "len" then (cL f [e]).map (.bi .lenset) else if x = "sorted" then (cL f [e]).map (.bi .sortset) else cCallN f C x as) else cCallN f C x as
          | none => cCallN f C x as)
      | _ => cCallN f C x as)
  | .Attribute (.Name o p) m apos, [] => if m = "pop" then cPop f C o apos pos as else cMeth f (.Name o p) m apos pos as
  | .Attribute (.Call (.Name y q) [] [] r) m apos, [] => if (y != ("super" : Str)) = true then cMeth f (.Call (.Name y q) [] [] r) m apos pos as else none
  | _, _ => none
/-- what is walked -/
def cIter (f : Expr → Option T) (C : CC) (tg : Expr) (e : Expr) : Option T :=
  match e with
  | .Call (.Name x _) as [] _ =>
    if C.fns.lookup x = none ∧ gloB C.sc x = true then
      (if x = "range" then (match as with
        | [a] => (cL f [a]).map .itr
        | [a, b] => (cL f [a, b]).map .itr
        | [a, b, c] => (cL f [a, b, c]).map .itr
        | _ => none)
      else if x = "zip" then (match as, tg with
        | [a, b], .Tuple _ _ _ => (f a).bind fun ta => (f b).map fun tb => .itz ta tb
        | _, _ => none)
      else if x = "enumerate" then (match as, tg with
        | [a], .Tuple _ _ _ => (f a).map .ite
        | _, _ => none)
      else (f e).map .itv)
    else (f e).map .itv
  | .Set _ _ _ => none
  | _ => (f e).map .itv
/-- a target: names, tuples of targets -/
def locB (C : CC) (x : Str) : Bool := match C.blk with
  | none => (match C.sc.names.lookup x with | some .local => true | some .cell => true | _ => false)
  | some s => (match C.sc.names.lookup x with | some .local => true | some .cell => s.names.lookup x == some .cell | _ => false)
def cTgt : Nat → CC → Expr → Option T
  | 0, _, _ => none
  | n + 1, C, e => match e with
    | .Name x _ => if locB C x = true ∧ oddName x = false then (ixOf C.N x).bind fun i => if i ∈ C.prot then none else some (.gn i) else none
    | .Tuple es _ _ => (cL (cTgt n C) es).map .gt
    | _ => none
/-- the slots that a target names -/
def tgS : T → List Nat
  | .gn i => [i]
  | .gt gs => tgS gs
  | .cons g gs => tgS g ++ tgS gs
  | _ => []
def ownOf (C : CC) (scope : Scope) : List (Str × Nat) := scope.names.filterMap fun y => match y.2 with
  | .local => (ixOf C.N y.1).map fun i => (y.1, i)
  | .cell => (ixOf C.N y.1).map fun i => (y.1, i)
  | _ => none
def cComp (f : CC → Expr → Option T) (C : CC) (e : Expr) (scope : Scope) : List Comprehension → Option T
  | [⟨g, it, ifs, 0⟩] =>
    let own := ownOf C scope
    if blkC C.N C.sc scope own = true then
      let C' : CC := { C with sc := relS scope C.sc, blk := some scope, cats := [], exc := none }
      (cIter (f C) C g it).bind fun ti => (cTgt 5 C' g).bind fun tg => (f C' e).bind fun te => (match ifs with | [] => some T.nil | [c] => (f C' c).map fun t => T.cons t T.nil | _ => none).bind fun tc => if (tgS tg).all (fun i => decide (i ∈ own.map Prod.snd)) = true then some (T.lc tg ti tc te (own.map Prod.snd)) else none
    else none
  | _ => none
/-- a def that is handed a lambda without parameters -/
def lamOf (C : CC) : Expr → List Expr → List Keyword → Option (Nat × Scope × Expr)
  | .Name x _, [.Lambda ⟨[], [], none, [], [], none, []⟩ body scope _], [] => if gloB C.sc x = true ∧ oddName x = false then (C.cats.lookup x).map fun k => (k, scope, body) else none
  | _, _, _ => none
def lamC (C : CC) (scope : Scope) : CC := { C with sc := scope, blk := some scope, fns := C.lfns, cats := [], exs := [], exa := [], g := false, hot := false, exc := none }
/-- the defs that a name may hold -/
def fvTab (C : CC) : List (Str × Nat) := C.fvs.filterMap fun x => (C.lfns.lookup x).map fun i => (x, i)
def cLamV (f : CC → Expr → Option T) (C : CC) (k : Nat) (scope : Scope) (y : Str) : List Expr → Option T
  | [] => none
  | a :: as => if LamX.lamSB C.sc scope = true ∧ visB scope y = true ∧ oddName y = false then (ixOf C.N y).bind fun i => (cL (f (lamC C scope)) (a :: as)).map (.lamv k i (fvTab C)) else none
def cLam (f : CC → Expr → Option T) (C : CC) (k : Nat) (scope : Scope) : Expr → Option T
  | .Call (.Name y _) as [] _ => if LamX.lamSB C.sc scope = true ∧ gloB scope y = true ∧ oddName y = false then (C.lfns.lookup y).bind fun i => (cL (f (lamC C scope)) as).map (.lam k i) else cLamV f C k scope y as
  | _ => none
def cKeys : List (Option Expr) → Option T
  | [] => some .nil
  | some (.Constant (.int n) _ _) :: r => (cKeys r).map (.cons (.int n))
  | some (.Constant (.str s) _ _) :: r => (cKeys r).map (.cons (.str s))
  | _ => none
/-- what is told of the exception in hand -/
def cXc (C : CC) (x e : Str) (t : T) : Option T := if gloB C.sc x = true ∧ oddName x = false ∧ visB C.sc e = true ∧ oddName e = false then (ixOf C.N e).map fun i => .xc i t else none
def boolsT : List Bool → T
  | [] => .nil
  | b :: r => .cons (.bl b) (boolsT r)
def constT : D → Option T
  | .int n => some (.int n)
  | .str s => some (.str s)
  | _ => none
def intD : D → Option Int
  | .int n => some n
  | _ => none
/-- a call in a suite -/
def cHot (f : Expr → Option T) (C : CC) (g : Expr) (as : List Expr) (ks : List Keyword) (pos : Pos) : Option T :=
  match g, ks with
  | .Attribute (.Name o p) m apos, [] => cMeth f (.Name o p) m apos pos as
  | .Name x _, [] => C.exc.bind fun xi => (match as with
    | [.Name e _, .Name y _] => if x = "isinstance" ∧ e = xi.e ∧ gloB C.sc y = true ∧ oddName y = false then (xi.isx.lookup y).bind fun b => cXc C x e (.bl b) else none
    | [.Name e _] => if e = xi.e then (xi.hlp.lookup x).bind fun bs => cXc C x e (.lst (boolsT bs)) else none
    | [.Attribute (.Name e _) fl _, .Constant (.int n) _ _] => if e = xi.e ∧ xi.tst = some x then (xi.fld.lookup fl).bind fun d => (intD d).bind fun m => cXc C x e (.bl (decide (m = n))) else none
    | _ => none)
  | _, _ => none
/-- isinstance of anything, in a suite or in a def that it calls -/
def cIsi (f : Expr → Option T) (C : CC) (g : Expr) (as : List Expr) (ks : List Keyword) : Option T :=
  match g, ks with
  | .Name x _, [] => if x = "isinstance" then cCallN f C x as else none
  | _, _ => none
def cHot2 (f : Expr → Option T) (C : CC) (g : Expr) (as : List Expr) (ks : List Keyword) (pos : Pos) : Option T :=
  match cHot f C g as ks pos with
  | some t => some t
  | none => cIsi f C g as ks
def cFld (C : CC) (x : Str) : Expr → Option T
  | .Name e _ => C.exc.bind fun xi => if e = xi.e ∧ visB C.sc e = true ∧ oddName e = false then (xi.fld.lookup x).bind fun d => (constT d).bind fun t => (ixOf C.N e).map fun i => .xc i t else none
  | _ => none
def cE1 (f : CC → Expr → Option T) (C : CC) : Expr → Option T
  | .Constant c _ _ => cConst c
  | .Name x _ => cName C x
  | .BinOp a o b _ => (bK o).bind fun k => (f C a).bind fun a => (f C b).bind fun b => some (.bin k a b)
  | .UnaryOp .USub a _ => (f C a).map .neg
  | .UnaryOp .Not a _ => (f C a).map .not
  | .BoolOp .And vs _ => cAnd (f C) vs
  | .BoolOp .Or vs _ => cOr (f C) vs
  | .Compare a ops cs _ => cCmp (f C) a ops cs
  | .IfExp c a b _ => (f C c).bind fun c => (f C a).bind fun a => (f C b).bind fun b => some (.ifx c a b)
  | .Tuple es _ _ => (cL (f C) es).map .tup
  | .List es _ => (cL (f C) es).map .lst
  | .Subscript a i _ => (match cTab C a with
    | some k => if isSl i = true then none else (f C i).map fun t => .ix (.glb k) t
    | none => cSub (f C) a i)
  | .ListComp e gens scope _ => if C.hot = true then none else cComp f C e scope gens
  | .Call g as ks pos => match (if C.hot = true then cHot2 (f C) C g as ks pos else match lamOf C g as ks with
    | some z => cLam f C z.1 z.2.1 z.2.2
    | none => cCall (f C) C g as ks pos) with
    | some t => some t
    | none => some .nil
  | .Attribute o x _ => match cFld C x o with
    | some t => some t
    | none => if C.hot = true then some .nil else none
  | .Dict keys values _ => if keys.length = values.length ∧ keys.length ≤ 15 then (cKeys keys).bind fun ks => (cL (f C) values).map (.dic ks) else none
  | _ => none
def cE : Nat → CC → Expr → Option T
  | 0, _, _ => none
  | n + 1, C, e => cE1 (cE n) C e
end Fz

/-! Ev6: a term tells what its text does: expressions. -/
namespace Fz
open PySem PySem.Spec PyProof.Rows L2

/-! ### functions -/
/-- arguments by mode, as they come -/
def RPs (K : PySem.W.Frag) (G H : Hp) : List Bool → List V → List D → Prop
  | [], [], [] => True
  | true :: ms, v :: vs, d :: ds => (∃ a xs es, v = V.ref a ∧ d = PyData.list es ∧ H a = some (HO.lst xs) ∧ G a = none ∧ RpA K G xs es) ∧ RPs K G H ms vs ds
  | false :: ms, v :: vs, d :: ds => Rp K G v d ∧ RPs K G H ms vs ds
  | _, _, _ => False
/-- the lists handed over -/
def insOf : List Bool → List V → List V
  | true :: ms, v :: vs => v :: insOf ms vs
  | _ :: ms, _ :: vs => insOf ms vs
  | _, _ => []
def ROuts (K : PySem.W.Frag) (G H : Hp) : List V → List (List D) → Prop
  | [], [] => True
  | v :: vs, o :: os => (∃ a xs, v = V.ref a ∧ H a = some (HO.lst xs) ∧ G a = none ∧ RpA K G xs o) ∧ ROuts K G H vs os
  | _, _ => False
/-- behind a call -/
structure Post (T : List (Addr × Str)) (G H G' H' : Hp) (ins : List V) : Prop where
  gm : Sub G G'
  sub : Sub G' H'
  gn : ∀ b, G b = none → St H b → V.ref b ∉ ins → G' b = none
  keep : ∀ b o, H b = some o → NoTbl o → V.ref b ∉ ins → H' b = some o
  dom : ∀ b, St H b → St H' b
  tabs : LamX.Tabs T H'
  nt : NTG G'
/-- behind a call that let an exception out -/
structure PostX (T : List (Addr × Str)) (H H' : Hp) : Prop where
  keep : ∀ b o, H b = some o → NoTbl o → H' b = some o
  dom : ∀ b, St H b → St H' b
  tabs : LamX.Tabs T H'
/-- the field that an exception of a class bears -/
def fieldOf (c : Str) : Str := if c = "TooMany" then "most" else if c = "BadText" then "line" else "name"
def atomV : D → V
  | .int i => .int i
  | .str x => .str x
  | .bool b => .bl b
  | _ => .non
/-- what an exception is: its class, its dict -/
def ExcAt (K : PySem.W.Frag) (c : Str) (as : List D) (cls : Value) (d : Option Addr) (H : Hp) : Prop := cls = .ref (He.ga K c) ∧ match as with
  | [] => d = none
  | [a] => ∃ dd, d = some dd ∧ H dd = some (.xd [(fieldOf c, atomV a)])
  | _ => False
def spF (T : List (Addr × Str)) (K : PySem.W.Frag) (F : FnSem) : Sp := fun vs H Q E => ∃ G ds, Sub G H ∧ LamX.Tabs T H ∧ NTG G ∧ vs.length = F.inout.length ∧ RPs K G H F.inout vs ds ∧ (insOf F.inout vs).Nodup ∧ match F.run ds with
  | .ok w => ∀ v G' H', Post T G H G' H' (insOf F.inout vs) → RN K G' H' H v w.1 → ROuts K G' H' (insOf F.inout vs) w.2 → Q v H'
  | .ex c as => (F.inout.all fun b => !b) = true ∧ ∀ H', PostX T H H' → ∀ cls d, ExcAt K c as cls d H' → E cls d H'
  | .no => False
/-- a def's promise; g: the repr of a thing that is being shown stands nowhere around -/
structure FnG (g : Bool) (P : Program) (w : World) (K : PySem.W.Frag) (mg : Str → Option Value) (base : Heap) (k : Nat) (f : Addr) (fd : FuncData) (ps : List Str) (sp : Sp) : Prop where
  len : ∀ vs H Q E, sp vs H Q E → vs.length = ps.length
  run : ∀ (A : Around) (outer : List Env) (s : Shared) (H : Hp) (args : Args) (us : List Value) (vs : List V) (Q : VK) (E : XK), Room k A → (g = true → A.guards = some []) → Env0 P w K mg base A outer s H → BindsTo s fd args (ps.zip us) → Vals vs us → sp vs H Q E →
    codeAny (model P w) A (.call (.ref f) args) (CR (L2.CX P w) outer P w H s Q E) s
theorem FnG.mono {g g' : Bool} {P : Program} {w : World} {K : PySem.W.Frag} {mg : Str → Option Value} {base : Heap} {j k : Nat} {f : Addr} {fd : FuncData} {ps : List Str} {sp : Sp} (F : FnG g P w K mg base j f fd ps sp) (h : j ≤ k) (hg : g = true → g' = true) : FnG g' P w K mg base k f fd ps sp :=
  ⟨F.len, fun A outer s H args us vs Q E hr ha => F.run A outer s H args us vs Q E (hr.mono h) fun z => ha (hg z)⟩
theorem FnG.fnOk {P : Program} {w : World} {K : PySem.W.Frag} {mg : Str → Option Value} {base : Heap} {k : Nat} {f : Addr} {fd : FuncData} {ps : List Str} {sp : Sp} (F : FnG false P w K mg base k f fd ps sp) : FnOk P w K mg base (L2.CX P w) k f fd ps sp :=
  ⟨F.len, fun A outer s H args us vs Q E hr => F.run A outer s H args us vs Q E hr (fun z => nomatch z)⟩
def FnIn (Φ : Fns) (T : List (Addr × Str)) (g : Bool) (X : Cx) (x : Str) (i : Nat) : Prop := ∃ f fd ps k, X.mg x = some (.ref f) ∧ PySem.W.keepIn X.K (.ref f) = true ∧ Binds X.K fd ps [] ∧ FnG g X.prog X.w X.K X.mg X.base k f fd ps (spF T X.K (Φ i)) ∧ Room k X.A ∧ ps.length = (Φ i).inout.length
def fnB (C : CC) (x : Str) : Bool := match C.blk with
  | none => true
  | some s => s.names.lookup x == some .cell
/-- an own error class that is made without arguments -/
def MkIn (X : Cx) (x : Str) : Prop := ∀ (p pos : Pos) (Y : Cx), Y.K = X.K → Y.mg = X.mg → Y.prog = X.prog → Y.w = X.w → Y.base = X.base → Room 1 Y.A → Gl Y x → PMk Y (.Call (.Name x p) [] [] pos) (fun _ H Q => Q (.ref (He.ga X.K x)) none H)
/-- the making of an own error with one argument -/
def tMkA (K : PySem.W.Frag) (x f : Str) (ta : TA) : L2.St → Hp → XK → Prop := fun σ H Q => ta σ H fun vs H1 => ∃ v, vs = [v] ∧ ∀ dd, H1 dd = none → Q (.ref (He.ga K x)) (some dd) (upd H1 dd (.xd [(f, v)]))
def MkInA (X : Cx) (x : Str) : Prop := ∀ (p pos : Pos) (e : Expr) (ta : TA) (Y : Cx), Y.K = X.K → Y.mg = X.mg → Y.prog = X.prog → Y.w = X.w → Y.base = X.base → PA Y [e] ta → starEach [e] Y.env = (false, eval e Y.env) :: starEach [] Y.env → Room 1 Y.A → Gl Y x → PMk Y (.Call (.Name x p) [e] [] pos) (tMkA X.K x (fieldOf x) ta)
/-- the wish by classes -/
abbrev wX (K : PySem.W.Frag) (W : EW) : WX := fun cls d _ H => ∃ c as, ExcAt K c as cls d H ∧ W c as H
/-- the heap grows, tables change -/
structure Grw (τ : List (Addr × Str)) (G H G' H' : Hp) : Prop where
  gm : Sub G G'
  hm : ∀ b o, H b = some o → NoTbl o → H' b = some o
  sub : Sub G' H'
  gn : ∀ b, G b = none → St H b → G' b = none
  nt : NTG G'
  tabs : LamX.Tabs τ H'
/-- what a def that catches makes of a call's reading; G0: what it made itself meanwhile -/
def TTc (τ : List (Addr × Str)) (K : PySem.W.Frag) (F : FnSem) : (XK → Hp → VK → Prop) → Hp → VK → Prop := fun tl H Q => LamX.Tabs τ H ∧ ∀ G0 H2, LamX.ExtN H H2 → LamX.Tabs τ H2 → Sub G0 H2 → NTG G0 → (∀ b, St H b → G0 b = none) →
  tl (fun cls d H' => ∃ c as r, ExcAt K c as cls d H' ∧ LamX.Tabs τ H' ∧ F.run [.tuple (.str c :: as)] = .ok (.v r, []) ∧ ∃ G', Sub G0 G' ∧ Sub G' H' ∧ NTG G' ∧ ∀ v G'' H'', Grw τ G' H' G'' H'' → Rp K G'' v r → Q v H'') H2
    (fun v H' => ∃ G' d r, Sub G0 G' ∧ Sub G' H' ∧ NTG G' ∧ LamX.Tabs τ H' ∧ Rp K G' v d ∧ F.run [.tuple [.none, d]] = .ok (.v r, []) ∧ ∀ v' G'' H'', Grw τ G' H' G'' H'' → Rp K G'' v' r → Q v' H'')
/-- a def that catches -/
def CatIn (Φ : Fns) (τ : List (Addr × Str)) (X : Cx) (x : Str) (k : Nat) : Prop := ∃ (g : Addr) (pg : Arguments) (bg : List Stmt) (sg : Scope) (dV kV doc pm cdv ct oc : Value) (an od : Option Addr) (osl : Array (Option Value)) (Ng : List Str) (a : Str),
  X.mg x = some (.ref g) ∧ PySem.W.keepIn X.K (.ref g) = true ∧ X.K.lookup g = some ⟨oc, od, .func (PySem.W.fnOf x x pg bg sg dV kV doc pm an cdv ct), osl⟩ ∧ PySem.W.codeIn X.K cdv x = true ∧ Binds X.K (PySem.W.fnOf x x pg bg sg dV kV doc pm an cdv ct) [a] [] ∧ FnScope Ng [a] sg ∧ Ng[0]? = some a ∧ Vis sg a ∧
  (a == ("__debug__" : Str)) = false ∧ (a == ("__classdict__" : Str)) = false ∧ (Room 8 X.A → LamX.GivesTo X Ng x sg g cdv bg a (X.env.qual ++ "<lambda>") (TTc τ X.K (Φ k)))
/-- what the making of a lambda asks -/
def LamIn (τ : List (Addr × Str)) (k : Nat) (X : Cx) : Prop := ∃ c P, LamX.TabB X.base X.mg c P ∧ X.env.code = .ref c ∧ (P, X.env.qual ++ "<lambda>") ∈ τ ∧ (∀ p ∈ τ, p.1 = P → p.2 = X.env.qual ++ "<lambda>") ∧ Room (k + 8) X.A
def FnInK (Φ : Fns) (τ : List (Addr × Str)) (n : Nat) (X : Cx) (x : Str) (i : Nat) : Prop := ∃ f fd ps k, X.mg x = some (.ref f) ∧ PySem.W.keepIn X.K (.ref f) = true ∧ Binds X.K fd ps [] ∧ FnG false X.prog X.w X.K X.mg X.base k f fd ps (spF τ X.K (Φ i)) ∧ k ≤ n ∧ ps.length = (Φ i).inout.length
/-- a dict of the module with text keys -/
def TabK (Γ : List D) (w : World) (K : PySem.W.Frag) (mg : Str → Option Value) (x : Str) (k : Nat) : Prop := ∃ (a : Addr) (es : Array DictEntry) (n : Nat) (kvs : List (D × D)), mg x = some (.ref a) ∧ KDict K w a es n ∧ Γ[k]? = some (.dict kvs) ∧ (∀ i, lkI i kvs = none) ∧
  ∀ s d, lkS s kvs = some d → ∃ u v, PySem.W.nsIn K a s = some (some u) ∧ RelV v u ∧ ∀ G, Rp K G v d
structure CtxOk (Φ : Fns) (Γ : List D) (T : Tb) (W : EW) (C : CC) (X : Cx) : Prop where
  N : X.N = C.N
  nd : C.N.Nodup
  sc : X.env.scope = C.sc
  fn : ∀ x, fnB C x = true → X.fn x = true
  calm : C.hot = false → X.calm = true
  tk : Takes X (wX X.K W)
  po : PySem.PassesOwn (model X.prog X.w) X.A X.env X.xe
  fns : ∀ x i, C.fns.lookup x = some i → FnIn Φ T.l C.g X x i
  cst : ∀ x k, C.cst.lookup x = some k → ∃ u v d, X.mg x = some u ∧ RelV v u ∧ Γ[k]? = some d ∧ ∀ G, Rp X.K G v d
  tab : ∀ x k, C.tbs.lookup x = some k → TabK Γ X.w X.K X.mg x k
  bi : ∀ x ∈ biNames, X.mg x = none
  hu : X.A.units + 64 < cLine
  gd : C.g = true → X.A.guards = some []
  ex : ∀ x, x ∈ C.exs → MkIn X x
  rm : C.exs ≠ [] → Room 1 X.A
  exa : ∀ x, x ∈ C.exa → MkInA X x
  rma : C.exa ≠ [] → Room 1 X.A
  ct : ∀ x k, C.cats.lookup x = some k → CatIn Φ T.l X x k
  lm : C.cats ≠ [] → LamIn T.l C.lk X
  lf : ∀ x i, C.lfns.lookup x = some i → FnInK Φ T.l C.lk X x i
  fad : ∀ x ∈ C.fvs, X.mg x = some (.ref (He.fAd X.K (x, none)))
  xis : ∀ xi, C.exc = some xi → ∀ (y : Str) (b : Bool) (i : Nat), xi.isx.lookup y = some b → C.N[i]? = some xi.e → Vis X.env.scope xi.e → oddName xi.e = false → Gl X y → oddName y = false → Gl X "isinstance" → ∀ p1 p2 p3 pos,
    PE X (.Call (.Name "isinstance" p1) [.Name xi.e p2, .Name y p3] [] pos) (fun σ H Q => σ[i]? = some (some (V.ref T.xa)) ∧ (∀ dd f, T.xo = some (dd, f) → H dd = some (.xd f)) ∧ Q (.bl b) H)
  xfl : ∀ xi, C.exc = some xi → ∀ (y : Str) (d : D) (t : Fz.T) (i : Nat), xi.fld.lookup y = some d → constT d = some t → C.N[i]? = some xi.e → Vis X.env.scope xi.e → oddName xi.e = false → ∀ p1 pos,
    PE X (.Attribute (.Name xi.e p1) y pos) (fun σ H Q => σ[i]? = some (some (V.ref T.xa)) ∧ (∀ dd f, T.xo = some (dd, f) → H dd = some (.xd f)) ∧ Q (atomV d) H)
  xhl : ∀ xi, C.exc = some xi → ∀ (y : Str) (bs : List Bool) (i : Nat), xi.hlp.lookup y = some bs → C.N[i]? = some xi.e → Vis X.env.scope xi.e → oddName xi.e = false → Gl X y → oddName y = false → ∀ p1 p2 pos,
    PE X (.Call (.Name y p1) [.Name xi.e p2] [] pos) (fun σ H Q => σ[i]? = some (some (V.ref T.xa)) ∧ LamX.Tabs T.l H ∧ (∀ dd f, T.xo = some (dd, f) → H dd = some (.xd f)) ∧ ∀ a H', (∀ b o, H b = some o → NoTbl o → H' b = some o) → LamX.Tabs T.l H' → ¬ St H a → H' a = some (.lst (bs.map V.bl)) → Q (.ref a) H')
  xts : ∀ xi, C.exc = some xi → ∀ (y fl : Str) (m n : Int) (i : Nat), xi.tst = some y → xi.fld.lookup fl = some (.int m) → C.N[i]? = some xi.e → Vis X.env.scope xi.e → oddName xi.e = false → Gl X y → oddName y = false → ∀ p1 p2 p3 j p4 pos,
    PE X (.Call (.Name y p1) [.Attribute (.Name xi.e p2) fl p3, .Constant (.int n) j p4] [] pos) (fun σ H Q => σ[i]? = some (some (V.ref T.xa)) ∧ LamX.Tabs T.l H ∧ (∀ dd f, T.xo = some (dd, f) → H dd = some (.xd f)) ∧ ∀ H', (∀ b o, H b = some o → NoTbl o → H' b = some o) → LamX.Tabs T.l H' → Q (.bl (decide (m = n))) H')
def SE (Φ : Fns) (Γ : List D) (T : Tb) (f : CC → Expr → Option Fz.T) : Prop := ∀ W C X e t, f C e = some t → CtxOk Φ Γ T W C X → PE X e (tE Φ Γ T W X.K t) ∧ PT X e (tT Φ Γ T W X.K t)

section
variable {Φ : Fns} {Γ : List D} {T : Tb} {W : EW} {X : Cx} {C : CC} {e a b c : Expr} {es : List Expr} {t : Fz.T} {pos : Pos} {f : CC → Expr → Option Fz.T}
theorem starE (he : ∀ x p, e ≠ .Starred x p) : starEach (e :: es) X.env = (false, eval e X.env) :: starEach es X.env := by
  cases e <;> first | rfl | exact absurd rfl (he _ _)
/-- a weaker reading -/
theorem pe_imp {te te' : TE} (h : PE X e te) (hi : ∀ σ H Q, te' σ H Q → te σ H Q) : PE X e te' := ⟨fun pins s σ H Q I q => h.run pins s σ H Q I (hi _ _ _ q)⟩
theorem pt_imp {te te' : TT} (h : PT X e te) (hi : ∀ σ H Q, te' σ H Q → te σ H Q) : PT X e te' := ⟨fun pins s σ H Q I q => h.run pins s σ H Q I (hi _ _ _ q)⟩
/-- a test by its value -/
theorem pt_val' (h : PE X e (tE Φ Γ T W X.K t)) (he : ∀ whole, isTrue e X.env whole = (do let v ← whole; standAt e.pos; holding [v] (truthy v)) := by intro _; rfl) : PT X e (tT Φ Γ T W X.K t) :=
  pt_imp (pt_val h he) fun σ H Q ⟨σD, G, S, h⟩ => one_rv kT S h fun x e G' H' S' st hd h v rv => by
    obtain ⟨r, σ'⟩ := x
    cases r with
    | v d =>
      cases d with
      | bool k =>
        cases rv
        exact ⟨_, rfl, NP.fin S' h⟩
      | _ => exact h.elim
    | _ => exact h.elim
theorem both (h : PE X e (tE Φ Γ T W X.K t)) (he : ∀ whole, isTrue e X.env whole = (do let v ← whole; standAt e.pos; holding [v] (truthy v)) := by intro _; rfl) : PE X e (tE Φ Γ T W X.K t) ∧ PT X e (tT Φ Γ T W X.K t) := ⟨h, pt_val' h he⟩
theorem const_ok {c : Const} {k : Nat} (h : cConst c = some t) : PE X (.Constant c k pos) (tE Φ Γ T W X.K t) := by
  cases c with
  | int n => cases h; exact pe_imp pe_int fun σ H Q ⟨σD, G, S, h⟩ => NP.fin S h _ (.int n)
  | bool n => cases h; exact pe_imp pe_bl fun σ H Q ⟨σD, G, S, h⟩ => NP.fin S h _ (.bl n)
  | none => cases h; exact pe_imp pe_non fun σ H Q ⟨σD, G, S, h⟩ => NP.fin S h _ .non
  | str n => cases h; exact pe_imp pe_str fun σ H Q ⟨σD, G, S, h⟩ => NP.fin S h _ (.str n)
  | _ => cases h
theorem odd_ok {x : Str} (h : oddName x = false) : (x == ("__debug__" : Str)) = false ∧ (x == ("__classdict__" : Str)) = false ∧ x ≠ "__name__" := by
  unfold oddName at h
  rw [Bool.or_eq_false_iff, Bool.or_eq_false_iff] at h
  exact ⟨h.1.1, h.1.2, by simpa using h.2⟩
theorem name_ok {x : Str} (ok : CtxOk Φ Γ T W C X) (h : cName C x = some t) : PE X (.Name x pos) (tE Φ Γ T W X.K t) := by
  unfold cName at h
  split at h
  · cases h
  · rename_i ho
    obtain ⟨o1, o2, o3⟩ := odd_ok (by simpa using ho)
    split at h
    · rename_i hv
      obtain ⟨i, e1, e2⟩ := Option.map_eq_some_iff.mp h
      subst e2
      refine pe_imp (pe_var (i := i) (by rw [ok.N]; exact ixOf_get e1) (by rw [ok.sc]; exact vis_of hv) o1 o2) fun σ H Q ⟨σD, G, S, h⟩ => ?_
      simp only [evE] at h
      split at h
      · rename_i d hd
        obtain ⟨v, z1, z2⟩ := S.val i d hd
        exact ⟨v, z1, NP.fin S h _ z2⟩
      · rename_i ds hd
        obtain ⟨v, vs, z1, z2⟩ := S.own i ds hd
        exact ⟨_, z1, NP.fin S h _ ⟨z1, _, hd, rfl⟩⟩
      · exact h.elim
    · split at h
      · rename_i hg
        obtain ⟨k, e1, e2⟩ := Option.map_eq_some_iff.mp h
        subst e2
        obtain ⟨u, v, d, h1, h2, h3, h4⟩ := ok.cst x k e1
        refine pe_imp (pe_glob (v := v) (u := u) (by unfold Gl Env.kindOf; rw [ok.sc]; exact glo_of hg) h1 h2 o1) fun σ H Q ⟨σD, G, S, h⟩ => ?_
        simp only [evE, h3] at h
        exact NP.fin S h _ (h4 G)
      · cases h
end
end Fz

/-! Ev22: xs[::-1], of a list, of a tuple. -/
namespace Fz
open PySem PySem.Spec PyProof.Rows L2
section
variable {prog : Program} {w : World} {A : Around} {E : Value → Shared → Prop} {s : Shared}
theorem adjust_rev (n : Nat) : Builtin.Slice.sliceAdjust none none (-1) (n : Int) = ((n : Int) - 1, -1) := by
  unfold Builtin.Slice.sliceAdjust
  rfl
theorem places_rev (n : Nat) : Builtin.Slice.slicePlaces ((n : Int) - 1) (-1) (-1) = n := by
  unfold Builtin.Slice.slicePlaces
  have h1 : ¬ ((-1 : Int) > 0) := by omega
  simp only [h1, if_false, Int.neg_neg, Int.ediv_one]
  split <;> omega
theorem pick_rev (xs : Array Value) : ((List.range xs.size).filterMap fun (m : Nat) => xs[((xs.size : Int) - 1 + (m : Int) * (-1)).toNat]?).toArray = xs.toList.reverse.toArray := by
  have e : (fun (m : Nat) => xs[((xs.size : Int) - 1 + (m : Int) * (-1)).toNat]?) = fun m => xs[xs.size - 1 - m]? := by
    funext m
    have : ((xs.size : Int) - 1 + (m : Int) * (-1)).toNat = xs.size - 1 - m := by omega
    rw [this]
  rw [e]
  have h : (List.range xs.size).filterMap (fun m => xs[xs.size - 1 - m]?) = ((List.range xs.size).map fun k => xs.size - 1 - k).filterMap (xs[·]?) := by
    rw [List.filterMap_map]
    rfl
  rw [h, PySem.W.krv_range, List.filterMap_reverse, PySem.W.krv_all]
theorem sliceApplied_rev {sl : Addr} {vl vu vs : Value} {n : Nat} {Q : Int × Int × Nat → Shared → Prop} (hs : s.heap.IsSliceOf sl vl vu vs) (pl : IsPart vl none) (pu : IsPart vu none) (ps : IsPart vs (some (-1)))
    (h : Q ((n : Int) - 1, -1, n) s) : wpAny (model prog w) A (Builtin.Slice.sliceApplied (.ref sl) (pure (n : Int))) Q E s := by
  obtain ⟨os, hos, hcs, hds⟩ := id hs
  unfold Builtin.Slice.sliceApplied Builtin.Slice.sliceFields
  refine wpAny_bind (wpAny_bind (wpAny_field hos hds (x := vl) rfl (wpAny_bind (wpAny_field hos hds (x := vu) rfl (wpAny_bind (wpAny_field hos hds (x := vs) rfl (wpAny_pure ?_)))))))
  refine wpAny_bind (HT.slicePart_ ps ?_)
  show wpAny _ _ (if ((-1 : Int) == 0) = true then _ else _) _ _ s
  rw [if_neg (by decide)]
  refine wpAny_bind (HT.slicePart_ pl (wpAny_bind (HT.slicePart_ pu (wpAny_bind (wpAny_pure ?_)))))
  show wpAny _ _ (match Builtin.Slice.sliceAdjust none none (-1) (n : Int) with | (lo, hi) => pure (lo, (-1 : Int), Builtin.Slice.slicePlaces lo hi (-1))) _ _ s
  rw [adjust_rev n]
  show wpAny _ _ (pure ((n : Int) - 1, (-1 : Int), Builtin.Slice.slicePlaces ((n : Int) - 1) (-1) (-1))) _ _ s
  rw [places_rev]
  exact wpAny_pure h
theorem getItem_tuple_rev {t sl : Addr} {items : Array Value} {vl vu vs : Value} {Q : Value → Shared → Prop} (ht : IsTup s.heap t items) (hs : s.heap.IsSliceOf sl vl vu vs) (pl : IsPart vl none) (pu : IsPart vu none) (ps : IsPart vs (some (-1)))
    (h : Q (.ref s.heap.objs.size) { s with heap := s.heap.push { cls := .type "tuple", data := .seq items.toList.reverse.toArray } })
    (hsz : items.size ≤ sizeLine) : wpAny (model prog w) A (getItem (.ref t) (.ref sl)) Q E s := by
  have htake : sizeOk (.seq items.toList.reverse.toArray) := by
    show items.toList.reverse.toArray.size ≤ sizeLine
    rw [List.size_toArray, List.length_reverse, Array.length_toList]
    exact hsz
  obtain ⟨os, hos, hcs, hds⟩ := id hs
  have hTs : s.TypeIs (.ref sl) "slice" := ⟨os, hos, hcs⟩
  unfold getItem
  try with_reducible refine wpAny_holding ?_
  first | refine wpAny_bind (wpAny_pure ?_) | skip
  refine wpAny_bind (wpAny_sequenceKey ht.typeIs (by decide) ?_)
  refine wpAny_bind (wpAny_callSpecial?_slot (name := Str.ofString "__getitem__") ht.typeIs PyProof.Rows.slot_tuple_getitem
    (wpAny_call_entry PyProof.Rows.slot_tuple_getitem ht.typeIs entry_tuple_getitem ?_ (args_tuple_getitem _ _)))
  show wpAny _ _ (Builtin.Tuple.tupleItemsOf (.ref t) >>= _) _ _ s
  refine wpAny_bind (tupleItemsOf_ ht ?_)
  refine wpAny_bind (wpAny_typeOf hTs ?_)
  rw [if_pos (by decide)]
  refine wpAny_bind (sliceApplied_rev hs pl pu ps ?_)
  have hno : ¬ ((((items.size : Int) - 1) == 0 && (-1 : Int) == 1 && items.size == items.size) = true) := by
    intro q
    rw [Bool.and_eq_true, Bool.and_eq_true] at q
    have q1 : (-1 : Int) = 1 := eq_of_beq q.1.2
    omega
  show wpAny _ _ (if (((items.size : Int) - 1) == 0 && (-1 : Int) == 1 && items.size == items.size) = true then _ else _) _ _ s
  rw [if_neg hno, pick_rev]
  first
    | exact wpAny_bind (m := Builtin.Tuple.tupleExact _) (wpAny_newObj_type (wpAny_pure ⟨_, rfl, wpAny_pure h⟩) htake)
    | exact wpAny_bind (m := Builtin.Tuple.tupleExact _) (wpAny_newObj_type (wpAny_bind (wpAny_pure (wpAny_pure ⟨_, rfl, wpAny_pure h⟩))) htake)
    | exact wpAny_bind (wpAny_bind (m := Builtin.Tuple.tupleExact _) (wpAny_newObj_type (wpAny_pure (wpAny_pure ⟨_, rfl, wpAny_pure h⟩)) htake))
    | exact wpAny_bind (wpAny_bind (m := Builtin.Tuple.tupleExact _) (wpAny_newObj_type (wpAny_pure ⟨_, rfl, wpAny_pure h⟩) htake))
end
/-- what it is, by values -/
def tRevT (K : PySem.W.Frag) (te : TE) : TE := fun σ H Q => te σ H fun x H1 => ∃ a xs, x = .ref a ∧ SqT K H1 a xs ∧ ∀ p, H1 p = none → Q (.ref p) (upd H1 p (.tup xs.reverse))
section
variable {X : Cx}
theorem pe_revA {e : Expr} {te : TE} {k : Nat} {p1 p2 p3 pos : Pos} (he : PE X e te) : PE X (.Subscript e (.Slice none none (some (.UnaryOp .USub (.Constant (.int 1) k p1) p2)) p3) pos) (fun σ H Q => te σ H fun x H1 => ∃ a xs, x = .ref a ∧ ((SqL X.K H1 a xs ∧ ∀ p, H1 p = none → Q (.ref p) (upd H1 p (.lst xs.reverse))) ∨ (SqT X.K H1 a xs ∧ ∀ p, H1 p = none → Q (.ref p) (upd H1 p (.tup xs.reverse))))) := by
  refine ⟨fun pins s σ H Q I h => ?_⟩
  refine Subscript_ (thn (he.run pins s σ H _ I h) fun v s1 ⟨x, H1, I1, r1, q1⟩ => ?_)
  obtain ⟨a, xs, ex, hq⟩ := q1
  subst ex
  cases r1
  have hst : PO X (some (.UnaryOp .USub (.Constant (.int 1) k p1) p2)) (tPart (tUn (rU fun i => .int (-i)) (tC (.int 1)))) := po_some (pe_un un_neg pe_int)
  refine wpAny_Slice (thn (po_none.run pins s1 σ H1 (fun o H2 => o = none ∧ H2 = H1) I1 ⟨rfl, rfl⟩) fun vl s2 ⟨l, H2, I2, pl, el, e2⟩ => ?_)
  subst el e2
  refine thn (po_none.run pins s2 σ H2 (fun o H3 => o = none ∧ H3 = H2) I2 ⟨rfl, rfl⟩) fun vu s3 ⟨u, H3, I3, pu, eu, e3⟩ => ?_
  subst eu e3
  refine thn (hst.run pins s3 σ H3 (fun o H4 => o = some (-1) ∧ H4 = H3) I3 ⟨1, rfl, -1, rfl, rfl, rfl⟩) fun vs s4 ⟨o, H4, I4, ps, eo, e4⟩ => ?_
  subst eo e4
  have I5 : Inv X pins σ H4 { s4 with heap := s4.heap.push { cls := .type "slice", data := .fields #[vl, vu, vs] } } := I4.kept (t' := s4.toks) fun b ob q => Heap.get?_push_of_some _ q
  show wpAny (model X.prog X.w) X.A (subscriptTail e (.Slice none none (some (.UnaryOp .USub (.Constant (.int 1) k p1) p2)) p3) (.ref a) (.ref s4.heap.objs.size)) (EP X pins σ Q) X.xe { s4 with heap := s4.heap.push { cls := .type "slice", data := .fields #[vl, vu, vs] } }
  rcases hq with ⟨hx, q⟩ | ⟨hx, q⟩
  · obtain ⟨its, r, ht, hz⟩ := I5.list hx
    have hlen := r.length
    refine tail_any (ops := [.ref a, .ref s4.heap.objs.size]) ht.isList.typeIs (PySem.slot_list_getitem.lookup) ?_ (by with_unfolding_all rfl)
    refine wpAny_getItem_list_slice ht.isList (Heap.IsSliceOf.new _ vl vu vs) pl pu ps (by decide) ?_ (by rw [List.size_toArray]; omega)
    rw [PySem.W.krv_pick]
    refine ⟨.ref _, _, I5.laid (t' := s4.toks) (o := .lst xs.reverse) (fun b ob q => Heap.get?_push_of_some _ q) (Nat.le_refl _) ?_, rfl, q _ (I5.hok.fresh (Nat.le_refl _))⟩
    exact ⟨by rw [List.length_reverse]; exact hz, _, 0, r.reverse, Heap.get?_push_size _ rfl⟩
  · obtain ⟨its, r, ht, hz⟩ := I5.tuple hx
    have hlen := r.length
    refine tail_any (ops := [.ref a, .ref s4.heap.objs.size]) ht.typeIs (PyProof.Rows.slot_tuple_getitem.lookup) ?_ (by with_unfolding_all rfl)
    refine getItem_tuple_rev ht (Heap.IsSliceOf.new _ vl vu vs) pl pu ps ?_ (by rw [List.size_toArray]; omega)
    refine ⟨.ref _, _, I5.laid (t' := s4.toks) (o := .tup xs.reverse) (fun b ob q => Heap.get?_push_of_some _ q) (Nat.le_refl _) ?_, rfl, q _ (I5.hok.fresh (Nat.le_refl _))⟩
    exact ⟨by rw [List.length_reverse]; exact hz, _, r.reverse, IsTup.new _ _⟩
end
end Fz

/-! Ev25: operations on data raise nothing. -/
namespace Fz
open PySem
theorem eqD_nx (a b : D) : NoEx (eqD a b) := by unfold eqD; exact NoEx.ite NoEx.ok NoEx.no
theorem ltD_nx (a b : D) : NoEx (ltD a b) := by unfold ltD; exact NoEx.ite NoEx.ok NoEx.no
theorem inD_nx (a b : D) : NoEx (inD a b) := by
  cases b <;> unfold inD <;> first | exact NoEx.no | exact NoEx.ite NoEx.ok NoEx.no | (dsimp only; unfold inS; split <;> first | exact NoEx.no | (split <;> first | exact NoEx.ok | exact NoEx.no))
theorem isD_nx (a b : D) : NoEx (isD a b) := by
  cases b <;> cases a <;> first | exact NoEx.no | exact NoEx.ok
theorem cmpB_nx (o : CmpK) (a b : D) : NoEx (cmpB o a b) := by
  cases o <;> first
    | (have : NoEx (eqD a b) := eqD_nx a b; cases a <;> cases b <;> exact this)
    | (have : NoEx ((eqD a b).map (!·)) := (eqD_nx a b).map; cases a <;> cases b <;> exact this)
    | (have : NoEx (ltD a b) := ltD_nx a b; cases a <;> cases b <;> first | exact this | exact NoEx.ok)
    | (have : NoEx (ltD b a) := ltD_nx b a; cases a <;> cases b <;> first | exact this | exact NoEx.ok)
    | (have : NoEx ((ltD b a).map (!·)) := (ltD_nx b a).map; cases a <;> cases b <;> first | exact this | exact NoEx.ok)
    | (have : NoEx ((ltD a b).map (!·)) := (ltD_nx a b).map; cases a <;> cases b <;> first | exact this | exact NoEx.ok)
    | (have : NoEx (isD a b) := isD_nx a b; cases a <;> cases b <;> exact this)
    | (have : NoEx ((isD a b).map (!·)) := (isD_nx a b).map; cases a <;> cases b <;> exact this)
    | (have : NoEx (inD a b) := inD_nx a b; cases a <;> cases b <;> exact this)
    | (have : NoEx ((inD a b).map (!·)) := (inD_nx a b).map; cases a <;> cases b <;> exact this)
theorem cmpD_nx (o : CmpK) (a b : D) : NoEx (cmpD o a b) := (cmpB_nx o a b).map
theorem binD_nx (o : BinK) (a b : D) : NoEx (binD o a b) := by
  unfold binD
  split <;> first | exact NoEx.ok | exact NoEx.no | exact NoEx.ite NoEx.ok NoEx.no | exact NoEx.ite NoEx.ok (NoEx.ite NoEx.ok NoEx.no)
theorem ixD_nx (a b : D) : NoEx (ixD a b) := by
  unfold ixD
  split
  · split <;> first | exact NoEx.ok | exact NoEx.no
  · split <;> first | exact NoEx.ok | exact NoEx.no
  · split <;> first | exact NoEx.ok | exact NoEx.no
  · split <;> first | exact NoEx.ok | exact NoEx.no
  · refine NoEx.ite ?_ NoEx.no
    split <;> first | exact NoEx.ok | exact NoEx.no
  · exact NoEx.no
theorem slcD_nx (a : D) (l h : Option Int) : NoEx (slcD a l h) := by
  unfold slcD
  split <;> first | exact NoEx.ok | exact NoEx.no
theorem rngD_nx (as : List D) : NoEx (rngD as) := by
  unfold rngD
  split <;> first | exact NoEx.no | exact NoEx.ite NoEx.ok NoEx.no
theorem reprD_nx (d : D) : NoEx (reprD d) := by
  unfold reprD
  split <;> first | exact NoEx.ok | exact NoEx.no | exact NoEx.ite NoEx.ok NoEx.no
theorem biD_nx (k : BiK) (as : List D) : NoEx (biD k as) := by
  unfold biD
  split <;> first | exact NoEx.ok | exact NoEx.no | exact reprD_nx _ | exact NoEx.ite NoEx.ok NoEx.no | exact NoEx.ite NoEx.no NoEx.ok | (split <;> first | exact NoEx.ok | exact NoEx.no | exact NoEx.ite NoEx.ok NoEx.no)
theorem mtD_nx (k : MtK) (a b : D) : NoEx (mtD k a b) := by
  unfold mtD
  split <;> first | exact NoEx.no | (refine NoEx.ite ?_ NoEx.no; first | exact NoEx.ok | (split <;> first | exact NoEx.ok | exact NoEx.no))
mutual
theorem stD_nx : ∀ (g : T) (d : D) (σ : Sts), NoEx (stD g d σ)
  | .gn i, d, σ => by simp only [stD]; exact NoEx.ite NoEx.ok NoEx.no
  | .gt gs, d, σ => by
    cases d with
    | tuple ds => simp only [stD]; exact stDs_nx gs ds σ
    | list ds => simp only [stD]; exact stDs_nx gs ds σ
    | _ => exact NoEx.no
  | .nil, d, σ | .cons _ _, d, σ | .var _, d, σ | .int _, d, σ | .bl _, d, σ | .non, d, σ | .str _, d, σ | .glb _, d, σ | .bin _ _ _, d, σ | .neg _, d, σ | .cmp _ _ _, d, σ | .chn _ _ _ _ _, d, σ | .not _, d, σ | .and _ _, d, σ | .or _ _, d, σ | .ifx _ _ _, d, σ
  | .tup _, d, σ | .lst _, d, σ | .ix _ _, d, σ | .slc _ _ _, d, σ | .lc _ _ _ _ _, d, σ | .itv _, d, σ | .itr _, d, σ | .itz _ _, d, σ | .ite _, d, σ | .rgl _, d, σ | .rgt _, d, σ | .bi _ _, d, σ | .mt _ _ _, d, σ | .pop _, d, σ | .popa _ _, d, σ | .call _ _, d, σ
  | .asg _ _, d, σ | .par _ _, d, σ | .unp _ _, d, σ | .sti _ _ _, d, σ | .ret _, d, σ | .iff _ _ _, d, σ | .forr _ _ _, d, σ | .whl _ _, d, σ | .app _ _, d, σ | .ext _ _, d, σ | .drp _, d, σ | .rse _ _, d, σ | .lam _ _ _, d, σ | .lamv _ _ _ _, d, σ | .dic _ _, d, σ | .xc _ _, d, σ => by cases d <;> exact NoEx.no
theorem stDs_nx : ∀ (g : T) (ds : List D) (σ : Sts), NoEx (stDs g ds σ)
  | .nil, ds, σ => by cases ds <;> first | exact NoEx.ok | exact NoEx.no
  | .cons g gs, ds, σ => by
    cases ds with
    | nil => exact NoEx.no
    | cons d ds => simp only [stDs]; exact (stD_nx g d σ).bind fun σ => stDs_nx gs ds σ
  | .gn _, ds, σ | .gt _, ds, σ | .var _, ds, σ | .int _, ds, σ | .bl _, ds, σ | .non, ds, σ | .str _, ds, σ | .glb _, ds, σ | .bin _ _ _, ds, σ | .neg _, ds, σ | .cmp _ _ _, ds, σ | .chn _ _ _ _ _, ds, σ | .not _, ds, σ | .and _ _, ds, σ | .or _ _, ds, σ | .ifx _ _ _, ds, σ
  | .tup _, ds, σ | .lst _, ds, σ | .ix _ _, ds, σ | .slc _ _ _, ds, σ | .lc _ _ _ _ _, ds, σ | .itv _, ds, σ | .itr _, ds, σ | .itz _ _, ds, σ | .ite _, ds, σ | .rgl _, ds, σ | .rgt _, ds, σ | .bi _ _, ds, σ | .mt _ _ _, ds, σ | .pop _, ds, σ | .popa _ _, ds, σ | .call _ _, ds, σ
  | .asg _ _, ds, σ | .par _ _, ds, σ | .unp _ _, ds, σ | .sti _ _ _, ds, σ | .ret _, ds, σ | .iff _ _ _, ds, σ | .forr _ _ _, ds, σ | .whl _ _, ds, σ | .app _ _, ds, σ | .ext _ _, ds, σ | .drp _, ds, σ | .rse _ _, ds, σ | .lam _ _ _, ds, σ | .lamv _ _ _ _, ds, σ | .dic _ _, ds, σ | .xc _ _, ds, σ => by cases ds <;> exact NoEx.no
end
theorem stR_nx (g : T) (r : R) (σ : Sts) : NoEx (stR g r σ) := by
  cases g <;> first | (simp only [stR]; exact NoEx.ite NoEx.ok NoEx.no) | (simp only [stR]; exact stD_nx _ _ _)
theorem setQ_nx : ∀ (is : List Nat) (qs : List Slot) (σ : Sts), NoEx (setQ is qs σ)
  | [], [], σ => NoEx.ok
  | [], _ :: _, σ => NoEx.no
  | _ :: _, [], σ => NoEx.no
  | i :: is, q :: qs, σ => by
    simp only [setQ]
    exact NoEx.ite (setQ_nx is qs _) NoEx.no
theorem passArgs_nx : ∀ (ms : List Bool) (rs : List R) (σ : Sts), NoEx (passArgs ms rs σ)
  | [], [], σ => NoEx.ok
  | [], _ :: _, σ => NoEx.no
  | true :: ms, [], σ => NoEx.no
  | false :: ms, [], σ => NoEx.no
  | true :: ms, .v _ :: rs, σ => NoEx.no
  | true :: ms, .t _ :: rs, σ => NoEx.no
  | true :: ms, .p i :: rs, σ => by
    simp only [passArgs]
    split
    · refine (passArgs_nx ms rs σ).bind fun q => ?_
      split <;> first | exact NoEx.ok | exact NoEx.no
    · exact NoEx.no
  | false :: ms, r :: rs, σ => by
    have e : passArgs (false :: ms) (r :: rs) σ = (passArgs ms rs (frz σ r).2).bind fun w => .ok ((frz σ r).1 :: w.1, w.2) := by cases r <;> rfl
    rw [e]
    exact (passArgs_nx ms rs _).bind fun q => NoEx.ok
theorem backArgs_nx : ∀ (ms : List Bool) (rs : List R) (os : List (List D)) (σ : Sts), NoEx (backArgs ms rs os σ)
  | [], rs, os, σ => by cases rs <;> cases os <;> first | exact NoEx.ok | exact NoEx.no
  | true :: ms, rs, os, σ => by
    cases rs with
    | nil => cases os <;> exact NoEx.no
    | cons r rs =>
      cases r with
      | v d => cases os <;> exact NoEx.no
      | t d => cases os <;> exact NoEx.no
      | p i =>
        cases os with
        | nil => exact NoEx.no
        | cons o os => simp only [backArgs]; exact backArgs_nx ms rs os _
  | false :: ms, rs, os, σ => by
    cases rs with
    | nil => cases os <;> exact NoEx.no
    | cons r rs =>
      have e : backArgs (false :: ms) (r :: rs) os σ = backArgs ms rs os σ := by cases r <;> rfl
      rw [e]
      exact backArgs_nx ms rs os σ
end Fz

/-! Ev7: a term tells what its text does: operators, displays, calls. -/
namespace Fz
open PySem PySem.Spec PyProof.Rows L2

theorem bK_op {o : Operator} {k : BinK} (h : bK o = some k) : bOp k = o := by cases o <;> cases h <;> rfl
theorem cK_op (o : CmpOp) : cOp (cK o) = o := by cases o <;> rfl
section
variable {Φ : Fns} {Γ : List D} {τ : Tb} {W : EW} {X : Cx} {C : CC} {e a b c : Expr} {es : List Expr} {t ta tb tc : T} {pos : Pos} {f : CC → Expr → Option T}

theorem bin_ok {o : Operator} {k : BinK} (hk : bK o = some k) (ha : PE X a (tE Φ Γ τ W X.K ta)) (hb : PE X b (tE Φ Γ τ W X.K tb)) : PE X (.BinOp a o b pos) (tE Φ Γ τ W X.K (.bin k ta tb)) := by
  have ho := op_bin (X := X) k
  rw [bK_op hk] at ho
  refine pe_imp (pe_op ho ha hb) fun σ H Q ⟨σD, G, S, h⟩ => two_op kE S h fun x y G' H' S' st hd h v w c1 c2 => ?_
  obtain ⟨r, e3, h⟩ := kE.ok h (binD_nx _ _ _)
  exact ⟨G', _, _, r, S'.sub, c1, c2, e3, NP.out S' h⟩
theorem neg_ok (ha : PE X a (tE Φ Γ τ W X.K ta)) : PE X (.UnaryOp .USub a pos) (tE Φ Γ τ W X.K (.neg ta)) := by
  refine pe_imp (pe_un un_neg ha) fun σ H Q ⟨σD, G, S, h⟩ => one_rv kE S h fun x e G' H' S' st hd h v rv => ?_
  obtain ⟨r, σ1⟩ := x
  cases r with
  | v d =>
    cases d with
    | int i =>
      cases rv
      exact ⟨i, rfl, NP.fin S' h _ (.int _)⟩
    | _ => exact h.elim
  | _ => exact h.elim
theorem evT_of {σD : Sts} {w : Bool × Sts} (h : evT Φ Γ t σD = .ok w) : evE Φ Γ t σD = .ok (.v (.bool w.1), w.2) := by
  obtain ⟨q, e1, e2⟩ := bind_ok h
  rw [e1, (evT_E e1 e2).2]
theorem evT_in {σD : Sts} {q : Bool × Sts} (h : evE Φ Γ t σD = .ok (.v (.bool q.1), q.2)) : evT Φ Γ t σD = .ok q := by
  unfold evT
  rw [h]
  rfl
/-- from an expression's term to a test's -/
theorem toT {Q : Bool → Hp → Prop} {σD : Sts} {G H : Hp} {σ : L2.St} (h : NP τ W X.K σ (wT Q) σD G H (evT Φ Γ t σD)) : NP τ W X.K σ (wT Q) σD G H ((evE Φ Γ t σD).bind boolOf) := h
theorem not_ok (ha : PE X a (tE Φ Γ τ W X.K ta) ∧ PT X a (tT Φ Γ τ W X.K ta)) : PE X (.UnaryOp .Not a pos) (tE Φ Γ τ W X.K (.not ta)) ∧ PT X (.UnaryOp .Not a pos) (tT Φ Γ τ W X.K (.not ta)) := by
  constructor
  · exact pe_imp (pe_not ha.1) fun σ H Q ⟨σD, G, S, h⟩ => bool_op kE S h fun w G' H' S' st hd h => ⟨_, rfl, NP.fin S' h _ (.bl _)⟩
  · refine pt_imp (pt_not ha.2) fun σ H Q ⟨σD, G, S, h⟩ => ?_
    have h : NP τ W X.K σ (wT Q) σD G H ((evE Φ Γ ta σD).bind fun x => (boolOf x).bind fun q => boolOf (.v (.bool (!q.1)), q.2)) := by
      have e : evT Φ Γ (.not ta) σD = ((evE Φ Γ ta σD).bind fun x => (boolOf x).bind fun q => boolOf (.v (.bool (!q.1)), q.2)) := by
        show ((evE Φ Γ ta σD).bind fun x => (boolOf x).bind fun q => Res.ok (.v (.bool (!q.1)), q.2)).bind boolOf = _
        cases evE Φ Γ ta σD with
        | ok x => show ((boolOf x).bind fun q => Res.ok (.v (.bool (!q.1)), q.2)).bind boolOf = (boolOf x).bind _; cases boolOf x <;> rfl
        | ex c as => rfl
        | no => rfl
      rw [← e]; exact h
    exact test_op kT S h fun w G' H' S' st hd h => NP.fin S' h
theorem rv_back {K : PySem.W.Frag} {G H G1 H1 G2 H2 : Hp} {σD σ1 σ2 : Sts} {σV : L2.St} {v : V} {r : R} (st : Step σD σV G H σ1 σV G1 H1) (rv : RV K G2 H2 σ2 σV H1 v r) : RV K G2 H2 σ2 σV H v r := by
  cases r with
  | v d => exact rv
  | p i => exact rv
  | t ds =>
    obtain ⟨a, vs, e, h1, h2, h3, h4, h5⟩ := rv
    exact ⟨a, vs, e, h1, h2, h3, fun z => h4 (st.dom a z), h5⟩
theorem evT_br {ta a b : T} {σD : Sts} : (evE Φ Γ ta σD).bind (fun x => (boolOf x).bind fun q => match q.1 with | true => evE Φ Γ a q.2 | false => evE Φ Γ b q.2) = (evE Φ Γ (.ifx ta a b) σD) := rfl
/-- a test behind a test -/
theorem evT_then {x : Res (R × Sts)} {f : Bool × Sts → Res (R × Sts)} : (x.bind fun x => (boolOf x).bind f).bind boolOf = x.bind fun x => (boolOf x).bind fun q => (f q).bind boolOf := by
  cases x with
  | ok x => show ((boolOf x).bind f).bind boolOf = (boolOf x).bind _; cases boolOf x <;> rfl
  | ex c as => rfl
  | no => rfl
theorem and_ok {r : List Expr} {tr : T} (ha : PE X a (tE Φ Γ τ W X.K ta) ∧ PT X a (tT Φ Γ τ W X.K ta)) (hr : PE X (.BoolOp .And (b :: r) pos) (tE Φ Γ τ W X.K tr) ∧ PW X (.BoolOp .And (b :: r) pos) (tT Φ Γ τ W X.K tr)) :
    PE X (.BoolOp .And (a :: b :: r) pos) (tE Φ Γ τ W X.K (.and ta tr)) ∧ PW X (.BoolOp .And (a :: b :: r) pos) (tT Φ Γ τ W X.K (.and ta tr)) := by
  constructor
  · refine pe_imp (pe_and ha.1 hr.1) fun σ H Q ⟨σD, G, S, h⟩ => bool_op kE S h fun w G' H' S' st hd h => ⟨_, rfl, ?_⟩
    obtain ⟨k, σ1⟩ := w
    cases k with
    | true => exact ⟨σ1, G', S', h⟩
    | false => exact NP.fin S' h _ (.bl _)
  · refine ⟨fun wh pins s σ H Q I h => (pw_and ha.2 hr.2).run wh pins s σ H Q I ?_⟩
    obtain ⟨σD, G, S, h⟩ := h
    have h : NP τ W X.K σ (wT Q) σD G H (((evE Φ Γ ta σD).bind fun x => (boolOf x).bind fun q => match q.1 with | true => evE Φ Γ tr q.2 | false => .ok (.v (.bool false), q.2)).bind boolOf) := h
    rw [evT_then] at h
    refine test_op kT S h fun w G' H' S' st hd h => ?_
    obtain ⟨k, σ1⟩ := w
    cases k with
    | true => exact ⟨σ1, G', S', h⟩
    | false => exact NP.fin S' h
theorem or_ok {r : List Expr} {tr : T} (ha : PE X a (tE Φ Γ τ W X.K ta) ∧ PT X a (tT Φ Γ τ W X.K ta)) (hr : PE X (.BoolOp .Or (b :: r) pos) (tE Φ Γ τ W X.K tr) ∧ PW X (.BoolOp .Or (b :: r) pos) (tT Φ Γ τ W X.K tr)) :
    PE X (.BoolOp .Or (a :: b :: r) pos) (tE Φ Γ τ W X.K (.or ta tr)) ∧ PW X (.BoolOp .Or (a :: b :: r) pos) (tT Φ Γ τ W X.K (.or ta tr)) := by
  constructor
  · refine pe_imp (pe_or ha.1 hr.1) fun σ H Q ⟨σD, G, S, h⟩ => bool_op kE S h fun w G' H' S' st hd h => ⟨_, rfl, ?_⟩
    obtain ⟨k, σ1⟩ := w
    cases k with
    | false => exact ⟨σ1, G', S', h⟩
    | true => exact NP.fin S' h _ (.bl _)
  · refine ⟨fun wh pins s σ H Q I h => (pw_or ha.2 hr.2).run wh pins s σ H Q I ?_⟩
    obtain ⟨σD, G, S, h⟩ := h
    have h : NP τ W X.K σ (wT Q) σD G H (((evE Φ Γ ta σD).bind fun x => (boolOf x).bind fun q => match q.1 with | true => .ok (.v (.bool true), q.2) | false => evE Φ Γ tr q.2).bind boolOf) := h
    rw [evT_then] at h
    refine test_op kT S h fun w G' H' S' st hd h => ?_
    obtain ⟨k, σ1⟩ := w
    cases k with
    | false => exact ⟨σ1, G', S', h⟩
    | true => exact NP.fin S' h
theorem ands_ok (IH : SE Φ Γ τ f) (ok : CtxOk Φ Γ τ W C X) : ∀ {es : List Expr} {t : T}, cAnd (f C) es = some t → PE X (.BoolOp .And es pos) (tE Φ Γ τ W X.K t) ∧ PW X (.BoolOp .And es pos) (tT Φ Γ τ W X.K t)
  | [], _, h => by cases h
  | [a], t, h => by
    have h := IH W C X a t h ok
    exact ⟨pe_one h.1, pw_and1 h.2⟩
  | a :: b :: r, t, h => by
    obtain ⟨ta, e1, h⟩ := Option.bind_eq_some_iff.mp h
    obtain ⟨tr, e2, h⟩ := Option.map_eq_some_iff.mp h
    subst h
    exact and_ok (IH W C X a ta e1 ok) (ands_ok IH ok e2)
theorem ors_ok (IH : SE Φ Γ τ f) (ok : CtxOk Φ Γ τ W C X) : ∀ {es : List Expr} {t : T}, cOr (f C) es = some t → PE X (.BoolOp .Or es pos) (tE Φ Γ τ W X.K t) ∧ PW X (.BoolOp .Or es pos) (tT Φ Γ τ W X.K t)
  | [], _, h => by cases h
  | [a], t, h => by
    have h := IH W C X a t h ok
    exact ⟨pe_one h.1, pw_or1 h.2⟩
  | a :: b :: r, t, h => by
    obtain ⟨ta, e1, h⟩ := Option.bind_eq_some_iff.mp h
    obtain ⟨tr, e2, h⟩ := Option.map_eq_some_iff.mp h
    subst h
    exact or_ok (IH W C X a ta e1 ok) (ors_ok IH ok e2)
theorem cmp_read {o : CmpK} {σ : L2.St} {H : Hp} {Q : VK} (h : tE Φ Γ τ W X.K (.cmp o ta tb) σ H Q) : tOp (rCmp X.K o) (tE Φ Γ τ W X.K ta) (tE Φ Γ τ W X.K tb) σ H Q := by
  obtain ⟨σD, G, S, h⟩ := h
  refine two_op kE S h fun x y G' H' S' st hd h v w c1 c2 => ?_
  obtain ⟨r, e3, h⟩ := kE.ok h (cmpD_nx _ _ _)
  obtain ⟨k, e4, e5⟩ := res_map_ok e3
  subst e5
  exact ⟨G', _, _, k, S'.sub, c1, c2, e4, NP.fin S' h _ (.bl _)⟩
/-- from a value's reading to a test's -/
theorem tT_E {σ : L2.St} {H : Hp} {Q : Bool → Hp → Prop} (h : tT Φ Γ τ W X.K t σ H Q) : tE Φ Γ τ W X.K t σ H fun x H' => ∃ k, x = .bl k ∧ Q k H' := by
  obtain ⟨σD, G, S, h⟩ := h
  refine one_rv kT S (toT h) fun x e G' H' S' st hd h v rv => ?_
  obtain ⟨r, σ'⟩ := x
  cases r with
  | v d =>
    cases d with
    | bool k =>
      cases rv
      exact ⟨_, rfl, NP.fin S' h⟩
    | _ => exact h.elim
  | _ => exact h.elim
theorem cmp1_ok {o : CmpOp} (ok : CtxOk Φ Γ τ W C X) (hm : behindInMarks o b = false) (ha : PE X a (tE Φ Γ τ W X.K ta)) (hb : PE X b (tE Φ Γ τ W X.K tb)) :
    PE X (.Compare a [o] [b] pos) (tE Φ Γ τ W X.K (.cmp (cK o) ta tb)) ∧ PT X (.Compare a [o] [b] pos) (tT Φ Γ τ W X.K (.cmp (cK o) ta tb)) := by
  have ho := op_cmp (X := X) (cK o) ok.hu
  rw [cK_op] at ho
  exact ⟨pe_imp (pe_cmpR ho ha hb hm) fun σ H Q h => cmp_read h, pt_imp (pt_cmpR ho ha hb hm) fun σ H Q h => cmp_read (tT_E h)⟩
theorem chn_read {o p : CmpK} {σ : L2.St} {H : Hp} {Q : VK} (h : tE Φ Γ τ W X.K (.chn o p ta tb tc) σ H Q) : tChain (rCmp X.K o) (rCmp X.K p) (tE Φ Γ τ W X.K ta) (tE Φ Γ τ W X.K tb) (tE Φ Γ τ W X.K tc) σ H Q := by
  obtain ⟨σD, G, S, h⟩ := h
  refine one_op kE S h fun x e1 G1 H1 S1 st1 hd1 h v ro1 => one_op kE S1 h fun y e2 G2 H2 S2' st2 hd2 h w ro2 => ?_
  have c1 := (ro1.step st2.gm hd2).cn S2'
  have c2 := ro2.cn S2'
  rw [cont_nt] at c1 c2
  obtain ⟨k, e3, h⟩ := kE.ok h (cmpB_nx _ _ _)
  refine ⟨G2, _, _, k, S2'.sub, c1, c2, e3, k, rfl, ?_⟩
  cases k with
  | true =>
    rw [if_pos rfl]
    refine one_op kE S2' h fun z e4 G3 H3 S3 st3 hd3 h u ro3 => ?_
    obtain ⟨r, e5, h⟩ := kE.ok h (cmpD_nx _ _ _)
    obtain ⟨k, e6, e7⟩ := res_map_ok e5
    subst e7
    have c2 := (ro2.step st3.gm hd3).cn S3
    have c3 := ro3.cn S3
    rw [cont_nt] at c2 c3
    exact ⟨G3, _, _, k, S3.sub, c2, c3, e6, NP.fin S3 h _ (.bl _)⟩
  | false =>
    rw [if_neg Bool.false_ne_true]
    exact NP.fin S2' h _ (.bl _)
theorem chn_ok {o p : CmpOp} (ok : CtxOk Φ Γ τ W C X) (hm : lastMarks [o, p] [b, c] = false) (ha : PE X a (tE Φ Γ τ W X.K ta)) (hb : PE X b (tE Φ Γ τ W X.K tb)) (hc : PE X c (tE Φ Γ τ W X.K tc)) :
    PE X (.Compare a [o, p] [b, c] pos) (tE Φ Γ τ W X.K (.chn (cK o) (cK p) ta tb tc)) ∧ PT X (.Compare a [o, p] [b, c] pos) (tT Φ Γ τ W X.K (.chn (cK o) (cK p) ta tb tc)) := by
  have ho := op_cmp (X := X) (cK o) ok.hu
  have hp := op_cmp (X := X) (cK p) ok.hu
  rw [cK_op] at ho hp
  exact ⟨pe_imp (pe_chain ho hp ha hb hc hm) fun σ H Q h => chn_read h, pt_imp (pt_chain ho hp ha hb hc hm) fun σ H Q h => chn_read (tT_E h)⟩
theorem cmps_ok {ops : List CmpOp} {cs : List Expr} (IH : SE Φ Γ τ f) (ok : CtxOk Φ Γ τ W C X) (h : cCmp (f C) a ops cs = some t) : PE X (.Compare a ops cs pos) (tE Φ Γ τ W X.K t) ∧ PT X (.Compare a ops cs pos) (tT Φ Γ τ W X.K t) := by
  match ops, cs with
  | [o], [b] =>
    simp only [cCmp] at h
    split at h
    · cases h
    · rename_i hm
      obtain ⟨ta, e1, h⟩ := Option.bind_eq_some_iff.mp h
      obtain ⟨tb, e2, h⟩ := Option.bind_eq_some_iff.mp h
      cases h
      exact cmp1_ok ok (by simpa using hm) (IH W C X a ta e1 ok).1 (IH W C X b tb e2 ok).1
  | [o, p], [b, c] =>
    simp only [cCmp] at h
    split at h
    · cases h
    · rename_i hm
      obtain ⟨ta, e1, h⟩ := Option.bind_eq_some_iff.mp h
      obtain ⟨tb, e2, h⟩ := Option.bind_eq_some_iff.mp h
      obtain ⟨tc, e3, h⟩ := Option.bind_eq_some_iff.mp h
      cases h
      exact chn_ok ok (by simpa using hm) (IH W C X a ta e1 ok).1 (IH W C X b tb e2 ok).1 (IH W C X c tc e3 ok).1
  | [], _ => cases h
  | [_], [] => cases h
  | [_], _ :: _ :: _ => cases h
  | [_, _], [] => cases h
  | [_, _], [_] => cases h
  | [_, _], _ :: _ :: _ :: _ => cases h
  | _ :: _ :: _ :: _, _ => cases h
theorem ifx_ok (hc : PE X c (tE Φ Γ τ W X.K tc) ∧ PT X c (tT Φ Γ τ W X.K tc)) (ha : PE X a (tE Φ Γ τ W X.K ta) ∧ PT X a (tT Φ Γ τ W X.K ta)) (hb : PE X b (tE Φ Γ τ W X.K tb) ∧ PT X b (tT Φ Γ τ W X.K tb)) :
    PE X (.IfExp c a b pos) (tE Φ Γ τ W X.K (.ifx tc ta tb)) ∧ PT X (.IfExp c a b pos) (tT Φ Γ τ W X.K (.ifx tc ta tb)) := by
  constructor
  · refine pe_imp (pe_ifExp hc.2 ha.1 hb.1) fun σ H Q ⟨σD, G, S, h⟩ => test_op kE S h fun w G' H' S' st hd h => ?_
    obtain ⟨k, σ1⟩ := w
    cases k with
    | true => exact ⟨σ1, G', S', h⟩
    | false => exact ⟨σ1, G', S', h⟩
  · refine ⟨fun pins s σ H Q I h => ?_⟩
    obtain ⟨σD, G, S, h⟩ := h
    have h : NP τ W X.K σ (wT Q) σD G H (((evE Φ Γ tc σD).bind fun x => (boolOf x).bind fun q => match q.1 with | true => evE Φ Γ ta q.2 | false => evE Φ Γ tb q.2).bind boolOf) := h
    rw [evT_then] at h
    refine isTrue_IfExp (thn (hc.2.run pins s σ H (fun k' H' => if k' = true then tT Φ Γ τ W X.K ta σ H' Q else tT Φ Γ τ W X.K tb σ H' Q) I (test_op kT S h fun w G' H' S' st hd h => ?_)) fun k' s1 ⟨H1, I1, q1⟩ => ?_)
    · obtain ⟨k, σ1⟩ := w
      cases k with
      | true =>
        rw [if_pos rfl]
        exact ⟨σ1, G', S', h⟩
      | false =>
        rw [if_neg Bool.false_ne_true]
        exact ⟨σ1, G', S', h⟩
    · cases k' with
      | true => exact ha.2.run pins s1 σ H1 Q I1 (by simpa using q1)
      | false => exact hb.2.run pins s1 σ H1 Q I1 (by simpa using q1)

/-! ### argument lists, displays -/
theorem noStar {f : Expr → Option T} (hs : ∀ x p, f (.Starred x p) = none) : ∀ {es : List Expr} {t : T}, cL f es = some t → ∀ env, (starEach es env).any (·.1) = false
  | [], _, _, _ => rfl
  | e :: es, t, h, env => by
    obtain ⟨ta, e1, h⟩ := Option.bind_eq_some_iff.mp h
    obtain ⟨tr, e2, h⟩ := Option.map_eq_some_iff.mp h
    have he : ∀ x p, e ≠ .Starred x p := fun x p z => by rw [z, hs] at e1; cases e1
    have e3 : starEach (e :: es) env = (false, eval e env) :: starEach es env := by
      cases e <;> first | rfl | exact absurd rfl (he _ _)
    rw [e3, List.any_cons, noStar hs e2 env]
    rfl
theorem backTo_any {pos : Pos} {l : List (Bool × Sem Value)} (h : l.any (·.1) = false) : (backTo pos l).any (·.1) = false := by
  unfold backTo
  rw [List.any_map]
  exact h
abbrev NS (f : CC → Expr → Option T) : Prop := ∀ C x p, f C (.Starred x p) = none
theorem args_ok (IH : SE Φ Γ τ f) (ns : NS f) (ok : CtxOk Φ Γ τ W C X) : ∀ {es : List Expr} {t : T}, cL (f C) es = some t → PA X es (tA Φ Γ τ W X.K t)
  | [], t, h => by
    cases h
    exact ⟨fun pos pins s σ H Q I ⟨σD, G, S, h⟩ => pa_nil.run pos pins s σ H Q I (NP.fin S h _ .nil)⟩
  | e :: es, t, h => by
    obtain ⟨ta, e1, h⟩ := Option.bind_eq_some_iff.mp h
    obtain ⟨tr, e2, h⟩ := Option.map_eq_some_iff.mp h
    subst h
    have he : ∀ x p, e ≠ .Starred x p := fun x p z => by rw [z, ns] at e1; cases e1
    exact ⟨fun pos pins s σ H Q I ⟨σD, G, S, h⟩ => (pa_cons (IH W C X e ta e1 ok).1 (args_ok IH ns ok e2) (starE he)).run pos pins s σ H Q I
      (one_op kA S h fun x f1 G1 H1 S1 st1 hd1 h v ro1 => args_op kA S1 h fun y f2 G2 H2 S2' st2 hd2 h vs ros => NP.fin S2' h _ (.cons (ro1.step st2.gm hd2) ros))⟩
theorem disp_ok (IH : SE Φ Γ τ f) (ns : NS f) (ok : CtxOk Φ Γ τ W C X) : ∀ {es : List Expr} {t : T}, cL (f C) es = some t → PA X es (tVs Φ Γ τ W X.K t)
  | [], t, h => by
    cases h
    exact ⟨fun pos pins s σ H Q I ⟨σD, G, S, h⟩ => pa_nil.run pos pins s σ H Q I (NP.fin S h _ .nil)⟩
  | e :: es, t, h => by
    obtain ⟨ta, e1, h⟩ := Option.bind_eq_some_iff.mp h
    obtain ⟨tr, e2, h⟩ := Option.map_eq_some_iff.mp h
    subst h
    have he : ∀ x p, e ≠ .Starred x p := fun x p z => by rw [z, ns] at e1; cases e1
    exact ⟨fun pos pins s σ H Q I ⟨σD, G, S, h⟩ => (pa_cons (IH W C X e ta e1 ok).1 (disp_ok IH ns ok e2) (starE he)).run pos pins s σ H Q I
      (one_frz kVs S h fun x f1 G1 H1 S1 st1 hd1 h v ro1 => vals_op kVs S1 h fun y f2 G2 H2 S2' st2 hd2 h vs ros => NP.fin S2' h _ (.cons (ro1.mono st2.gm) ros))⟩
theorem tup_ok {k : Nat} (IH : SE Φ Γ τ f) (ns : NS f) (ok : CtxOk Φ Γ τ W C X) (h : cL (f C) es = some t) : PE X (.Tuple es k pos) (tE Φ Γ τ W X.K (.tup t)) := by
  refine pe_imp (pe_tup (disp_ok IH ns ok h)) fun σ H Q ⟨σD, G, S, h⟩ => vals_op kE S h fun w e G' H' S' st hd h vs r => ?_
  split at h
  · rename_i hl
    exact ⟨by rw [r.len, sizeLine_eq]; exact hl, fun p np => out_tup S'.sub (NP.out S' h) np r⟩
  · exact h.elim
theorem lst_ok (IH : SE Φ Γ τ f) (ns : NS f) (ok : CtxOk Φ Γ τ W C X) (h : cL (f C) es = some t) : PE X (.List es pos) (tE Φ Γ τ W X.K (.lst t)) := by
  refine pe_imp (pe_lst (disp_ok IH ns ok h)) fun σ H Q ⟨σD, G, S, h⟩ => vals_op kE S h fun w e G' H' S' st hd h vs r => ?_
  split at h
  · rename_i hl
    exact ⟨by rw [r.len, sizeLine_eq]; exact hl, fun p np => out_t S'.sub (NP.out S' h) np r⟩
  · exact h.elim

/-! ### subscripts, slices -/
theorem ixs_ok (hu : X.A.units + 1 < cLine) (hi : ∀ l u s p, b ≠ .Slice l u s p) (ha : PE X a (tE Φ Γ τ W X.K ta)) (hb : PE X b (tE Φ Γ τ W X.K tb)) : PE X (.Subscript a b pos) (tE Φ Γ τ W X.K (.ix ta tb)) := by
  refine pe_imp (pe_ix (ix_ok hu) ha hb (fun o i => by cases b <;> first | rfl | exact absurd rfl (hi _ _ _ _))) fun σ H Q ⟨σD, G, S, h⟩ => two_op kE S h fun x y G' H' S' st hd h v w c1 c2 => ?_
  obtain ⟨r, e3, h⟩ := kE.ok h (ixD_nx _ _)
  exact ⟨G', _, _, r, S'.sub, c1, c2, e3, NP.out S' h⟩
def tP (Φ : Fns) (Γ : List D) (τ : Tb) (W : EW) (K : PySem.W.Frag) (t : T) : TO := fun σV H Q => ∃ σD G, S2 τ K G H σD σV ∧ NP τ W K σV (wT Q) σD G H (evP Φ Γ t σD)
section
variable {K : PySem.W.Frag} {G H : Hp} {σD : Sts} {σV : L2.St} {β : Type} {N : Sts → Hp → Hp → Res β → Prop}
theorem part_op (C : Cont τ W σV N) {a : T} {f : Option Int × Sts → Res β} (S : S2 τ K G H σD σV) (h : N σD G H ((evP Φ Γ a σD).bind f)) {k : Option Int → Hp → Prop}
    (hk : ∀ x G' H', S2 τ K G' H' x.2 σV → Step σD σV G H x.2 σV G' H' → Held σD x.2 → N x.2 G' H' (f x) → k x.1 H') : tP Φ Γ τ W K a σV H k :=
  ⟨σD, G, S, (C.bind h).mono fun x e n G' H' S' st hd => hk x G' H' S' st hd (C.shift st hd n)⟩
end
theorem part_ok {o : Option Expr} (IH : SE Φ Γ τ f) (ok : CtxOk Φ Γ τ W C X) (h : cPart (f C) o = some t) : PO X o (tP Φ Γ τ W X.K t) := by
  cases o with
  | none =>
    cases h
    exact ⟨fun pins s σ H Q I ⟨σD, G, S, h⟩ => po_none.run pins s σ H Q I (NP.fin S h)⟩
  | some e =>
    obtain ⟨ta, e1, h⟩ := Option.map_eq_some_iff.mp h
    subst h
    refine ⟨fun pins s σ H Q I ⟨σD, G, S, h⟩ => (po_some (IH W C X e ta e1 ok).1).run pins s σ H Q I (one_rv kT S h fun x e G' H' S' st hd h v rv => ?_)⟩
    obtain ⟨r, σ1⟩ := x
    cases r with
    | v d =>
      cases d with
      | int i =>
        cases rv
        exact ⟨i, rfl, NP.fin S' h⟩
      | _ => exact h.elim
    | _ => exact h.elim
theorem slc_ok {lo hi : Option Expr} {tl th : T} {p2 : Pos} (IH : SE Φ Γ τ f) (ok : CtxOk Φ Γ τ W C X) (ha : PE X a (tE Φ Γ τ W X.K ta)) (hl : cPart (f C) lo = some tl) (hh : cPart (f C) hi = some th) :
    PE X (.Subscript a (.Slice lo hi none p2) pos) (tE Φ Γ τ W X.K (.slc ta tl th)) := by
  refine pe_imp (pe_slice sl_ok ha (part_ok IH ok hl) (part_ok IH ok hh)) fun σ H Q ⟨σD, G, S, h⟩ =>
    one_op kE S h fun x e1 G1 H1 S1 st1 hd1 h v ro1 => part_op kE S1 h fun l G2 H2 S2' st2 hd2 h => part_op kE S2' h fun u G3 H3 S3 st3 hd3 h => ?_
  have c1 := ((ro1.step st2.gm hd2).step st3.gm hd3).cn S3
  rw [cont_nt] at c1
  obtain ⟨r, e4, h⟩ := kE.ok h (slcD_nx _ _ _)
  exact ⟨G3, _, r, S3.sub, c1, e4, NP.out S3 h⟩
theorem isM1_ok : ∀ {s : Expr}, isM1 s = true → ∃ k p1 p2, s = .UnaryOp .USub (.Constant (.int 1) k p1) p2 := by
  intro s h
  unfold isM1 at h
  split at h
  · exact ⟨_, _, _, rfl⟩
  · cases h
theorem RpA.rev {K : PySem.W.Frag} {G : Hp} : ∀ {vs : List V} {ds : List D}, RpA K G vs ds → RpA K G vs.reverse ds.reverse
  | _, _, .nil => .nil
  | _, _, .cons r t => by
    rw [List.reverse_cons, List.reverse_cons]
    exact (RpA.rev t).snoc r
theorem rev_ok {k : Nat} {p1 p2 p3 : Pos} (ha : PE X a (tE Φ Γ τ W X.K ta)) : PE X (.Subscript a (.Slice none none (some (.UnaryOp .USub (.Constant (.int 1) k p1) p2)) p3) pos) (tE Φ Γ τ W X.K (.bi .rev (.cons ta .nil))) := by
  refine pe_imp (pe_revA ha) fun σ H Q ⟨σD, G, S, h⟩ => ?_
  have h : NP τ W X.K σ (wE X.K σ Q) σD G H ((evE Φ Γ ta σD).bind fun x => (biD .rev [cont x.2 x.1.nt]).bind fun r => .ok (r, x.2)) := by
    have e : evE Φ Γ (.bi .rev (.cons ta .nil)) σD = (evE Φ Γ ta σD).bind fun x => (biD .rev [cont x.2 x.1.nt]).bind fun r => .ok (r, x.2) := by
      show ((evE Φ Γ ta σD).bind fun x => (evA Φ Γ .nil x.2).bind fun y => Res.ok (x.1.nt :: y.1, y.2)).bind _ = _
      cases evE Φ Γ ta σD <;> rfl
    rw [← e]; exact h
  refine one_op kE S h fun x e3 G1 H1 S1 st1 hd1 h v ro1 => ?_
  have c1 := ro1.cn S1
  obtain ⟨r, e2, h⟩ := kE.ok h (biD_nx _ _)
  have qo := NP.out S1 h
  generalize cont x.2 x.1.nt = d at c1 e2
  cases d with
  | list ds =>
    obtain ⟨p, vs, rfl, hp, ra⟩ := c1.list S1.sub
    cases e2
    exact ⟨p, vs, rfl, .inl ⟨.inl (.inl hp), fun l hl => out_t S1.sub qo hl ra.rev⟩⟩
  | tuple ds =>
    obtain ⟨p, vs, rfl, hp, ra⟩ := c1.tuple S1.sub
    cases e2
    exact ⟨p, vs, rfl, .inr ⟨hp, fun l hl => out_tup S1.sub qo hl ra.rev⟩⟩
  | _ => cases e2
theorem tabs_ok {k : Nat} (IH : SE Φ Γ τ f) (ok : CtxOk Φ Γ τ W C X) (hk : cTab C a = some k) (h : (if isSl b = true then none else (f C b).map fun t => .ix (.glb k) t) = some t) : PE X (.Subscript a b pos) (tE Φ Γ τ W X.K t) := by
  split at h
  · cases h
  rename_i hs
  obtain ⟨tb, e1, h⟩ := Option.map_eq_some_iff.mp h
  subst h
  have hi : ∀ l u s p, b ≠ .Slice l u s p := fun l u s p z => hs (by rw [z]; rfl)
  cases a with
  | Name x p =>
    have hk : (if gloB C.sc x = true ∧ oddName x = false then C.tbs.lookup x else none) = some k := hk
    split at hk
    · rename_i hx
      obtain ⟨hg, ho⟩ := hx
      obtain ⟨o1, o2, o3⟩ := odd_ok ho
      obtain ⟨a, es, n, kvs, h1, hD, h3, h5, h4⟩ := ok.tab x k hk
      have rule : IxR X (fun x y H Q => ∃ (z : Str) (u0 : Value) (v0 : V), x = .ref a ∧ y = .str z ∧ PySem.W.nsIn X.K a z = some (some u0) ∧ RelV v0 u0 ∧ Q v0 H) := by
        intro value slice pins s σ H x y v u Q I rx ry h hs
        obtain ⟨z, u0, v0, rfl, rfl, e, r, q⟩ := h
        have T := kd_type hD I
        have op := op_item_kd hD
        cases rx
        unfold subscriptTail
        refine wpAny_bind ?_
        rw [getitemInPython_of_ne T.not_modules]
        refine wpAny_bind (wpAny_specialOf T PySem.F.slot_dict_getitem.lookup ?_)
        have fin : wpAny (model X.prog X.w) X.A (subscripted slice false (.ref a) u) (fun r s₃ => wpAny (model X.prog X.w) X.A (letTemporaryGo value (.ref a) r >>= fun _ => pure r) (EP X pins σ Q) X.xe s₃) X.xe s := by
          rw [hs]
          exact wpAny_operating (wpAny_mono (op pins s σ H (.ref a) (.str z) (.ref a) u Q I rfl ry ⟨z, u0, v0, rfl, rfl, e, r, q⟩) (fun r s₃ h₃ => wpAny_bind (wpAny_letTemporaryGo (wpAny_pure h₃))) fun _ _ x => x)
        first
          | exact wpAny_pure (wpAny_bind fin)
          | exact wpAny_bind (wpAny_pure (wpAny_bind fin))
          | exact wpAny_bind fin
      refine pe_imp (pe_ix rule (pe_glob (v := .ref a) (u := .ref a) (by unfold Gl Env.kindOf; rw [ok.sc]; exact glo_of hg) h1 rfl o1) (IH W C X b tb e1 ok).1 (fun o i => by cases b <;> first | rfl | exact absurd rfl (hi _ _ _ _))) fun σ H Q ⟨σD, G, S, h⟩ => ?_
      have e : evE Φ Γ (.ix (.glb k) tb) σD = (evE Φ Γ tb σD).bind fun y => (ixD (.dict kvs) (cont y.2 y.1)).bind fun r => .ok (r, y.2) := by
        simp only [evE, h3]
        rfl
      rw [e] at h
      refine one_op kE S h fun y e2 G2 H2 S2 st hd h w ro => ?_
      have c2 := ro.cn S2
      rw [cont_nt] at c2
      obtain ⟨r, e3, h⟩ := kE.ok h (ixD_nx _ _)
      have q := NP.out S2 h
      cases hy : cont y.2 y.1 with
      | str s =>
        rw [hy] at c2 e3
        cases c2.str
        simp only [ixD] at e3
        split at e3
        · rename_i d hd2
          cases e3
          obtain ⟨u, v, z1, z2, z3⟩ := h4 s d hd2
          exact ⟨s, u, v, rfl, rfl, z1, z2, out_v S2.sub q (z3 _)⟩
        · cases e3
      | int i =>
        rw [hy] at e3
        simp only [ixD, h5] at e3
        cases e3
      | _ => rw [hy] at e3; cases e3
    · cases hk
  | _ => cases hk
theorem subs_ok (IH : SE Φ Γ τ f) (ok : CtxOk Φ Γ τ W C X) (h : cSub (f C) a b = some t) : PE X (.Subscript a b pos) (tE Φ Γ τ W X.K t) := by
  cases b with
  | Slice lo hi st p2 =>
    cases st with
    | none =>
      obtain ⟨ta, e1, h⟩ := Option.bind_eq_some_iff.mp h
      obtain ⟨tl, e2, h⟩ := Option.bind_eq_some_iff.mp h
      obtain ⟨th, e3, h⟩ := Option.bind_eq_some_iff.mp h
      cases h
      exact slc_ok IH ok (IH W C X a ta e1 ok).1 e2 e3
    | some s =>
      simp only [cSub] at h
      split at h
      · rename_i hc
        simp only [Bool.and_eq_true, Option.isNone_iff_eq_none] at hc
        obtain ⟨⟨rfl, rfl⟩, hm⟩ := hc
        obtain ⟨k, p1, p2, rfl⟩ := isM1_ok hm
        obtain ⟨ta, e1, h⟩ := Option.map_eq_some_iff.mp h
        cases h
        exact rev_ok (IH W C X a ta e1 ok).1
      · cases h
  | _ =>
    obtain ⟨ta, e1, h⟩ := Option.bind_eq_some_iff.mp h
    obtain ⟨tb, e2, h⟩ := Option.bind_eq_some_iff.mp h
    cases h
    exact ixs_ok (by have := ok.hu; omega) (fun _ _ _ _ z => by cases z) (IH W C X a ta e1 ok).1 (IH W C X _ tb e2 ok).1
end
end Fz

/-! Ev8: a term tells what its text does: calls. -/
namespace Fz
open PySem PySem.Spec PyProof.Rows L2

section
variable {Φ : Fns} {Γ : List D} {τ : Tb} {W : EW} {X : Cx} {C : CC} {e a b c : Expr} {es : List Expr} {t ta tb tc : T} {pos : Pos} {f : CC → Expr → Option T}

/-! ### built-in functions -/
theorem boot_abs' : bootBuiltins ("abs" : Str) = some (.builtin "abs") := by decide +kernel
theorem boot_all' : bootBuiltins ("all" : Str) = some (.builtin "all") := by decide +kernel
theorem boot_any' : bootBuiltins ("any" : Str) = some (.builtin "any") := by decide +kernel
theorem boot_sum' : bootBuiltins ("sum" : Str) = some (.builtin "sum") := by decide +kernel
theorem boot_min' : bootBuiltins ("min" : Str) = some (.builtin "min") := by decide +kernel
theorem boot_max' : bootBuiltins ("max" : Str) = some (.builtin "max") := by decide +kernel
theorem boot_sorted' : bootBuiltins ("sorted" : Str) = some (.builtin "sorted") := by decide +kernel
theorem boot_repr' : bootBuiltins ("repr" : Str) = some (.builtin "repr") := by decide +kernel
theorem boot_len' : bootBuiltins ("len" : Str) = some (.builtin "len") := by decide +kernel
theorem boot_isi' : bootBuiltins ("isinstance" : Str) = some (.builtin "isinstance") := by decide +kernel
theorem boot_int' : bootBuiltins ("int" : Str) = some (.type "int") := by decide +kernel
theorem boot_bool' : bootBuiltins ("bool" : Str) = some (.type "bool") := by decide +kernel
theorem boot_str' : bootBuiltins ("str" : Str) = some (.type "str") := by decide +kernel
theorem boot_tuple' : bootBuiltins ("tuple" : Str) = some (.type "tuple") := by decide +kernel
theorem boot_list' : bootBuiltins ("list" : Str) = some (.type "list") := by decide +kernel
theorem boot_dict' : bootBuiltins ("dict" : Str) = some (.type "dict") := by decide +kernel
theorem gl_of (ok : CtxOk Φ Γ τ W C X) {x : Str} (h : gloB C.sc x = true) : Gl X x := by
  unfold Gl Env.kindOf
  rw [ok.sc]
  exact glo_of h
theorem bi_one {k : BiK} {t : T} {σD : Sts} : evE Φ Γ (.bi k (.cons t .nil)) σD = (evE Φ Γ t σD).bind fun x => (biD k [cont x.2 x.1.nt]).bind fun r => .ok (r, x.2) := by
  show ((evE Φ Γ t σD).bind fun x => (evA Φ Γ .nil x.2).bind fun y => Res.ok (x.1.nt :: y.1, y.2)).bind _ = _
  cases evE Φ Γ t σD <;> rfl
theorem bi_read {k : BiK} {σ : L2.St} {H : Hp} {Q : VK} (h : tE Φ Γ τ W X.K (.bi k t) σ H Q) : tCB (rBi X.K k) (tA Φ Γ τ W X.K t) σ H Q := by
  obtain ⟨σD, G, S, h⟩ := h
  refine args_op kE S h fun x e G' H' S' st hd h vs ros => ?_
  obtain ⟨r, e2, h⟩ := kE.ok h (biD_nx _ _)
  exact ⟨G', _, r, S'.sub, ros.cns S', e2, NP.out S' h⟩
theorem Rp.dict0 {K : PySem.W.Frag} {G : Hp} {v : V} {d : D} (h : Rp K G v d) (e : d = .dict []) : ∃ a, v = V.ref a ∧ G a = some (HO.dK []) := by
  cases h with
  | @dct _ ks vs ds hg hl r =>
    injection e with e
    cases ks with
    | nil => exact ⟨_, rfl, by simpa using hg⟩
    | cons k ks => cases ds with
      | nil => cases hl
      | cons d ds => cases e
  | scr _ _ => injection e with e; cases e
  | _ => cases e
theorem dict0_reads {P : Program} {w : World} {H : Hp} {h : Heap} {a : Addr} (ok : HOk P w H h) (e : H a = some (HO.dK [])) : Reads h (.ref a) (.dict []) [a] ∧ a ≠ sysModules := by
  obtain ⟨_, hs, vs, r, o, es, ep, h1, h2, h3, h4, h5, h6⟩ := dk_of ok e
  have hv : vs = [] := by cases r; rfl
  subst hv
  have he : es.toList = [] := by
    revert h5
    generalize es.toList = l
    intro h5
    cases h5
    rfl
  refine ⟨Reads.dict (kvs := []) (as := []) (bs := []) h1 h2.1 h3 ?_ ?_, fun z => ?_⟩
  · rw [he]; exact .nil
  · rw [he]; exact .nil
  · rw [z] at hs
    revert hs
    decide
/-- repr of things of any depth -/
theorem show_ok (hg : X.A.guards = some []) (hu : X.A.units + 64 < cLine) (hc : X.calm = true) : CallR X (.builtin "repr") (rBi X.K .show) := by
  intro pins s σ H xs us Q I rx h
  obtain ⟨G, ds, r, sG, cs, e, q⟩ := h
  match ds, e, cs with
  | [], e, _ => cases e
  | d :: _ :: _, e, _ =>
    cases d with
    | dict z => cases z <;> cases e
    | _ => cases e
  | [d], e, cs =>
    have atom : biD .repr [d] = .ok r → wpAny (model X.prog X.w) X.A (call (.builtin "repr") us) (EP X pins σ Q) X.xe s := fun e => bi_ok .repr hc hu (fun z => by cases z) pins s σ H xs us Q I rx ⟨G, [d], r, sG, cs, e, q⟩
    obtain ⟨x, rfl, c⟩ := cs.one
    obtain ⟨u, rfl, ru⟩ := vals1 rx
    have deep : ∀ {a : Addr}, x = V.ref a → ShowOk d → r = .v (.str d.shown) → wpAny (model X.prog X.w) X.A (call (.builtin "repr") [u]) (EP X pins σ Q) X.xe s := fun {a} ex ok er => by
      obtain ⟨h1, h2, h3, h4⟩ := ok
      subst ex er
      obtain ⟨⟨as, r1⟩, p1, d1⟩ := cn_reads I sG c ru h1
      cases ru
      exact repr_of_reads' r1 h2 (PyData.noDict_hsm h3) hg (by omega) (fun _ _ e => e) (fun h' u tk hk => ⟨.str _, H, I.kept (h' := h') (t' := tk) hk, ⟨_, rfl⟩, out_v sG q (.str _)⟩) (by rw [sizeLine_eq]; exact h4)
    cases d with
    | tuple ds =>
      obtain ⟨p, vs, ex, hp, ra⟩ := c.tuple sG
      simp only [biD] at e
      split at e
      · rename_i hm
        cases e
        exact deep ex hm rfl
      · cases e
    | list ds =>
      obtain ⟨p, vs, ex, hp, ra⟩ := c.list sG
      simp only [biD] at e
      split at e
      · rename_i hm
        cases e
        exact deep ex hm rfl
      · cases e
    | none => exact atom e
    | bool b => exact atom e
    | int i => exact atom e
    | str z =>
      have ex := c.str
      subst ex
      obtain ⟨tk, rfl⟩ := ru
      simp only [biD] at e
      split at e
      · rename_i hm
        cases e
        obtain ⟨h1, h2, h3, h4⟩ := hm
        exact PySem.P.repr_of_str ⟨.str _, H, I.tok _, ⟨_, rfl⟩, out_v sG q (.str _)⟩ (by rw [sizeLine_eq]; exact h4)
      · cases e
    | dict z =>
      cases z with
      | cons y z =>
        have e' : biD .show [PyData.dict (y :: z)] = .no := rfl
        rw [e'] at e
        cases e
      | nil =>
        have e' : biD .show [PyData.dict []] = .ok (.v (.str (PyData.shown (.dict [])))) := rfl
        rw [e'] at e
        cases e
        rcases c with c | ⟨_, _, _, _, z, _⟩
        · obtain ⟨a, rfl, ha⟩ := Rp.dict0 c rfl
          obtain ⟨rd, ns⟩ := dict0_reads I.hok (sG _ _ ha)
          cases ru
          exact repr_of_reads' rd rfl (fun _ hm => ns (List.mem_singleton.mp hm).symm) hg (by have : (PyData.dict []).depth ≤ 40 := by decide
                                                                                              omega) (fun _ _ e => e) (fun h' u tk hk => ⟨.str _, H, I.kept (h' := h') (t' := tk) hk, ⟨_, rfl⟩, out_v sG q (.str _)⟩) (by rw [sizeLine_eq]; decide)
        · cases z
theorem bis_ok {k : BiK} {x : Str} {p : Pos} (ok : CtxOk Φ Γ τ W C X) (hh : C.hot = false) (hx : gloB C.sc x = true) (ho : oddName x = false) (hn : biName C.g x (e :: es).length = some k) (ns : (starEach es X.env).any (·.1) = false)
    (hs : starEach (e :: es) X.env = (false, eval e X.env) :: starEach es X.env) (ha : PA X (e :: es) (tA Φ Γ τ W X.K t)) : PE X (.Call (.Name x p) (e :: es) [] pos) (tE Φ Γ τ W X.K (.bi k t)) := by
  obtain ⟨o1, o2, o3⟩ := odd_ok ho
  have hg := gl_of ok hx
  have hpl := backTo_any (pos := pos) ns
  have mg : ∀ y : Str, y ∈ biNames → X.mg y = none := ok.bi
  have hm := PySem.mem_of_lookup hn
  simp only [biTab, List.mem_cons, Prod.mk.injEq, List.not_mem_nil, or_false] at hm
  rcases hm with ⟨ex, ek⟩ | ⟨ex, ek⟩ | ⟨ex, ek⟩ | ⟨ex, ek⟩ | ⟨ex, ek⟩ | ⟨ex, ek⟩ | ⟨ex, ek⟩ | ⟨ex, ek⟩ | ⟨ex, ek⟩ | ⟨ex, ek⟩ | ⟨ex, ek⟩ | ⟨ex, ek⟩
  · subst ex ek
    exact pe_imp (pe_callB (bi_ok .len (ok.calm hh) ok.hu (fun z => by cases z)) hg (mg _ (by decide)) boot_len' ha o3 o1 hs hpl) fun σ H Q h => bi_read h
  · subst ex ek
    exact pe_imp (pe_callTy (bi_ok .int (ok.calm hh) ok.hu (fun z => by cases z)) hg (mg _ (by decide)) boot_int' ha o3 o1 hs hpl) fun σ H Q h => bi_read h
  · subst ex ek
    exact pe_imp (pe_callB (bi_ok .abs (ok.calm hh) ok.hu (fun z => by cases z)) hg (mg _ (by decide)) boot_abs' ha o3 o1 hs hpl) fun σ H Q h => bi_read h
  · subst ex ek
    exact pe_imp (pe_callTy (bi_ok .tuple (ok.calm hh) ok.hu (fun z => by cases z)) hg (mg _ (by decide)) boot_tuple' ha o3 o1 hs hpl) fun σ H Q h => bi_read h
  · subst ex ek
    exact pe_imp (pe_callTy (bi_ok .list (ok.calm hh) ok.hu (fun z => by cases z)) hg (mg _ (by decide)) boot_list' ha o3 o1 hs hpl) fun σ H Q h => bi_read h
  · subst ex ek
    exact pe_imp (pe_callB (bi_ok .all (ok.calm hh) ok.hu (fun z => by cases z)) hg (mg _ (by decide)) boot_all' ha o3 o1 hs hpl) fun σ H Q h => bi_read h
  · subst ex ek
    exact pe_imp (pe_callB (bi_ok .any (ok.calm hh) ok.hu (fun z => by cases z)) hg (mg _ (by decide)) boot_any' ha o3 o1 hs hpl) fun σ H Q h => bi_read h
  · subst ex ek
    exact pe_imp (pe_callB (bi_ok .sum (ok.calm hh) ok.hu (fun z => by cases z)) hg (mg _ (by decide)) boot_sum' ha o3 o1 hs hpl) fun σ H Q h => bi_read h
  · subst ex ek
    exact pe_imp (pe_callB (bi_ok .sorted (ok.calm hh) ok.hu (fun z => by cases z)) hg (mg _ (by decide)) boot_sorted' ha o3 o1 hs hpl) fun σ H Q h => bi_read h
  · subst ex
    have h1 : CallR X (.builtin "repr") (rBi X.K k) := by
      rw [ek]
      split
      · rename_i hG
        exact show_ok (ok.gd hG) ok.hu (ok.calm hh)
      · exact bi_ok .repr (ok.calm hh) ok.hu (fun z => by cases z)
    exact pe_imp (pe_callB h1 hg (mg _ (by decide)) boot_repr' ha o3 o1 hs hpl) fun σ H Q h => bi_read h
  · subst ex
    have h1 : CallR X (.builtin "min") (rBi X.K k) := by
      rw [ek]
      split
      · exact bi_ok .min1 (ok.calm hh) ok.hu (fun z => by cases z)
      · exact bi_ok .min2 (ok.calm hh) ok.hu (fun z => by cases z)
    exact pe_imp (pe_callB h1 hg (mg _ (by decide)) boot_min' ha o3 o1 hs hpl) fun σ H Q h => bi_read h
  · subst ex
    have h1 : CallR X (.builtin "max") (rBi X.K k) := by
      rw [ek]
      split
      · exact bi_ok .max1 (ok.calm hh) ok.hu (fun z => by cases z)
      · split
        · exact call_max4 (ok.calm hh)
        · exact bi_ok .max2 (ok.calm hh) ok.hu (fun z => by cases z)
    exact pe_imp (pe_callB h1 hg (mg _ (by decide)) boot_max' ha o3 o1 hs hpl) fun σ H Q h => bi_read h

/-! ### isinstance -/
def isiT : BiK → String
  | .isInt => "int" | .isBool => "bool" | .isTuple => "tuple" | .isList => "list" | .isStr => "str" | _ => "dict"
def isIsi : BiK → Bool
  | .isInt => true | .isBool => true | .isTuple => true | .isList => true | .isStr => true | .isDict => true | _ => false
theorem dct_at {P : Program} {w : World} {H : Hp} {h : Heap} {a : Addr} {kvs : List (Key × V)} (hok : HOk P w H h) (e : H a = some (.dK kvs)) : ∃ o, h.get? a = some o ∧ o.cls = .type "dict" := by
  obtain ⟨hz, hy, kv, hkv, o, es, ep, e1, e2, e3⟩ := hok a _ e
  exact ⟨o, e1, e2.1⟩
theorem dct_scr (ks : List Key) (ds : List D) : isDictD (.dict ((ks.map keyD).zip ds)) = false := by
  cases ks with
  | nil => rfl
  | cons k ks =>
    cases ds with
    | nil => rfl
    | cons d ds => cases k <;> rfl
theorem isi_rule {k : BiK} (hk : isIsi k = true) {pins : List (Addr × Obj)} {s : Shared} {σ : L2.St} {G H : Hp} {x : V} {u : Value} {d : D} {r : R} {E : Value → Shared → Prop} (I : Inv X pins σ H s) (sG : Sub G H) (c : Cn X.K G H x d) (rx : RelV x u) (h : biD k [d] = .ok r) :
    ∃ b, r = .v (.bool b) ∧ ∀ Q : Value → Shared → Prop, (∀ tk, Q (.bool b) { s with toks := tk }) → wpAny (model X.prog X.w) X.A (call (.builtin "isinstance") [u, .type (isiT k)]) Q E s := by
  cases d with
  | none =>
    cases c.none
    cases rx
    cases k <;> first | (cases hk; done) | (cases h; refine ⟨_, rfl, fun Q q => ?_⟩; first | exact IsiPair.NoneType_int (q _) | exact IsiPair.NoneType_bool (q _) | exact IsiPair.NoneType_tuple (q _) | exact IsiPair.NoneType_list (q _) | exact IsiPair.NoneType_str (q _) | exact IsiPair.NoneType_dict (q _))
  | bool i =>
    cases c.bool
    cases rx
    cases k <;> first | (cases hk; done) | (cases h; refine ⟨_, rfl, fun Q q => ?_⟩; first | exact IsiPair.bool_int (q _) | exact IsiPair.bool_bool (q _) | exact IsiPair.bool_tuple (q _) | exact IsiPair.bool_list (q _) | exact IsiPair.bool_str (q _) | exact IsiPair.bool_dict (q _))
  | int i =>
    cases c.int
    obtain ⟨tk, rfl⟩ := rx
    cases k <;> first | (cases hk; done) | (cases h; refine ⟨_, rfl, fun Q q => ?_⟩; first | exact IsiPair.int_int (q s.toks) | exact IsiPair.int_bool (q _) | exact IsiPair.int_tuple (q _) | exact IsiPair.int_list (q _) | exact IsiPair.int_str (q _) | exact IsiPair.int_dict (q _))
  | str i =>
    cases c.str
    obtain ⟨tk, rfl⟩ := rx
    cases k <;> first | (cases hk; done) | (cases h; refine ⟨_, rfl, fun Q q => ?_⟩; first | exact IsiPair.str_int (q _) | exact IsiPair.str_bool (q _) | exact IsiPair.str_tuple (q _) | exact IsiPair.str_list (q _) | exact IsiPair.str_str (q s.toks) | exact IsiPair.str_dict (q _))
  | list i =>
    obtain ⟨p, vs, rfl, hp, ra⟩ := c.list sG
    cases rx
    obtain ⟨its, rv, ⟨o, n, e1, e2, e3, e4⟩, hz⟩ := I.list (.inl (.inl hp) : SqL X.K H p vs)
    cases k <;> first | (cases hk; done) | (cases h; refine ⟨_, rfl, fun Q q => ?_⟩; first | exact IsiPair.list_int e1 e2 (q _) | exact IsiPair.list_bool e1 e2 (q _) | exact IsiPair.list_tuple e1 e2 (q _) | exact IsiPair.list_list e1 e2 (q s.toks) | exact IsiPair.list_str e1 e2 (q _) | exact IsiPair.list_dict e1 e2 (q _))
  | tuple i =>
    obtain ⟨p, vs, rfl, hp, ra⟩ := c.tuple sG
    cases rx
    obtain ⟨its, rv, ⟨o, e1, e2, n, e4⟩, hz⟩ := I.tuple hp
    cases k <;> first | (cases hk; done) | (cases h; refine ⟨_, rfl, fun Q q => ?_⟩; first | exact IsiPair.tuple_int e1 e2 (q _) | exact IsiPair.tuple_bool e1 e2 (q _) | exact IsiPair.tuple_tuple e1 e2 (q s.toks) | exact IsiPair.tuple_list e1 e2 (q _) | exact IsiPair.tuple_str e1 e2 (q _) | exact IsiPair.tuple_dict e1 e2 (q _))
  | dict kvs =>
    rcases c with c | ⟨_, _, _, _, z, _⟩
    · cases c with
      | scr hS he => cases k <;> first | (cases hk; done) | cases h
      | fn => cases k <;> first | (cases hk; done) | cases h
      | dct hG hl hr =>
        rename_i a ks vs ds
        cases rx
        obtain ⟨o, e1, e2⟩ := dct_at I.hok (sG _ _ hG)
        have nd : isDictD (.dict ((ks.map keyD).zip ds)) = false := dct_scr ks ds
        cases k <;> first | (cases hk; done) | (
          simp only [biD, nd] at h
          rw [if_neg Bool.false_ne_true] at h
          cases h
          refine ⟨_, rfl, fun Q q => ?_⟩
          first | exact IsiPair.dict_int e1 e2 (q _) | exact IsiPair.dict_bool e1 e2 (q _) | exact IsiPair.dict_tuple e1 e2 (q _) | exact IsiPair.dict_list e1 e2 (q _) | exact IsiPair.dict_str e1 e2 (q _) | exact IsiPair.dict_dict e1 e2 (q s.toks))
    · cases z
def rIsi' (K : PySem.W.Frag) (k : BiK) : List V → Hp → VK → Prop := fun xs H Q => ∃ x G d r, xs = [x, .ty (isiT k)] ∧ Sub G H ∧ Cn K G H x d ∧ biD k [d] = .ok r ∧ Out K G H r Q
theorem isi_call {k : BiK} (hk : isIsi k = true) : CallR X (.builtin "isinstance") (rIsi' X.K k) := by
  intro pins s σ H xs us Q I rx h
  obtain ⟨x, G, d, r, rfl, sG, c, e, q⟩ := h
  obtain ⟨u, u2, rfl, r1, r2⟩ := vals2 rx
  cases r2
  obtain ⟨b, rfl, f⟩ := isi_rule hk I sG c r1 e
  exact f _ fun tk => ⟨.bl b, H, I.tok _, rfl, out_v sG q (.bl b)⟩
theorem isiName_ok {ty : Str} {k : BiK} (h : isiName ty = some k) : isIsi k = true ∧ bootBuiltins ty = some (.type (isiT k)) ∧ ty ∈ biNames ∧ oddName ty = false := by
  have hm := PySem.mem_of_lookup h
  simp only [isiTab, List.mem_cons, Prod.mk.injEq, List.not_mem_nil, or_false] at hm
  rcases hm with ⟨ex, ek⟩ | ⟨ex, ek⟩ | ⟨ex, ek⟩ | ⟨ex, ek⟩ | ⟨ex, ek⟩ | ⟨ex, ek⟩
  · subst ex ek; exact ⟨rfl, boot_int', by decide, by decide⟩
  · subst ex ek; exact ⟨rfl, boot_bool', by decide, by decide⟩
  · subst ex ek; exact ⟨rfl, boot_tuple', by decide, by decide⟩
  · subst ex ek; exact ⟨rfl, boot_list', by decide, by decide⟩
  · subst ex ek; exact ⟨rfl, boot_str', by decide, by decide⟩
  · subst ex ek; exact ⟨rfl, boot_dict', by decide, by decide⟩
theorem isis_ok {ty : Str} {k : BiK} {p p2 : Pos} (ok : CtxOk Φ Γ τ W C X) (hx : gloB C.sc "isinstance" = true) (ht : gloB C.sc ty = true) (hn : isiName ty = some k) (he : ∀ x p, e ≠ .Starred x p) (h : PE X e (tE Φ Γ τ W X.K t)) :
    PE X (.Call (.Name "isinstance" p) [e, .Name ty p2] [] pos) (tE Φ Γ τ W X.K (.bi k (.cons t .nil))) := by
  obtain ⟨hk, hb, hm, ho⟩ := isiName_ok hn
  obtain ⟨o1, o2, o3⟩ := odd_ok ho
  have pt : PE X (.Name ty p2) (tC (.ty (isiT k))) := pe_bltn (gl_of ok ht) (ok.bi ty hm) hb rfl o3 o1
  refine pe_imp (pe_callB (isi_call hk) (gl_of ok hx) (ok.bi _ (by decide)) boot_isi' (pa_cons h (pa_cons pt pa_nil) (starE he)) (by decide) (by decide) (starE he) (by rfl)) fun σ H Q ⟨σD, G, S, h⟩ => ?_
  have h : NP τ W X.K σ (wE X.K σ Q) σD G H ((evE Φ Γ t σD).bind fun x => (biD k [cont x.2 x.1.nt]).bind fun r => .ok (r, x.2)) := by
    have e : evE Φ Γ (.bi k (.cons t .nil)) σD = (evE Φ Γ t σD).bind fun x => (biD k [cont x.2 x.1.nt]).bind fun r => .ok (r, x.2) := bi_one
    rw [← e]; exact h
  refine one_op kE S h fun x f1 G1 H1 S1 st1 hd1 h v ro1 => ?_
  obtain ⟨r, e2, h⟩ := kE.ok h (biD_nx _ _)
  exact ⟨v, G1, _, r, rfl, S1.sub, ro1.cn S1, e2, NP.out S1 h⟩

/-! ### list(range(..)), tuple(range(..)) -/
theorem rng_len (lo : Int) (n : Nat) : (rng lo n).length = n := by unfold rng; rw [List.length_map, List.length_range]
theorem rng_rp {K : PySem.W.Frag} {G : Hp} (a b : Int) : RpA K G (rgV a b) (rng a (b - a).toNat) := by
  unfold rgV rng
  have : ∀ l : List Nat, RpA K G (l.map fun (i : Nat) => V.int (a + (i : Nat))) (l.map fun (k : Nat) => PyData.int (a + (k : Int))) := fun l => by
    induction l with
    | nil => exact .nil
    | cons x l ih => exact .cons (.int _) ih
  exact this _
theorem rng_ok {i : Int} (h : rngOk i) : -(2 ^ 62) ≤ i ∧ i < 2 ^ 62 := by
  rw [lit62]
  exact h
/-- a range's ends -/
abbrev wRg (Q : Int → Int → Hp → Prop) : Hp → List D → Sts → Hp → Hp → Prop := fun _ ds _ _ H' => ∀ a b, rngOk a → rngOk b → ds = rng a (b - a).toNat → Q a b H'
def tRg (Φ : Fns) (Γ : List D) (τ : Tb) (W : EW) (K : PySem.W.Frag) (t : T) : L2.St → Hp → (Int → Int → Hp → Prop) → Prop := fun σV H Q => ∃ σD G, S2 τ K G H σD σV ∧ NP τ W K σV (wRg Q) σD G H ((evA Φ Γ t σD).bind fun q => (rngD (q.1.map (cont q.2))).bind fun ds => .ok (ds, q.2))
theorem up_Rg {Q : Int → Int → Hp → Prop} : Up (wRg Q) := fun _ _ _ _ _ _ _ h => h
abbrev kRg {K : PySem.W.Frag} {σV : L2.St} {Q : Int → Int → Hp → Prop} : Cont τ W σV (NP τ W K σV (wRg Q)) := cont_NP up_Rg
theorem rg1 {ta : T} {σD : Sts} : ((evA Φ Γ (.cons ta .nil) σD).bind fun q => (rngD (q.1.map (cont q.2))).bind fun ds => Res.ok (ds, q.2)) = (evE Φ Γ ta σD).bind fun x => (rngD [cont x.2 x.1.nt]).bind fun ds => .ok (ds, x.2) := by
  show ((evE Φ Γ ta σD).bind fun x => (evA Φ Γ .nil x.2).bind fun y => Res.ok (x.1.nt :: y.1, y.2)).bind _ = _
  cases evE Φ Γ ta σD <;> rfl
theorem rg2 {ta tb : T} {σD : Sts} : ((evA Φ Γ (.cons ta (.cons tb .nil)) σD).bind fun q => (rngD (q.1.map (cont q.2))).bind fun ds => Res.ok (ds, q.2)) = (evE Φ Γ ta σD).bind fun x => (evE Φ Γ tb x.2).bind fun y => (rngD [cont y.2 x.1.nt, cont y.2 y.1.nt]).bind fun ds => .ok (ds, y.2) := by
  show ((evE Φ Γ ta σD).bind fun x => ((evE Φ Γ tb x.2).bind fun y => (evA Φ Γ .nil y.2).bind fun z => Res.ok (y.1.nt :: z.1, z.2)).bind fun y => Res.ok (x.1.nt :: y.1, y.2)).bind _ = _
  cases evE Φ Γ ta σD with
  | ok x => show (((evE Φ Γ tb x.2).bind fun y => (evA Φ Γ .nil y.2).bind fun z => Res.ok (y.1.nt :: z.1, z.2)).bind fun y => Res.ok (x.1.nt :: y.1, y.2)).bind _ = (evE Φ Γ tb x.2).bind _; cases evE Φ Γ tb x.2 <;> rfl
  | ex c as => rfl
  | no => rfl
theorem prg_ok {rs : List Expr} {x : Expr} (IH : SE Φ Γ τ f) (ns : NS f) (ok : CtxOk Φ Γ τ W C X) (hr : rngArgs x = some rs) (hg : gloB C.sc "range" = true) (h : cL (f C) rs = some t) : PRg X x (tRg Φ Γ τ W X.K t) := by
  unfold rngArgs at hr
  have mg := ok.bi "range" (by decide)
  split at hr
  · split at hr
    · rename_i r p a pos2 ex
      subst ex
      cases hr
      obtain ⟨ta, e1, h⟩ := Option.bind_eq_some_iff.mp h
      obtain ⟨tr, e2, h⟩ := Option.map_eq_some_iff.mp h
      cases e2
      subst h
      have he : ∀ x p, a ≠ .Starred x p := fun x p z => by rw [z, ns] at e1; cases e1
      refine fun pins s σ H Q I hq => prg_1 (gl_of ok hg) mg (IH W C X a ta e1 ok).1 (starE he) pins s σ H Q I ?_
      obtain ⟨σD, G, S, h⟩ := hq
      rw [rg1] at h
      refine one_op kRg S h fun y f1 G1 H1 S1 st1 hd1 h v ro1 => ?_
      have c1 := ro1.cn S1
      obtain ⟨ds, er, h⟩ := kRg.ok h (rngD_nx _)
      generalize cont y.2 y.1.nt = d at c1 er
      cases d with
      | int n =>
        simp only [rngD] at er
        split at er
        · rename_i hr
          cases c1.int
          cases er
          exact ⟨_, rfl, NP.fin S1 h 0 _ ⟨by decide, by decide⟩ hr (by simp)⟩
        · cases er
      | _ => cases er
    · cases hr
  · split at hr
    · rename_i r p a b pos2 ex
      subst ex
      cases hr
      obtain ⟨ta, e1, h⟩ := Option.bind_eq_some_iff.mp h
      obtain ⟨tr, e2, h⟩ := Option.map_eq_some_iff.mp h
      subst h
      obtain ⟨tb, e3, e2⟩ := Option.bind_eq_some_iff.mp e2
      obtain ⟨tn, e4, h⟩ := Option.map_eq_some_iff.mp e2
      cases e4
      subst h
      have he : ∀ x p, a ≠ .Starred x p := fun x p z => by rw [z, ns] at e1; cases e1
      have he2 : ∀ x p, b ≠ .Starred x p := fun x p z => by rw [z, ns] at e3; cases e3
      refine fun pins s σ H Q I hq => prg_2 (gl_of ok hg) mg (IH W C X a ta e1 ok).1 (IH W C X b tb e3 ok).1 (starE he) (starE he2) (by rw [starE he2]; rfl) pins s σ H Q I ?_
      obtain ⟨σD, G, S, h⟩ := hq
      rw [rg2] at h
      refine two_op kRg S h fun x y G1 H1 S1 st1 hd1 h v w c1 c2 => ?_
      rw [← cont_nt] at c1 c2
      obtain ⟨ds, er, h⟩ := kRg.ok h (rngD_nx _)
      generalize cont y.2 x.1.nt = d at c1 er
      generalize cont y.2 y.1.nt = d' at c2 er
      cases d with
      | int n =>
        cases d' with
        | int m =>
          simp only [rngD] at er
          split at er
          · rename_i hr
            cases c1.int
            cases c2.int
            cases er
            exact ⟨_, _, rfl, rfl, NP.fin S1 h _ _ hr.1 hr.2 rfl⟩
          · cases er
        | _ => cases er
      | _ => cases d' <;> cases er
    · cases hr
  · cases hr
theorem rgOk_of {a b : Int} (ha : rngOk a) (hb : rngOk b) (h : (rng a (b - a).toNat).length ≤ sizeL) : RgOk a b := by
  rw [rng_len] at h
  obtain ⟨h1, h2⟩ := rng_ok ha
  obtain ⟨h3, h4⟩ := rng_ok hb
  exact ⟨h1, h2, h3, h4, h⟩
theorem notStar_rng {x : Expr} {rs : List Expr} (h : rngArgs x = some rs) : ∀ y p, x ≠ .Starred y p := fun y p z => by subst z; cases h
/-- the range told, then what it is for -/
theorem rg_op {K : PySem.W.Frag} {G H : Hp} {σD : Sts} {σV : L2.St} {β : Type} {N : Sts → Hp → Hp → Res β → Prop} (Cn : Cont τ W σV N) {a : T} {f : List D × Sts → Res β} (S : S2 τ K G H σD σV) (h : N σD G H ((evA Φ Γ a σD).bind fun q => (rngD (q.1.map (cont q.2))).bind fun ds => f (ds, q.2))) {k : Int → Int → Hp → Prop}
    (hk : ∀ ds σ1 G' H', S2 τ K G' H' σ1 σV → Step σD σV G H σ1 σV G' H' → Held σD σ1 → N σ1 G' H' (f (ds, σ1)) → ∀ a b, rngOk a → rngOk b → ds = rng a (b - a).toNat → k a b H') : tRg Φ Γ τ W K a σV H k := by
  refine ⟨σD, G, S, ?_⟩
  have h := Cn.bind h
  cases e : evA Φ Γ a σD with
  | ok q =>
    rw [e] at h
    obtain ⟨ds, e2, h⟩ := Cn.ok h (rngD_nx _)
    show NP τ W K σV (wRg k) σD G H ((rngD (q.1.map (cont q.2))).bind fun ds => .ok (ds, q.2))
    rw [e2]
    exact fun G' H' S' st hd => hk ds q.2 G' H' S' st hd (Cn.shift st hd h)
  | ex c as => rw [e] at h; exact h
  | no => rw [e] at h; exact h
theorem rgl_ok {rs : List Expr} {x : Expr} {p : Pos} (IH : SE Φ Γ τ f) (ns : NS f) (ok : CtxOk Φ Γ τ W C X) (hh : C.hot = false) (hl : gloB C.sc "list" = true) (hr : rngArgs x = some rs) (hg : gloB C.sc "range" = true) (h : cL (f C) rs = some t) :
    PE X (.Call (.Name "list" p) [x] [] pos) (tE Φ Γ τ W X.K (.rgl t)) := by
  refine pe_imp (pe_listRg (ok.calm hh) (gl_of ok hl) (ok.bi _ (by decide)) (prg_ok IH ns ok hr hg h) (starE (notStar_rng hr))) fun σ H Q ⟨σD, G, S, h⟩ => rg_op (f := fun q => if q.1.length ≤ sizeL then .ok (.t q.1, q.2) else .no) kE S h fun ds σ1 G' H' S' st hd h a b ha hb e => ?_
  dsimp only at h
  split at h
  · rename_i hz
    refine ⟨rgOk_of ha hb (by rw [← e]; exact hz), fun p np => ?_⟩
    subst e
    exact out_t S'.sub (NP.out S' h) np (rng_rp a b)
  · exact h.elim
theorem rgt_ok {rs : List Expr} {x : Expr} {p : Pos} (IH : SE Φ Γ τ f) (ns : NS f) (ok : CtxOk Φ Γ τ W C X) (hh : C.hot = false) (hl : gloB C.sc "tuple" = true) (hr : rngArgs x = some rs) (hg : gloB C.sc "range" = true) (h : cL (f C) rs = some t) :
    PE X (.Call (.Name "tuple" p) [x] [] pos) (tE Φ Γ τ W X.K (.rgt t)) := by
  refine pe_imp (pe_tupRg (ok.calm hh) (gl_of ok hl) (ok.bi _ (by decide)) (prg_ok IH ns ok hr hg h) (starE (notStar_rng hr))) fun σ H Q ⟨σD, G, S, h⟩ => rg_op (f := fun q => if q.1.length ≤ sizeL then .ok (.v (.tuple q.1), q.2) else .no) kE S h fun ds σ1 G' H' S' st hd h a b ha hb e => ?_
  dsimp only at h
  split at h
  · rename_i hz
    refine ⟨rgOk_of ha hb (by rw [← e]; exact hz), fun p np => ?_⟩
    subst e
    exact out_tup S'.sub (NP.out S' h) np (rng_rp a b)
  · exact h.elim
end
end Fz

/-! Ev9: calls of the text's own functions, methods of lists. -/
namespace Fz
open PySem PySem.Spec PyProof.Rows L2

section
variable {τ : Tb} {W : EW} {K : PySem.W.Frag} {G H : Hp} {σ : Sts} {σV : L2.St}

theorem ro_rv {K : PySem.W.Frag} {G H : Hp} {σ : Sts} {σV : L2.St} {v : V} {r : R} (a : RO K G σ σV v r) : RV K G H σ σV H v r := by
  cases r with
  | v d => exact a
  | p i => exact a
  | t ds => exact a.elim
/-- how the arguments go over -/
theorem pass_ok : ∀ (ms : List Bool) {rs : List R} {vs : List V} {σ : Sts} {G : Hp} {q : List D × Sts}, S2 τ K G H σ σV → ROs K G σ σV vs rs → passArgs ms rs σ = .ok q →
    ∃ G', S2 τ K G' H q.2 σV ∧ Step σ σV G H q.2 σV G' H ∧ Held σ q.2 ∧ vs.length = ms.length ∧ RPs K G' H ms vs q.1 ∧
      (∀ v ∈ insOf ms vs, ∃ i ∈ inoutIx ms rs, σV[i]? = some (some v)) ∧ (∀ i ∈ inoutIx ms rs, (∃ v ∈ insOf ms vs, σV[i]? = some (some v)) ∧ ∃ ds, q.2[i]? = some (Slot.own ds)) := by
  intro ms
  induction ms with
  | nil =>
    intro rs vs σ G q S ro e
    cases rs with
    | nil =>
      cases ro
      cases e
      exact ⟨G, S, Step.rfl', Held.rfl', rfl, trivial, (fun v hv => by cases hv), (fun i hi => by cases hi)⟩
    | cons r rs => cases e
  | cons m ms ih =>
    intro rs vs σ G q S ro e
    cases ro with
    | nil => cases m <;> cases e
    | @cons w ws r rs a b =>
      cases m with
      | true =>
        cases r with
        | v d => cases e
        | t ds => cases e
        | p i =>
          simp only [passArgs] at e
          split at e
          · rename_i ds hi
            obtain ⟨q1, e1, e⟩ := bind_ok e
            split at e
            · rename_i es hi2
              cases e
              obtain ⟨G', S', st, hd, hl, rp, m1, m2⟩ := ih S b e1
              obtain ⟨x, xs, z1, z2, z3, z4⟩ := S.own i ds hi
              obtain ⟨x', xs', y1, y2, y3, y4⟩ := S'.own i es hi2
              have hw := a.1
              rw [hw] at z1 y1
              cases z1
              cases y1
              rw [z2] at y2
              cases y2
              refine ⟨G', S', st, hd, by simp only [List.length_cons]; omega, ⟨⟨_, xs, ds, rfl, rfl, z2, y3, z4.mono st.gm⟩, rp⟩, fun v hv => ?_, fun j hj => ?_⟩
              · rcases List.mem_cons.mp hv with rfl | hv
                · exact ⟨i, List.mem_cons_self, hw⟩
                · obtain ⟨j, h1, h2⟩ := m1 v hv
                  exact ⟨j, List.mem_cons_of_mem _ h1, h2⟩
              · rcases List.mem_cons.mp hj with rfl | hj
                · exact ⟨⟨_, List.mem_cons_self, hw⟩, es, hi2⟩
                · obtain ⟨⟨v, h1, h2⟩, h3⟩ := m2 j hj
                  exact ⟨⟨v, List.mem_cons_of_mem _ h1, h2⟩, h3⟩
            · cases e
          · cases e
      | false =>
        have e : ((passArgs ms rs (frz σ r).2).bind fun w => .ok ((frz σ r).1 :: w.1, w.2)) = .ok q := by cases r <;> exact e
        obtain ⟨q1, e1, e⟩ := bind_ok e
        cases e
        obtain ⟨G1, S1, st1, su1, rp1, hd1⟩ := frz_ok (H0 := H) S (Step.rfl' (σD := σ) (σV := σV) (G := G) (H := H)) (ro_rv a)
        obtain ⟨G', S', st, hd, hl, rp, m1, m2⟩ := ih S1 (b.step st1.gm hd1) e1
        have ei : inoutIx (false :: ms) (r :: rs) = inoutIx ms rs := by cases r <;> rfl
        refine ⟨G', S', st1.trans st, hd1.trans hd, by simp only [List.length_cons]; omega, ⟨rp1.mono st.gm, rp⟩, ?_, ?_⟩
        · rw [ei]; exact m1
        · rw [ei]; exact m2
theorem ins_nodup {G : Hp} {σ : Sts} (S : S2 τ K G H σ σV) : ∀ (ms : List Bool) {rs : List R} {vs : List V}, vs.length = rs.length → (∀ k : Nat, ∀ i, rs[k]? = some (R.p i) → ∃ v, vs[k]? = some v ∧ σV[i]? = some (some v)) →
    (∀ i ∈ inoutIx ms rs, ∃ ds, σ[i]? = some (Slot.own ds)) → (inoutIx ms rs).Nodup → (∀ k : Nat, ms[k]? = some true → ∃ i, rs[k]? = some (R.p i)) → (insOf ms vs).Nodup ∧ ∀ v ∈ insOf ms vs, ∃ i ∈ inoutIx ms rs, σV[i]? = some (some v) := by
  intro ms
  induction ms with
  | nil => intro rs vs _ _ _ _ _; exact ⟨List.nodup_nil, fun v hv => by cases hv⟩
  | cons m ms ih =>
    intro rs vs hl hv ho hn hp
    cases vs with
    | nil => cases m <;> exact ⟨List.nodup_nil, fun v hv => by cases hv⟩
    | cons w ws =>
      cases rs with
      | nil => cases hl
      | cons r rs =>
        have hl' : ws.length = rs.length := by simpa using hl
        have hv' : ∀ k : Nat, ∀ i, rs[k]? = some (R.p i) → ∃ v, ws[k]? = some v ∧ σV[i]? = some (some v) := fun k i h => by
          obtain ⟨v, h1, h2⟩ := hv (k + 1) i (by simpa using h)
          exact ⟨v, by simpa using h1, h2⟩
        have hp' : ∀ k : Nat, ms[k]? = some true → ∃ i, rs[k]? = some (R.p i) := fun k h => by
          obtain ⟨i, h1⟩ := hp (k + 1) (by simpa using h)
          exact ⟨i, by simpa using h1⟩
        cases m with
        | false =>
          have ei : inoutIx (false :: ms) (r :: rs) = inoutIx ms rs := by cases r <;> rfl
          rw [ei] at ho hn ⊢
          exact ih hl' hv' ho hn hp'
        | true =>
          obtain ⟨i, h0⟩ := hp 0 rfl
          have h0 : r = R.p i := by simpa using h0
          subst h0
          have hn2 := List.nodup_cons.mp hn
          obtain ⟨d1, d2⟩ := ih hl' hv' (fun j hj => ho j (List.mem_cons_of_mem _ hj)) hn2.2 hp'
          obtain ⟨w', h1, h2⟩ := hv 0 i rfl
          have h1 : w = w' := by simpa using h1
          subst h1
          refine ⟨List.nodup_cons.mpr ⟨fun hm => ?_, d1⟩, fun v hv => ?_⟩
          · obtain ⟨j, j1, j2⟩ := d2 w hm
            obtain ⟨ds, o1⟩ := ho i List.mem_cons_self
            obtain ⟨es, o2⟩ := ho j (List.mem_cons_of_mem _ j1)
            obtain ⟨a, xs, z1, _⟩ := S.own i ds o1
            rw [h2] at z1
            cases z1
            have := S.sep i j ds es a o1 o2 h2 j2
            subst this
            exact hn2.1 j1
          · rcases List.mem_cons.mp hv with rfl | hv
            · exact ⟨i, List.mem_cons_self, h2⟩
            · obtain ⟨j, j1, j2⟩ := d2 v hv
              exact ⟨j, List.mem_cons_of_mem _ j1, j2⟩
theorem ROs.len {G : Hp} {σ : Sts} : ∀ {vs : List V} {rs : List R}, ROs K G σ σV vs rs → vs.length = rs.length
  | _, _, .nil => rfl
  | _, _, .cons _ b => by rw [List.length_cons, List.length_cons, b.len]
theorem ROs.place {G : Hp} {σ : Sts} : ∀ {vs : List V} {rs : List R}, ROs K G σ σV vs rs → ∀ k : Nat, ∀ i, rs[k]? = some (R.p i) → ∃ v, vs[k]? = some v ∧ σV[i]? = some (some v)
  | _, _, .nil, _, _, h => by simp at h
  | _, _, .cons a _, 0, i, h => by
    have h := Option.some.inj h
    subst h
    exact ⟨_, rfl, a.1⟩
  | _, _, .cons _ b, k + 1, i, h => by
    obtain ⟨v, h1, h2⟩ := b.place k i (by simpa using h)
    exact ⟨v, by simpa using h1, h2⟩
theorem pass_modes : ∀ (ms : List Bool) {rs : List R} {σ : Sts} {q : List D × Sts}, passArgs ms rs σ = .ok q → ∀ k : Nat, ms[k]? = some true → ∃ i, rs[k]? = some (R.p i) := by
  intro ms
  induction ms with
  | nil => intro rs σ q _ k h; simp at h
  | cons m ms ih =>
    intro rs σ q e k h
    cases rs with
    | nil => cases m <;> cases e
    | cons r rs =>
      cases m with
      | true =>
        cases r with
        | v d => cases e
        | t ds => cases e
        | p i =>
          cases k with
          | zero => exact ⟨i, rfl⟩
          | succ k =>
            simp only [passArgs] at e
            split at e
            · obtain ⟨q1, e1, e⟩ := bind_ok e
              obtain ⟨j, hj⟩ := ih e1 k (by simpa using h)
              exact ⟨j, by simpa using hj⟩
            · cases e
      | false =>
        cases k with
        | zero => cases h
        | succ k =>
          have e : ((passArgs ms rs (frz σ r).2).bind fun w => .ok ((frz σ r).1 :: w.1, w.2)) = .ok q := by cases r <;> exact e
          obtain ⟨q1, e1, e⟩ := bind_ok e
          obtain ⟨j, hj⟩ := ih e1 k (by simpa using h)
          exact ⟨j, by simpa using hj⟩
/-- the slots behind a call -/
theorem back_slots {G2 H2 : Hp} : ∀ (ms : List Bool) {rs : List R} {vs : List V} {os : List (List D)} {σ σ2 : Sts}, backArgs ms rs os σ = .ok σ2 → (inoutIx ms rs).Nodup → vs.length = rs.length →
    (∀ k : Nat, ∀ i, rs[k]? = some (R.p i) → ∃ v, vs[k]? = some v ∧ σV[i]? = some (some v)) → ROuts K G2 H2 (insOf ms vs) os →
    σ2.length = σ.length ∧ (∀ j, j ∉ inoutIx ms rs → σ2[j]? = σ[j]?) ∧ ∀ j ∈ inoutIx ms rs, j < σ.length → ∃ a xs o, σV[j]? = some (some (V.ref a)) ∧ V.ref a ∈ insOf ms vs ∧ σ2[j]? = some (Slot.own o) ∧ H2 a = some (HO.lst xs) ∧ G2 a = none ∧ RpA K G2 xs o := by
  intro ms
  induction ms with
  | nil =>
    intro rs vs os σ σ2 e _ _ _ _
    cases rs with
    | nil =>
      cases os with
      | nil => cases e; exact ⟨rfl, fun _ _ => rfl, fun j hj => by cases hj⟩
      | cons o os => cases e
    | cons r rs => cases e
  | cons m ms ih =>
    intro rs vs os σ σ2 e hn hl hv ro
    cases rs with
    | nil => cases m <;> cases os <;> cases e
    | cons r rs =>
      cases vs with
      | nil => cases hl
      | cons w ws =>
        have hl' : ws.length = rs.length := by simpa using hl
        have hv' : ∀ k : Nat, ∀ i, rs[k]? = some (R.p i) → ∃ v, ws[k]? = some v ∧ σV[i]? = some (some v) := fun k i h => by
          obtain ⟨v, h1, h2⟩ := hv (k + 1) i (by simpa using h)
          exact ⟨v, by simpa using h1, h2⟩
        cases m with
        | false =>
          have ei : inoutIx (false :: ms) (r :: rs) = inoutIx ms rs := by cases r <;> rfl
          rw [ei] at hn ⊢
          have e : backArgs ms rs os σ = .ok σ2 := by cases r <;> exact e
          exact ih e hn hl' hv' ro
        | true =>
          cases r with
          | v d => cases os <;> cases e
          | t ds => cases os <;> cases e
          | p i =>
            cases os with
            | nil => cases e
            | cons o os =>
              have e : backArgs ms rs os (σ.set i (.own o)) = .ok σ2 := e
              have hn2 := List.nodup_cons.mp hn
              obtain ⟨⟨a, xs, rfl, g1, g2, g3⟩, ro⟩ := ro
              obtain ⟨h1, h2, h3⟩ := ih e hn2.2 hl' hv' ro
              rw [List.length_set] at h1 h3
              obtain ⟨w', z1, z2⟩ := hv 0 i rfl
              have z1 : V.ref a = w' := by simpa using z1
              subst z1
              refine ⟨h1, fun j hj => ?_, fun j hj hlt => ?_⟩
              · have hj := not_or.mp (mt List.mem_cons.mpr hj)
                rw [h2 j hj.2, List.getElem?_set_ne (Ne.symm hj.1)]
              · rcases List.mem_cons.mp hj with rfl | hj
                · exact ⟨a, xs, o, z2, List.mem_cons_self, by rw [h2 j hn2.1, List.getElem?_set_self hlt], g1, g2, g3⟩
                · obtain ⟨a', xs', o', q1, q2, q3⟩ := h3 j hj hlt
                  exact ⟨a', xs', o', q1, List.mem_cons_of_mem _ q2, q3⟩
theorem xd_nt {f : List (Str × V)} : NoTbl (.xd f) := fun _ z => by cases z
/-- the exception's fields are no list of a slot -/
theorem S2.xno (S : S2 τ K G H σ σV) {d : Addr} {f : List (Str × V)} (e : τ.xo = some (d, f)) : ¬ Own σ σV d := fun ⟨i, ds, h1, h2⟩ => by
  obtain ⟨a, vs, e1, e2, _⟩ := S.own i ds h1
  rw [h2] at e1
  cases e1
  rw [S.xo d f e] at e2
  cases e2
/-- what a call may let out -/
abbrev eX (K : PySem.W.Frag) (W : EW) : XK := fun cls d H => ∃ c as, ExcAt K c as cls d H ∧ W c as H
theorem call_read {F : FnSem} {rs : List R} {vs : List V} {Q : VK} (S : S2 τ K G H σ σV) (ro : ROs K G σ σV vs rs) (h : NP τ W K σV (wE K σV Q) σ G H (callF F rs σ)) : spF τ.l K F vs H Q (eX K W) := by
  unfold callF at h
  split at h
  case isFalse => exact h.elim
  rename_i hn
  obtain ⟨w, e1, h⟩ := kE.ok h (passArgs_nx _ _ _)
  obtain ⟨G1, S1, st1, hd1, hl, rp, m1, m2⟩ := pass_ok _ S ro e1
  have h := kE.shift st1 hd1 h
  have hpl := ro.place
  obtain ⟨nd, _⟩ := ins_nodup S1 _ ro.len hpl (fun i hi => (m2 i hi).2) hn (pass_modes _ e1)
  refine ⟨G1, w.1, S1.sub, S1.tabs, S1.nt, hl, rp, nd, ?_⟩
  cases er : F.run w.1 with
  | no => rw [er] at h; exact h.elim
  | ex c as =>
    rw [er] at h
    show (F.inout.all fun b => !b) = true ∧ _
    have h : NP τ W K σV (wE K σV Q) w.2 G1 H ((if (F.inout.all fun b => !b) = true then (Res.ex c as : Res (R × List (List D))) else .no).bind fun w' => (backArgs F.inout rs w'.2 w.2).bind fun σ => .ok (w'.1, σ)) := h
    split at h
    · rename_i ha
      exact ⟨ha, fun H' px cls d ea => ⟨c, as, ea, h H' ⟨fun b o hb nt _ => px.keep b o hb nt, px.dom, px.tabs⟩⟩⟩
    · exact h.elim
  | ok u =>
    rw [er] at h
    have h : NP τ W K σV (wE K σV Q) w.2 G1 H ((backArgs F.inout rs u.2 w.2).bind fun σ => .ok (u.1, σ)) := h
    obtain ⟨σ2, e3, h⟩ := kE.ok h (backArgs_nx _ _ _ _)
    show ∀ v G' H', _
    intro v G2 H2 po rn outs
    obtain ⟨b1, b2, b3⟩ := back_slots _ e3 hn ro.len hpl outs
    -- an inout slot's address is an argument
    have ownIn : ∀ i ds a, w.2[i]? = some (Slot.own ds) → σV[i]? = some (some (V.ref a)) → V.ref a ∈ insOf F.inout vs → i ∈ inoutIx F.inout rs := fun i ds a h1 h2 h3 => by
      obtain ⟨j, j1, j2⟩ := m1 _ h3
      obtain ⟨_, es, j3⟩ := m2 j j1
      have := S1.sep i j ds es a h1 j3 h2 j2
      subst this
      exact j1
    have insOwn : ∀ b, V.ref b ∈ insOf F.inout vs → Own w.2 σV b := fun b hb => by
      obtain ⟨j, j1, j2⟩ := m1 _ hb
      obtain ⟨_, es, j3⟩ := m2 j j1
      exact ⟨j, es, j3, j2⟩
    have ltI : ∀ j ∈ inoutIx F.inout rs, j < w.2.length := fun j hj => by
      obtain ⟨_, es, j3⟩ := m2 j hj
      exact (List.getElem?_eq_some_iff.mp j3).1
    have own2 : ∀ b, Own σ2 σV b → Own w.2 σV b := fun b ⟨i, ds, h1, h2⟩ => by
      by_cases hi : i ∈ inoutIx F.inout rs
      · obtain ⟨_, es, j3⟩ := m2 i hi
        exact ⟨i, es, j3, h2⟩
      · rw [b2 i hi] at h1
        exact ⟨i, ds, h1, h2⟩
    have S2' : S2 τ K G2 H2 σ2 σV := by
      refine ⟨by rw [b1]; exact S1.len, po.sub, fun i d h1 => ?_, fun i ds h1 => ?_, fun i j ds es a h1 h2 h3 h4 => ?_, po.tabs, po.nt, fun i h1 => ?_, fun d f e => po.keep d _ (S1.xo d f e) xd_nt fun z => S1.xno e (insOwn d z)⟩
      · by_cases hi : i ∈ inoutIx F.inout rs
        · obtain ⟨a, xs, o, z1, z2, z3, _⟩ := b3 i hi (ltI i hi)
          rw [h1] at z3
          cases z3
        · rw [b2 i hi] at h1
          obtain ⟨x, y1, y2⟩ := S1.val i d h1
          exact ⟨x, y1, y2.mono po.gm⟩
      · by_cases hi : i ∈ inoutIx F.inout rs
        · obtain ⟨a, xs, o, z1, z2, z3, z4, z5, z6⟩ := b3 i hi (ltI i hi)
          rw [h1] at z3
          cases z3
          exact ⟨a, xs, z1, z4, z5, z6⟩
        · rw [b2 i hi] at h1
          obtain ⟨a, xs, y1, y2, y3, y4⟩ := S1.own i ds h1
          have hno : V.ref a ∉ insOf F.inout vs := fun z => hi (ownIn i ds a h1 y1 z)
          exact ⟨a, xs, y1, po.keep a _ y2 lst_nt hno, po.gn a y3 (St.lst y2) hno, y4.mono po.gm⟩
      · obtain ⟨ds', o1⟩ : ∃ ds', w.2[i]? = some (Slot.own ds') := by
          by_cases hi : i ∈ inoutIx F.inout rs
          · exact (m2 i hi).2
          · rw [b2 i hi] at h1; exact ⟨_, h1⟩
        obtain ⟨es', o2⟩ : ∃ ds', w.2[j]? = some (Slot.own ds') := by
          by_cases hi : j ∈ inoutIx F.inout rs
          · exact (m2 j hi).2
          · rw [b2 j hi] at h2; exact ⟨_, h2⟩
        exact S1.sep i j ds' es' a o1 o2 h3 h4
      · by_cases hi : i ∈ inoutIx F.inout rs
        · obtain ⟨a, xs, o, z1, z2, z3, _⟩ := b3 i hi (ltI i hi)
          rw [h1] at z3
          cases z3
        · rw [b2 i hi] at h1
          exact S1.exc i h1
    have st2 : Step w.2 σV G1 H σ2 σV G2 H2 :=
      ⟨po.gm, fun b h1 h2 h3 => po.gn b h1 h2 fun z => h3 (insOwn b z), fun b o h1 nt h2 => po.keep b o h1 nt fun z => h2 (insOwn b z), po.dom, fun b h1 => .inl (own2 b h1)⟩
    have hd2 : Held w.2 σ2 := ⟨b1, fun i s h1 h2 => by
      by_cases hi : i ∈ inoutIx F.inout rs
      · obtain ⟨a, xs, o, z1, z2, z3, _⟩ := b3 i hi (ltI i hi)
        exact ⟨_, z3, rfl⟩
      · exact ⟨s, by rw [b2 i hi]; exact h1, h2⟩⟩
    refine h G2 H2 S2' st2 hd2 v ?_
    cases hu : u.1 with
    | v d => rw [hu] at rn; exact rn
    | p i => rw [hu] at rn; exact rn.elim
    | t ds =>
      rw [hu] at rn
      obtain ⟨a, xs, f1, f2, f3, f4, f5⟩ := rn
      exact ⟨a, xs, f1, f2, f3, fun z => f4 (Own.some S1 (own2 a z)).1, f4, f5⟩
end

section
variable {Φ : Fns} {Γ : List D} {τ : Tb} {W : EW} {X : Cx} {C : CC} {e a b c : Expr} {es : List Expr} {t ta tb tc : T} {pos : Pos} {f : CC → Expr → Option T}
theorem run_fnG {g : Bool} {k : Nat} {fa : Addr} {fd : FuncData} {ps : List Str} {sp : Sp} {E : XK} {pins : List (Addr × Obj)} {σ : L2.St} {H : Hp} {s : Shared} {Q : VK} {us : List Value} {vs : List V} (F : FnG g X.prog X.w X.K X.mg X.base k fa fd ps sp) (hr : Room k X.A) (ha : g = true → X.A.guards = some []) (hb : Binds X.K fd ps [])
    (hx : Passes (L2.CX X.prog X.w) X E) (I : Inv X pins σ H s) (r : Vals vs us) (h : sp vs H Q E) : wpAny (model X.prog X.w) X.A (call (.ref fa) us) (EP X pins σ Q) X.xe s := by
  have hl : us.length = ps.length := by rw [← r.length]; exact F.len _ _ _ _ h
  have bd := hb s us I.kIn (by simpa using hl)
  rw [List.append_nil] at bd
  refine wpAny_call (codeAny_mono (F.run X.A X.stack s H ⟨us, []⟩ us vs Q E hr ha I.env0 bd r h) fun r s' hq => ?_)
  match r, hq with
  | .error e, hq => exact hx pins σ H s e s' I hq
  | .ok (.ret u), hq => exact I.after hq
  | .ok .next, hq => exact False.elim hq
  | .ok .brk, hq => exact False.elim hq
  | .ok .cont, hq => exact False.elim hq
theorem fn_ok {x : Str} {p : Pos} {i : Nat} (IH : SE Φ Γ τ f) (ns : NS f) (ok : CtxOk Φ Γ τ W C X) (hx : gloB C.sc x = true) (ho : oddName x = false) (hi : C.fns.lookup x = some i) (h : cL (f C) es = some t) :
    PE X (.Call (.Name x p) es [] pos) (tE Φ Γ τ W X.K (.call i t)) := by
  obtain ⟨fa, fd, ps, k, h1, h2, h3, h4, h5, h6⟩ := ok.fns x i hi
  obtain ⟨o1, o2, o3⟩ := odd_ok ho
  have px : Passes (L2.CX X.prog X.w) X (eX X.K W) := passes_call ok.tk fun cls d σ H z => z
  cases es with
  | nil =>
    cases h
    refine ⟨fun pins s σ H Q I hq => ?_⟩
    obtain ⟨σD, G, S, hq⟩ := hq
    refine wpAny_Call_Name_kw (ld_glob I (gl_of ok hx) h1 ?_ o1)
    exact PySem.W.callWith_K0 I.kIn h2 (run_fnG (us := []) h4 h5 ok.gd h3 px I .nil (call_read (F := Φ i) (rs := []) S .nil hq))
  | cons e es =>
    have hs := noStar (fun x p => ns C x p) h X.env
    obtain ⟨t1, e1, h'⟩ := Option.bind_eq_some_iff.mp h
    have he : ∀ x p, e ≠ .Starred x p := fun x p z => by rw [z, ns] at e1; cases e1
    have hse := starE (X := X) (es := es) he
    rw [hse, List.any_cons] at hs
    have hs2 : (starEach es X.env).any (·.1) = false := by simpa using hs
    refine ⟨fun pins s σ H Q I hq => ?_⟩
    obtain ⟨σD, G, S, hq⟩ := hq
    refine wpAny_Call_Name_kw (ld_glob I (gl_of ok hx) h1 ?_ o1)
    refine PySem.W.callWith_K (h₀ := X.base) I.ok.mod.kin h2 (thn ((args_ok IH ns ok h).run pos pins s σ H (fun vs H1 => spF τ.l X.K (Φ i) vs H1 Q (eX X.K W)) I (args_op kE S hq fun w e1 G' H' S' st hd hq vs ros => call_read S' ros hq)) fun us s1 ⟨vs, H1, I1, r, q⟩ => ⟨I1.kIn, ?_⟩) hse (backTo_any hs2)
    exact run_fnG h4 h5 ok.gd h3 px I1 r q
end
end Fz

/-! Ev30: zip of a list and a tuple, in any mix. -/
namespace Fz
open PySem PySem.Spec PyProof.Rows L2 RZ
/-- a walk over a tuple (t) or a list -/
def WIt (t : Bool) (h : Heap) (i l : Addr) (k : Nat) : Prop := match t with
  | true => h.IsTupleIter i l k
  | false => h.IsListIter i l k
def WSq (t : Bool) (h : Heap) (l : Addr) (xs : Array Value) : Prop := match t with
  | true => h.IsTuple l xs
  | false => h.IsList l xs
theorem WIt.ext {t : Bool} {h h' : Heap} {i l b : Addr} {k : Nat} (x : WIt t h i l k) (e : Heap.ExtBut b h h') (n : i ≠ b) : WIt t h' i l k := by
  cases t
  · exact Heap.IsListIter.extBut x e n
  · exact Heap.IsTupleIter.extBut x e n
theorem WSq.ext {t : Bool} {h h' : Heap} {l b : Addr} {xs : Array Value} (x : WSq t h l xs) (e : Heap.ExtBut b h h') (n : l ≠ b) : WSq t h' l xs := by
  cases t
  · exact Heap.IsList.extBut x e n
  · exact Heap.IsTuple.extBut x e n
theorem WIt.at {t : Bool} {h h' : Heap} {i l : Addr} {k : Nat} (x : WIt t h i l k) (e : ∀ o, h.get? i = some o → h'.get? i = some o) : WIt t h' i l k := by
  cases t
  · exact Heap.IsListIter.at x e
  · exact Heap.IsTupleIter.at x e
theorem WIt.obj {t : Bool} {h : Heap} {i l : Addr} {k : Nat} (x : WIt t h i l k) : ∃ o, h.get? i = some o ∧ ∀ v, o.data ≠ .seq v := by
  cases t
  · obtain ⟨o, e, _, d⟩ := x
    exact ⟨o, e, fun v q => by rw [d] at q; cases q⟩
  · obtain ⟨o, e, _, d⟩ := x
    exact ⟨o, e, fun v q => by rw [d] at q; cases q⟩
theorem WIt.objC {t : Bool} {h : Heap} {i l : Addr} {k : Nat} (x : WIt t h i l k) : ∃ o, h.get? i = some o ∧ ∀ v, o.data ≠ .cell v := by
  cases t
  · obtain ⟨o, e, _, d⟩ := x
    exact ⟨o, e, fun v q => by rw [d] at q; cases q⟩
  · obtain ⟨o, e, _, d⟩ := x
    exact ⟨o, e, fun v q => by rw [d] at q; cases q⟩
section
variable {prog : Program} {w : World} {A : Around} {E : Value → Shared → Prop} {s : Shared}
theorem next_some {t : Bool} {i l : Addr} {k : Nat} {xs : Array Value} {x : Value} {Q : Value → Shared → Prop} (h1 : WIt t s.heap i l k) (h2 : WSq t s.heap l xs) (hx : xs[k]? = some x)
    (hQ : ∀ h', WIt t h' i l (k + 1) → Heap.SameBut i s.heap h' → Q x { s with heap := h' }) : wpAny (model prog w) A (Builtin.SmallTypes.nextOf (.ref i)) Q E s := by
  cases t
  · exact wpAny_nextOf_list_item h1 h2 hx hQ
  · exact nextOf_tuple_item h1 h2 hx hQ
theorem next_none {t : Bool} {i l : Addr} {k : Nat} {xs : Array Value} {Q : Value → Shared → Prop} (hh : A.handled = none) (h1 : WIt t s.heap i l k) (h2 : WSq t s.heap l xs) (hx : xs[k]? = none)
    (hE : ∀ h' e, Heap.ExtBut i s.heap h' → (∃ o, h'.get? e = some o ∧ o.cls = .type "StopIteration") → E (.ref e) { s with heap := h' }) : wpAny (model prog w) A (Builtin.SmallTypes.nextOf (.ref i)) Q E s := by
  cases t
  · exact wpAny_nextOf_list_end hh h1 h2 hx hE
  · exact nextOf_tuple_end hh h1 h2 hx hE
/-- the zip's turn, both walks having an item -/
theorem mix_some {t1 t2 : Bool} {z TI TO i1 i2 l1 l2 : Addr} {k1 k2 : Nat} {xs ys : Array Value} {x y a b : Value} {Q : Value → Shared → Prop} (D : ZipApart z TI TO i1 i2 l1 l2)
    (hz : IsZip s.heap z TI TO .none) (hI : IsPair s.heap TI (.ref i1) (.ref i2)) (hO : IsPair s.heap TO a b) (w1 : WIt t1 s.heap i1 l1 k1) (w2 : WIt t2 s.heap i2 l2 k2) (q1 : WSq t1 s.heap l1 xs) (q2 : WSq t2 s.heap l2 ys) (hx : xs[k1]? = some x) (hy : ys[k2]? = some y)
    (hQ : ∀ h', IsZip h' z TI TO (rawInt s.heap.objs.size) → IsPair h' TO x y → WIt t1 h' i1 l1 (k1 + 1) → WIt t2 h' i2 l2 (k2 + 1) → IsPair h' s.heap.objs.size x y → h'.objs.size = s.heap.objs.size + 1 →
      (∀ c o, c ≠ z → c ≠ TO → c ≠ i1 → c ≠ i2 → s.heap.get? c = some o → h'.get? c = some o) → Q (.ref s.heap.objs.size) { s with heap := h' }) :
    wpAny (model prog w) A (Builtin.«zip.__next__» ⟨[.ref z], []⟩) (fun fin s' => ∃ v, fin = .done (.ret v) ∧ Q v s') E s := by
  show wpAny _ _ (field (.ref z) 2 >>= _) _ _ _
  refine wpAny_bind (wpAny_field hz rfl (x := .bool false) rfl ?_)
  show wpAny _ _ (field (.ref z) 3 >>= _) _ _ _
  refine wpAny_bind (wpAny_field hz rfl (x := .ref TI) rfl (wpAny_bind (wpAny_seqItems hI rfl ?_)))
  show wpAny _ _ (Builtin.SmallTypes.ownedTupleIsFree (.ref z) >>= _) _ _ _
  unfold Builtin.SmallTypes.ownedTupleIsFree
  refine wpAny_bind (wpAny_bind (wpAny_field hz rfl (x := .none) rfl (wpAny_pure ?_)))
  simp only [if_true, List.zipIdx_cons, List.zipIdx_nil, List.forIn_cons, List.forIn_nil]
  refine wpAny_bind (wpAny_rule (wpAny_bind (wpAny_field hz rfl (x := .ref TO) rfl (wpAny_bind (wpAny_setField_rec hz (by simp) fun g1 z1 e1 => wpAny_bind ?_)))))
  refine wpAny_bind (wpAny_bind (wpAny_onRaise ?_))
  show wpAny _ _ (Builtin.SmallTypes.nextOf (.ref i1) >>= _) _ _ _
  refine wpAny_bind (next_some (w1.ext e1.extBut D.i1z) (q1.ext e1.extBut D.l1z) hx fun g2 v2 e2 => wpAny_pure ?_)
  have o2 : IsPair g2 TO a b := e2.extBut _ _ D.TOi1 (e1.extBut _ _ D.TOz hO)
  refine wpAny_bind (wpAny_seqItems o2 rfl (wpAny_bind (wpAny_updateSeq_pair o2 fun g3 o3 e3 => wpAny_bind (wpAny_letGo (wpAny_pure ?_)))))
  replace o3 : IsPair g3 TO x b := o3
  refine wpAny_bind (wpAny_bind (wpAny_onRaise ?_))
  show wpAny _ _ (Builtin.SmallTypes.nextOf (.ref i2) >>= _) _ _ _
  have v3 := ((w2.ext e1.extBut D.i2z).ext e2.extBut D.i12.symm).ext e3.extBut D.TOi2.symm
  have r3 := ((q2.ext e1.extBut D.l2z).ext e2.extBut D.l2i1).ext e3.extBut D.l2TO
  refine wpAny_bind (next_some v3 r3 hy fun g4 v4 e4 => wpAny_pure ?_)
  have o4 : IsPair g4 TO x b := e4.extBut _ _ D.TOi2 o3
  refine wpAny_bind (wpAny_seqItems o4 rfl (wpAny_bind (wpAny_updateSeq_pair o4 fun g5 o5 e5 => wpAny_bind (wpAny_letGo (wpAny_pure (wpAny_pure ?_))))))
  replace o5 : IsPair g5 TO x y := o5
  refine wpAny_bind (wpAny_seqItems o5 rfl (wpAny_bind (wpAny_newTuple ?_)))
  have sz : g5.objs.size = s.heap.objs.size := by rw [e5.1, e4.1, e3.1, e2.1, e1.1]
  have keep : ∀ c o, c ≠ z → c ≠ TO → c ≠ i1 → c ≠ i2 → s.heap.get? c = some o → g5.get? c = some o := fun c o n1 n2 n3 n4 e =>
    e5.extBut _ _ n2 (e4.extBut _ _ n4 (e3.extBut _ _ n2 (e2.extBut _ _ n3 (e1.extBut _ _ n1 e))))
  have z5 : IsZip g5 z TI TO .ellipsis := e5.extBut _ _ D.TOz.symm (e4.extBut _ _ D.i2z.symm (e3.extBut _ _ D.TOz.symm (e2.extBut _ _ D.i1z.symm z1)))
  have u1 : WIt t1 g5 i1 l1 (k1 + 1) := ((v2.ext e3.extBut D.TOi1.symm).ext e4.extBut D.i12).ext e5.extBut D.TOi1.symm
  have u2 : WIt t2 g5 i2 l2 (k2 + 1) := v4.ext e5.extBut D.TOi2.symm
  have zl : z < g5.objs.size := Heap.lt_size z5
  show wpAny _ _ (Builtin.SmallTypes.ownedTupleHandOut (.ref z) (.ref g5.objs.size) >>= _) _ _ _
  unfold Builtin.SmallTypes.ownedTupleHandOut
  have z6 : IsZip (g5.push { cls := .type "tuple", data := .seq #[x, y] }) z TI TO .ellipsis := Heap.get?_push_of_some _ z5
  refine wpAny_bind (wpAny_bind (wpAny_setField_rec z6 (by simp) fun g7 z7 e7 => ?_))
  replace z7 : IsZip g7 z TI TO (rawInt g5.objs.size) := z7
  refine wpAny_setField_rec z7 (by simp) fun g8 z8 e8 => ?_
  replace z8 : IsZip g8 z TI TO (rawInt g5.objs.size) := z8
  have up : ∀ c o, c ≠ z → g5.get? c = some o → g8.get? c = some o := fun c o n e => e8.extBut _ _ n (e7.extBut _ _ n (Heap.get?_push_of_some _ e))
  have p8 : IsPair g8 g5.objs.size x y := e8.extBut _ _ (Nat.ne_of_gt zl) (e7.extBut _ _ (Nat.ne_of_gt zl) (Heap.get?_push_size _ rfl))
  have s8 : g8.objs.size = g5.objs.size + 1 := by rw [e8.1, e7.1, Heap.size_push]
  refine wpAny_pure ⟨_, rfl, ?_⟩
  show Q (.ref g5.objs.size) _
  rw [sz] at z8 p8 s8 ⊢
  exact hQ g8 z8 (up _ _ D.TOz o5) (u1.at fun o e => up _ o D.i1z e) (u2.at fun o e => up _ o D.i2z e) p8 s8 fun c o n1 n2 n3 n4 e => up c o n1 (keep c o n1 n2 n3 n4 e)
/-- .. one of both at its end -/
theorem mix_none {t1 t2 : Bool} {z TI TO i1 i2 l1 l2 : Addr} {k1 k2 : Nat} {xs ys : Array Value} {a b : Value} {Q : Fin → Shared → Prop} (hh : A.handled = none) (D : ZipApart z TI TO i1 i2 l1 l2)
    (hz : IsZip s.heap z TI TO .none) (hI : IsPair s.heap TI (.ref i1) (.ref i2)) (hO : IsPair s.heap TO a b) (w1 : WIt t1 s.heap i1 l1 k1) (w2 : WIt t2 s.heap i2 l2 k2) (q1 : WSq t1 s.heap l1 xs) (q2 : WSq t2 s.heap l2 ys) (end_ : xs[k1]? = none ∨ ys[k2]? = none)
    (hE : ∀ h' e, (∀ c o, c ≠ z → c ≠ TO → c ≠ i1 → c ≠ i2 → s.heap.get? c = some o → h'.get? c = some o) → (∃ o, h'.get? e = some o ∧ o.cls = .type "StopIteration") → E (.ref e) { s with heap := h' }) :
    wpAny (model prog w) A (Builtin.«zip.__next__» ⟨[.ref z], []⟩) Q E s := by
  show wpAny _ _ (field (.ref z) 2 >>= _) _ _ _
  refine wpAny_bind (wpAny_field hz rfl (x := .bool false) rfl ?_)
  show wpAny _ _ (field (.ref z) 3 >>= _) _ _ _
  refine wpAny_bind (wpAny_field hz rfl (x := .ref TI) rfl (wpAny_bind (wpAny_seqItems hI rfl ?_)))
  show wpAny _ _ (Builtin.SmallTypes.ownedTupleIsFree (.ref z) >>= _) _ _ _
  unfold Builtin.SmallTypes.ownedTupleIsFree
  refine wpAny_bind (wpAny_bind (wpAny_field hz rfl (x := .none) rfl (wpAny_pure ?_)))
  simp only [if_true, List.zipIdx_cons, List.zipIdx_nil, List.forIn_cons, List.forIn_nil]
  refine wpAny_bind (wpAny_rule (wpAny_bind (wpAny_field hz rfl (x := .ref TO) rfl (wpAny_bind (wpAny_setField_rec hz (by simp) fun g1 z1 e1 => wpAny_bind ?_)))))
  replace z1 : IsZip g1 z TI TO .ellipsis := z1
  refine wpAny_bind (wpAny_bind (wpAny_onRaise ?_))
  show wpAny _ _ (Builtin.SmallTypes.nextOf (.ref i1) >>= _) _ _ _
  have off : ∀ {g : Heap} {e : Addr}, IsZip g z TI TO .ellipsis → (∃ o, g.get? e = some o ∧ o.cls = .type "StopIteration") → e ≠ z := fun hz ⟨o, h1, h2⟩ q => by
    subst q
    rw [hz] at h1
    cases h1
    simp at h2
  cases hx : xs[k1]? with
  | none =>
    refine wpAny_bind (next_none hh (w1.ext e1.extBut D.i1z) (q1.ext e1.extBut D.l1z) hx fun g2 e e2 he => ?_)
    have z2 : IsZip g2 z TI TO .ellipsis := e2 _ _ D.i1z.symm z1
    have n := off z2 he
    obtain ⟨o, h1, h2⟩ := he
    exact wpAny_setField_rec z2 (by simp) fun g3 _ e3 => hE g3 e (fun c o n1 _ n3 _ q => e3.extBut _ _ n1 (e2 _ _ n3 (e1.extBut _ _ n1 q))) ⟨o, e3.extBut _ _ n h1, h2⟩
  | some x =>
    have hy : ys[k2]? = none := end_.resolve_left fun q => by rw [hx] at q; cases q
    refine wpAny_bind (next_some (w1.ext e1.extBut D.i1z) (q1.ext e1.extBut D.l1z) hx fun g2 v2 e2 => wpAny_pure ?_)
    have o2 : IsPair g2 TO a b := e2.extBut _ _ D.TOi1 (e1.extBut _ _ D.TOz hO)
    refine wpAny_bind (wpAny_seqItems o2 rfl (wpAny_bind (wpAny_updateSeq_pair o2 fun g3 o3 e3 => wpAny_bind (wpAny_letGo (wpAny_pure ?_)))))
    refine wpAny_bind (wpAny_bind (wpAny_onRaise ?_))
    show wpAny _ _ (Builtin.SmallTypes.nextOf (.ref i2) >>= _) _ _ _
    have v3 := ((w2.ext e1.extBut D.i2z).ext e2.extBut D.i12.symm).ext e3.extBut D.TOi2.symm
    have r3 := ((q2.ext e1.extBut D.l2z).ext e2.extBut D.l2i1).ext e3.extBut D.l2TO
    refine wpAny_bind (next_none hh v3 r3 hy fun g4 e e4 he => ?_)
    have z4 : IsZip g4 z TI TO .ellipsis := e4 _ _ D.i2z.symm (e3.extBut _ _ D.TOz.symm (e2.extBut _ _ D.i1z.symm z1))
    have n := off z4 he
    obtain ⟨o, h1, h2⟩ := he
    exact wpAny_setField_rec z4 (by simp) fun g5 _ e5 => hE g5 e (fun c o n1 n2 n3 n4 q => e5.extBut _ _ n1 (e4 _ _ n4 (e3.extBut _ _ n2 (e2.extBut _ _ n3 (e1.extBut _ _ n1 q))))) ⟨o, e5.extBut _ _ n h1, h2⟩
theorem mixN_some {t1 t2 : Bool} {z TI TO i1 i2 l1 l2 : Addr} {k1 k2 : Nat} {xs ys : Array Value} {x y a b : Value} {Q : Option Value → Shared → Prop} (D : ZipApart z TI TO i1 i2 l1 l2)
    (hz : IsZip s.heap z TI TO .none) (hI : IsPair s.heap TI (.ref i1) (.ref i2)) (hO : IsPair s.heap TO a b) (w1 : WIt t1 s.heap i1 l1 k1) (w2 : WIt t2 s.heap i2 l2 k2) (q1 : WSq t1 s.heap l1 xs) (q2 : WSq t2 s.heap l2 ys) (hx : xs[k1]? = some x) (hy : ys[k2]? = some y)
    (hQ : ∀ h', IsZip h' z TI TO (rawInt s.heap.objs.size) → IsPair h' TO x y → WIt t1 h' i1 l1 (k1 + 1) → WIt t2 h' i2 l2 (k2 + 1) → IsPair h' s.heap.objs.size x y → h'.objs.size = s.heap.objs.size + 1 →
      (∀ c o, c ≠ z → c ≠ TO → c ≠ i1 → c ≠ i2 → s.heap.get? c = some o → h'.get? c = some o) → Q (some (.ref s.heap.objs.size)) { s with heap := h' }) :
    wpAny (model prog w) A (pyNext (.ref z)) Q E s := by
  have hT : s.TypeIs (.ref z) "zip" := ⟨_, hz, rfl⟩
  unfold pyNext
  exact wpAny_bind (wpAny_attempt (wpAny_callSpecial?_slot (name := Str.ofString "__next__") hT F.slot_zip_next (wpAny_call_entry F.slot_zip_next hT F.entry_zip_next
    (mix_some D hz hI hO w1 w2 q1 q2 hx hy fun h' a1 a2 a3 a4 a5 a6 a7 => wpAny_pure (hQ h' a1 a2 a3 a4 a5 a6 a7)) (F.args_zip_next_1 _))))
theorem mixN_none {t1 t2 : Bool} {z TI TO i1 i2 l1 l2 : Addr} {k1 k2 : Nat} {xs ys : Array Value} {a b : Value} {Q : Option Value → Shared → Prop} (hh : A.handled = none) (D : ZipApart z TI TO i1 i2 l1 l2)
    (hz : IsZip s.heap z TI TO .none) (hI : IsPair s.heap TI (.ref i1) (.ref i2)) (hO : IsPair s.heap TO a b) (w1 : WIt t1 s.heap i1 l1 k1) (w2 : WIt t2 s.heap i2 l2 k2) (q1 : WSq t1 s.heap l1 xs) (q2 : WSq t2 s.heap l2 ys) (end_ : xs[k1]? = none ∨ ys[k2]? = none)
    (hQ : ∀ h', (∀ c o, c ≠ z → c ≠ TO → c ≠ i1 → c ≠ i2 → s.heap.get? c = some o → h'.get? c = some o) → Q none { s with heap := h' }) : wpAny (model prog w) A (pyNext (.ref z)) Q E s := by
  have hT : s.TypeIs (.ref z) "zip" := ⟨_, hz, rfl⟩
  unfold pyNext
  refine wpAny_bind (wpAny_attempt (wpAny_callSpecial?_slot (name := Str.ofString "__next__") hT F.slot_zip_next (wpAny_call_entry F.slot_zip_next hT F.entry_zip_next (mix_none hh D hz hI hO w1 w2 q1 q2 end_ fun h' e k ⟨o, ho, hc⟩ => ?_) (F.args_zip_next_1 _))))
  exact wpAny_bind (wpAny_isInstance (T := "StopIteration") (b := true) ⟨o, ho, hc⟩ isSubtype_stop (wpAny_pure (hQ _ k)))
end
/-- what zip lays: two walks, two pairs, itself -/
def itO (t : Bool) (l : Addr) : Obj := match t with
  | true => { cls := .type "tuple_iterator", data := .fields #[.ref l, .int 0 0] }
  | false => { cls := .type "list_iterator", data := .fields #[.ref l, .int 0 0] }
abbrev zx1 (t1 : Bool) (h : Heap) (l1 : Addr) : Heap := h.push (itO t1 l1)
abbrev zx2 (t1 t2 : Bool) (h : Heap) (l1 l2 : Addr) : Heap := (zx1 t1 h l1).push (itO t2 l2)
abbrev zx3 (t1 t2 : Bool) (h : Heap) (l1 l2 : Addr) : Heap := (zx2 t1 t2 h l1 l2).push { cls := .type "tuple", data := .seq #[.ref h.objs.size, .ref (zx1 t1 h l1).objs.size] }
abbrev zx4 (t1 t2 : Bool) (h : Heap) (l1 l2 : Addr) : Heap := (zx3 t1 t2 h l1 l2).push { cls := .type "tuple", data := .seq #[.none, .none] }
abbrev zx5 (t1 t2 : Bool) (h : Heap) (l1 l2 : Addr) : Heap := (zx4 t1 t2 h l1 l2).push { cls := .type "zip", data := .fields #[.none, .bool false, .bool false, .ref (zx2 t1 t2 h l1 l2).objs.size, .ref (zx3 t1 t2 h l1 l2).objs.size] }
theorem meets_mix (t1 t2 : Bool) (l1 l2 : Addr) (xs ys : Array Value) :
    Meets (Builtin.«zip.__new__» ⟨[.type "zip", .ref l1, .ref l2], []⟩) (fun _ R s => WSq t1 s.heap l1 xs ∧ WSq t2 s.heap l2 ys ∧
      R (.ok (.ret (.ref (zx4 t1 t2 s.heap l1 l2).objs.size))) { s with heap := zx5 t1 t2 s.heap l1 l2 }) :=
  match t1, t2 with
  | false, false => meets_zip_new l1 l2 xs ys
  | true, true => meets_zipT_new l1 l2 xs ys
  | false, true => .of_wp fun prog w A R s h => by
    obtain ⟨hp, g, d, tk, os⟩ := s
    obtain ⟨a, b, h⟩ := h
    have hsub := sub_zip
    have c1 : Heap.IsList (Shared.heap ⟨hp, g, d, tk, os⟩) l1 xs := a
    have c2 : Heap.IsTuple (Shared.heap ⟨hp.push { cls := .type "list_iterator", data := .fields #[.ref l1, .int 0 0] }, g, d, tk, os⟩) l2 ys := Heap.IsTuple.push b _
    wp_walk using wpAny_pyIter_list c1, wpAny_pyIter_tuple c2
    exact ⟨_, rfl, h⟩
  | true, false => .of_wp fun prog w A R s h => by
    obtain ⟨hp, g, d, tk, os⟩ := s
    obtain ⟨a, b, h⟩ := h
    have hsub := sub_zip
    have c1 : Heap.IsTuple (Shared.heap ⟨hp, g, d, tk, os⟩) l1 xs := a
    have c2 : Heap.IsList (Shared.heap ⟨hp.push { cls := .type "tuple_iterator", data := .fields #[.ref l1, .int 0 0] }, g, d, tk, os⟩) l2 ys := Heap.IsList.push b _
    wp_walk using wpAny_pyIter_tuple c1, wpAny_pyIter_list c2
    exact ⟨_, rfl, h⟩
section
variable {prog : Program} {w : World} {A : Around} {E : Value → Shared → Prop} {s : Shared}
theorem call_mix {t1 t2 : Bool} {l1 l2 : Addr} {xs ys : Array Value} {Q : Value → Shared → Prop} (a : WSq t1 s.heap l1 xs) (b : WSq t2 s.heap l2 ys)
    (h : ∀ h', IsZip h' (s.heap.objs.size + 4) (s.heap.objs.size + 2) (s.heap.objs.size + 3) .none → IsPair h' (s.heap.objs.size + 2) (.ref s.heap.objs.size) (.ref (s.heap.objs.size + 1)) →
      IsPair h' (s.heap.objs.size + 3) .none .none → WIt t1 h' s.heap.objs.size l1 0 → WIt t2 h' (s.heap.objs.size + 1) l2 0 → h'.objs.size = s.heap.objs.size + 5 →
      (∀ c o, s.heap.get? c = some o → h'.get? c = some o) → Q (.ref (s.heap.objs.size + 4)) { s with heap := h' }) :
    wpAny (model prog w) A (call (.type "zip") [.ref l1, .ref l2]) Q E s := by
  refine callType_new F.called_zip (by decide) (F.typeCall_zip_2 _ _) (F.newCall_zip_2 _ _) (fun obj => F.args_object_init_3 obj _ _) F.entry_zip_new (meets_mix t1 t2 l1 l2 xs ys) ⟨a, b, ?_⟩
  have s1 : (zx1 t1 s.heap l1).objs.size = s.heap.objs.size + 1 := Heap.size_push ..
  have s2 : (zx2 t1 t2 s.heap l1 l2).objs.size = s.heap.objs.size + 2 := by rw [Heap.size_push, s1]
  have s3 : (zx3 t1 t2 s.heap l1 l2).objs.size = s.heap.objs.size + 3 := by rw [Heap.size_push, s2]
  have s4 : (zx4 t1 t2 s.heap l1 l2).objs.size = s.heap.objs.size + 4 := by rw [Heap.size_push, s3]
  have s5 : (zx5 t1 t2 s.heap l1 l2).objs.size = s.heap.objs.size + 5 := by rw [Heap.size_push, s4]
  have r5 : (zx5 t1 t2 s.heap l1 l2).get? (zx4 t1 t2 s.heap l1 l2).objs.size = some _ := Heap.get?_push_size _ rfl
  have r4 : (zx5 t1 t2 s.heap l1 l2).get? (zx3 t1 t2 s.heap l1 l2).objs.size = some _ := Heap.get?_push_of_some _ (Heap.get?_push_size _ rfl)
  have r3 : (zx5 t1 t2 s.heap l1 l2).get? (zx2 t1 t2 s.heap l1 l2).objs.size = some _ := Heap.get?_push_of_some _ (Heap.get?_push_of_some _ (Heap.get?_push_size _ rfl))
  have fr : ∀ t l, (itO t l).isFreed = false := fun t l => by cases t <;> rfl
  have r2 : (zx5 t1 t2 s.heap l1 l2).get? (zx1 t1 s.heap l1).objs.size = some (itO t2 l2) := Heap.get?_push_of_some _ (Heap.get?_push_of_some _ (Heap.get?_push_of_some _ (Heap.get?_push_size _ (fr _ _))))
  have r1 : (zx5 t1 t2 s.heap l1 l2).get? s.heap.objs.size = some (itO t1 l1) := Heap.get?_push_of_some _ (Heap.get?_push_of_some _ (Heap.get?_push_of_some _ (Heap.get?_push_of_some _ (Heap.get?_push_size _ (fr _ _)))))
  have wk : ∀ (t : Bool) (h : Heap) (i l : Addr), h.get? i = some (itO t l) → WIt t h i l 0 := fun t h i l q => by
    cases t
    · exact ⟨_, q, rfl, rfl⟩
    · exact ⟨_, q, rfl, rfl⟩
  show _ ∧ _
  rw [s2, s3, s4] at r5
  rw [s1, s2] at r3
  rw [s3] at r4
  rw [s1] at r2
  rw [s4]
  exact ⟨⟨_, r5, rfl⟩, h _ r5 r3 r4 (wk _ _ _ _ r1) (wk _ _ _ _ r2) s5 fun c o q =>
    Heap.get?_push_of_some _ (Heap.get?_push_of_some _ (Heap.get?_push_of_some _ (Heap.get?_push_of_some _ (Heap.get?_push_of_some _ q))))⟩
end
end Fz

/-! Ev31: zip of a list and a tuple, in any mix: its reading. -/
namespace Fz
open PySem PySem.Spec PyProof.Rows L2 RZ
def SqM (t : Bool) (K : PySem.W.Frag) (H : Hp) (a : Addr) (xs : List V) : Prop := match t with
  | true => SqT K H a xs
  | false => SqL K H a xs
theorem SqM.inj {X : Cx} {pins : List (Addr × Obj)} {σ : L2.St} {H : Hp} {s : Shared} (I : Inv X pins σ H s) {t : Bool} {a : Addr} {xs ys : List V} (h : SqM t X.K H a xs) (k : SqM t X.K H a ys) : xs = ys := by
  cases t
  · exact I.list_inj h k
  · exact I.tuple_inj h k
theorem SqM.row {X : Cx} {pins : List (Addr × Obj)} {σ : L2.St} {H : Hp} {s : Shared} (I : Inv X pins σ H s) {t : Bool} {a : Addr} {xs : List V} (h : SqM t X.K H a xs) : ∃ its : List Value, Vals xs its ∧ WSq t s.heap a its.toArray ∧ a < s.heap.objs.size := by
  cases t
  · obtain ⟨its, r, p, _⟩ := I.list h
    exact ⟨its, r, p.isList, p.lt⟩
  · obtain ⟨its, r, p, _⟩ := I.tuple h
    obtain ⟨o, ho, _⟩ := id p
    exact ⟨its, r, p, Heap.lt_size ho⟩
/-- both as they stand at each turn, the items in new pairs -/
def ItM (t1 t2 : Bool) (K : PySem.W.Frag) (a b : Addr) : It :=
  ⟨fun i H => ∃ (xs ys : List V) (x y : V), SqM t1 K H a xs ∧ SqM t2 K H b ys ∧ xs[i]? = some x ∧ ys[i]? = some y,
    fun i H v H' => ∃ T x y, v = .ref T ∧ H T = none ∧ H' = upd H T (.tup [x, y]) ∧ (∀ xs, SqM t1 K H a xs → xs[i]? = some x) ∧ ∀ ys, SqM t2 K H b ys → ys[i]? = some y,
    fun i H => ∃ xs ys : List V, SqM t1 K H a xs ∧ SqM t2 K H b ys ∧ (xs.length ≤ i ∨ ys.length ≤ i)⟩
theorem five {α : Type} {c a1 a2 a3 a4 a5 : α} (h : c ∈ [a1, a2, a3, a4, a5]) : c = a1 ∨ c = a2 ∨ c = a3 ∨ c = a4 ∨ c = a5 := by simpa using h
theorem turn_mix {t1 t2 : Bool} {P : Program} {w : World} {K : PySem.W.Frag} {elts : List Expr} {kk : Nat} {tpos : Pos} {a b z TI TO i1 i2 : Addr} (D : ZipApart z TI TO i1 i2 a b) :
    Turn P w K (.Tuple elts kk tpos) (ItM t1 t2 K a b) [z, TI, TO, i1, i2] z (fun i h => IsZip h z TI TO .none ∧ IsPair h TI (.ref i1) (.ref i2) ∧ (∃ x y, IsPair h TO x y) ∧ WIt t1 h i1 a i ∧ WIt t2 h i2 b i) where
  mem := by simp
  obj := fun i h ⟨hz, hI, ⟨x, y, hO⟩, w1, w2⟩ c hc => by
    obtain ⟨o1, e1, d1⟩ := w1.objC
    obtain ⟨o2, e2, d2⟩ := w2.objC
    rcases five hc with q | q | q | q | q <;> subst q
    · exact ⟨_, hz, fun v q => nomatch q⟩
    · exact ⟨_, hI, fun v q => nomatch q⟩
    · exact ⟨_, hO, fun v q => nomatch q⟩
    · exact ⟨o1, e1, d1⟩
    · exact ⟨o2, e2, d2⟩
  keep := fun i h h' ⟨hz, hI, ⟨x, y, hO⟩, w1, w2⟩ k =>
    ⟨k z (by simp) _ hz, k TI (by simp) _ hI, ⟨x, y, k TO (by simp) _ hO⟩, w1.at fun o q => k i1 (by simp) o q, w2.at fun o q => k i2 (by simp) o q⟩
  item := by
    rintro X rfl rfl rfl hc i pins s σ H E I hf ⟨hz, hI, ⟨x0, y0, hO⟩, w1, w2⟩ ⟨xs, ys, x, y, qx, qy, hx, hy⟩
    obtain ⟨v1, r1, p1, _⟩ := qx.row I
    obtain ⟨v2, r2, p2, _⟩ := qy.row I
    obtain ⟨u1, g1, k1⟩ := r1.get hx
    obtain ⟨u2, g2, k2⟩ := r2.get hy
    have zl : z < s.heap.objs.size := Heap.lt_size hz
    refine mixN_some D hz hI hO w1 w2 p1 p2 (x := u1) (y := u2) (by simpa using g1) (by simpa using g2) fun h1 z1 o1 a1 a2 pT sz kp => ?_
    refine ⟨_, rfl, wpAny_letOwnedTupleGo_zip (s := { s with heap := h1 }) z1 fun h2 z2 sb => ?_⟩
    have pT2 : h2.get? s.heap.objs.size = some { cls := .type "tuple", data := .seq #[u1, u2] } := (sb.2 _ (Nat.ne_of_gt zl)).trans pT
    have new : ObjOk X.prog X.w (upd H s.heap.objs.size (.tup [x, y])) h2 s.heap.objs.size (.tup [x, y]) := ⟨by show 2 ≤ sizeLine; decide, [u1, u2], .cons k1 (.cons k2 .nil), ⟨_, pT2, rfl, _, rfl⟩⟩
    have out : ∀ {c : Addr}, ¬ c ∈ [z, TI, TO, i1, i2] → c ≠ z ∧ c ≠ TI ∧ c ≠ TO ∧ c ≠ i1 ∧ c ≠ i2 := fun h => by simpa using h
    have I1 : Inv X pins σ (upd H s.heap.objs.size (.tup [x, y])) { s with heap := h2 } :=
      I.turnedNew (t' := s.toks) (ch := [z, TI, TO, i1, i2]) (fun c o hb q => (sb.2 c (out hb).1).trans (kp c o (out hb).1 (out hb).2.2.1 (out hb).2.2.2.1 (out hb).2.2.2.2 q)) hf (Nat.le_refl _) new
    refine ⟨.ref s.heap.objs.size, _, I1, rfl, ⟨_, x, y, rfl, I.hok.fresh (Nat.le_refl _), rfl, fun l hl => by rw [SqM.inj I hl qx]; exact hx, fun l hl => by rw [SqM.inj I hl qy]; exact hy⟩, ⟨z2, ?_, ⟨u1, u2, ?_⟩, ?_, ?_⟩, fun c hcm => ?_⟩
    · exact (sb.2 _ D.TIz).trans (kp _ _ D.TIz D.TITO D.TIi1 D.TIi2 hI)
    · exact (sb.2 _ D.TOz).trans o1
    · exact a1.at fun o q => (sb.2 _ D.i1z).trans q
    · exact a2.at fun o q => (sb.2 _ D.i2z).trans q
    · have lt : c < s.heap.objs.size := by
        obtain ⟨_, e1, _⟩ := w1.obj
        obtain ⟨_, e2, _⟩ := w2.obj
        rcases five hcm with q | q | q | q | q <;> subst q
        · exact zl
        · exact Heap.lt_size hI
        · exact Heap.lt_size hO
        · exact Heap.lt_size e1
        · exact Heap.lt_size e2
      rw [upd_ne (Nat.ne_of_lt lt)]
      exact (hf c hcm).1
  done := by
    rintro X rfl rfl rfl hc i pins s σ H E I hf ⟨hz, hI, ⟨x0, y0, hO⟩, w1, w2⟩ ⟨xs, ys, qx, qy, he⟩
    obtain ⟨v1, r1, p1, _⟩ := qx.row I
    obtain ⟨v2, r2, p2, _⟩ := qy.row I
    have l1 := r1.length
    have l2 := r2.length
    have end_ : v1.toArray[i]? = none ∨ v2.toArray[i]? = none := by
      rcases he with q | q
      · exact .inl (by simp; omega)
      · exact .inr (by simp; omega)
    have out : ∀ {c : Addr}, ¬ c ∈ [z, TI, TO, i1, i2] → c ≠ z ∧ c ≠ TI ∧ c ≠ TO ∧ c ≠ i1 ∧ c ≠ i2 := fun h => by simpa using h
    exact mixN_none (I.ok.hd hc) D hz hI hO w1 w2 p1 p2 end_ fun h' kp => ⟨rfl, I.turnedL (t' := s.toks) (ch := [z, TI, TO, i1, i2]) (fun c o hb q => kp c o (out hb).1 (out hb).2.2.1 (out hb).2.2.2.1 (out hb).2.2.2.2 q) hf⟩
  self := fun A i s Q E st h => wpAny_pyIter_zip st.1 h
def iZipM (K : PySem.W.Frag) (ta : TA) : TI := fun σ H R => ta σ H fun vs H1 => ∃ (t1 t2 : Bool) (a b : Addr) (xs ys : List V), vs = [.ref a, .ref b] ∧ SqM t1 K H1 a xs ∧ SqM t2 K H1 b ys ∧ R (ItM t1 t2 K a b) H1
theorem pi_zipM {X : Cx} {e e2 : Expr} {ta : TA} {p pos tpos : Pos} {elts : List Expr} {kk : Nat} (hg : Gl X "zip") (hm : X.mg "zip" = none) (ha : PA X [e, e2] ta)
    (hs : starEach [e, e2] X.env = (false, eval e X.env) :: starEach [e2] X.env := by rfl) (hpl : (backTo pos (starEach [e2] X.env)).any (·.1) = false := by rfl) :
    PI X (.Tuple elts kk tpos) (.Call (.Name "zip" p) [e, e2] [] pos) (iZipM X.K ta) := by
  refine ⟨fun pins s σ H R I h => ?_⟩
  refine Call_ (ld_blt I hg hm PyProof.Rows.boot_zip (PyProof.Rows.callWith_type1 (thn (ha.run pos pins s σ H _ I h) fun us s1 ⟨vs, H1, I1, r1, t1, t2, a, b, xs, ys, ex, qx, qy, q⟩ => ?_) hs hpl))
  subst ex
  cases r1 with
  | cons r rr => cases rr with
    | cons r' rr =>
      cases rr
      cases r
      cases r'
      have new : ∀ c, c ∈ [s1.heap.objs.size + 4, s1.heap.objs.size + 2, s1.heap.objs.size + 3, s1.heap.objs.size, s1.heap.objs.size + 1] → FpOk X pins H1 c := fun c hcm => by
        have le : s1.heap.objs.size ≤ c := by rcases five hcm with z | z | z | z | z <;> (rw [z]; first | exact Nat.le_refl _ | exact Nat.le_add_right _ _)
        exact I1.fpOk le (I1.hok.fresh le)
      obtain ⟨v1, _, p1, l1⟩ := qx.row I1
      obtain ⟨v2, _, p2, l2⟩ := qy.row I1
      refine call_mix p1 p2 fun h' hz hI hO w1 w2 sz kp => wpAny_pyIter_zip hz ?_
      have I2 : Inv X pins σ H1 { s1 with heap := h' } := I1.kept (t' := s1.toks) kp
      exact ⟨s1.heap.objs.size + 4, [s1.heap.objs.size + 4, s1.heap.objs.size + 2, s1.heap.objs.size + 3, s1.heap.objs.size, s1.heap.objs.size + 1], _, _, H1, rfl, I2, turn_mix (PySem.W.ktu_apart s1.heap.objs.size a b l1 l2), ⟨hz, hI, ⟨_, _, hO⟩, w1, w2⟩, new, q⟩
end Fz

/-! Ev32: len(set(..)), sorted(set(..)), of integers. -/
namespace Fz
open PySem PySem.Spec PyProof.Rows L2
/-! ### each once -/
theorem dd_mem : ∀ (ns : List Int) (k : Int), k ∈ dd ns ↔ k ∈ ns
  | [], k => Iff.rfl
  | x :: r, k => by
    unfold dd
    split
    · rename_i h
      rw [dd_mem r k, List.mem_cons]
      exact ⟨.inr, fun z => z.elim (fun e => e ▸ h) id⟩
    · rw [List.mem_cons, List.mem_cons, dd_mem r k]
theorem dd_nodup : ∀ ns : List Int, (dd ns).Nodup
  | [] => List.nodup_nil
  | x :: r => by
    unfold dd
    split
    · exact dd_nodup r
    · rename_i h
      exact List.nodup_cons.mpr ⟨fun z => h ((dd_mem r x).mp z), dd_nodup r⟩
theorem dd_len : ∀ ns : List Int, (dd ns).length ≤ ns.length
  | [] => Nat.le_refl _
  | x :: r => by
    have := dd_len r
    unfold dd
    split
    · exact Nat.le_succ_of_le this
    · exact Nat.succ_le_succ this
theorem sd_perm (ns : List Int) : (sd ns).Perm (dd ns) := List.mergeSort_perm _ _
theorem sd_mem (ns : List Int) (k : Int) : k ∈ sd ns ↔ k ∈ ns := by rw [(sd_perm ns).mem_iff, dd_mem]
theorem sd_len (ns : List Int) : (sd ns).length = (dd ns).length := (sd_perm ns).length_eq
theorem lt_of_le_nd : ∀ l : List Int, l.Pairwise (· ≤ ·) → l.Nodup → l.Pairwise (· < ·)
  | [], _, _ => List.Pairwise.nil
  | x :: l, h, d => by
    obtain ⟨h1, h2⟩ := List.pairwise_cons.mp h
    obtain ⟨d1, d2⟩ := List.nodup_cons.mp d
    refine List.pairwise_cons.mpr ⟨fun y hy => ?_, lt_of_le_nd l h2 d2⟩
    have a := h1 y hy
    have b : x ≠ y := fun z => d1 (z ▸ hy)
    omega
theorem sd_asc (ns : List Int) : (sd ns).Pairwise (· < ·) := by
  refine lt_of_le_nd _ ?_ ((sd_perm ns).nodup_iff.mpr (dd_nodup ns))
  have h := List.pairwise_mergeSort (le := fun (a b : Int) => decide (a ≤ b)) (fun a b c h1 h2 => by simp at *; omega) (fun a b => by simp; omega) (dd ns)
  exact h.imp fun h => by simpa using h
theorem asc_same : ∀ {l m : List Int}, l.Pairwise (· < ·) → m.Pairwise (· < ·) → (∀ k, k ∈ l ↔ k ∈ m) → l = m
  | [], [], _, _, _ => rfl
  | [], y :: m, _, _, h => absurd ((h y).mpr List.mem_cons_self) (List.not_mem_nil)
  | x :: l, [], _, _, h => absurd ((h x).mp List.mem_cons_self) (List.not_mem_nil)
  | x :: l, y :: m, h1, h2, h => by
    obtain ⟨a1, a2⟩ := List.pairwise_cons.mp h1
    obtain ⟨b1, b2⟩ := List.pairwise_cons.mp h2
    have e : x = y := by
      rcases List.mem_cons.mp ((h x).mp List.mem_cons_self) with z | z
      · exact z
      · rcases List.mem_cons.mp ((h y).mpr List.mem_cons_self) with w | w
        · exact w.symm
        · have := b1 _ z
          have := a1 _ w
          omega
    subst e
    have e2 : l = m := asc_same a2 b2 fun k => ⟨fun hk => by
      have := a1 _ hk
      rcases List.mem_cons.mp ((h k).mp (List.mem_cons_of_mem _ hk)) with z | z
      · omega
      · exact z, fun hk => by
      have := b1 _ hk
      rcases List.mem_cons.mp ((h k).mpr (List.mem_cons_of_mem _ hk)) with z | z
      · omega
      · exact z⟩
    rw [e2]
theorem sd_eq {ns ms : List Int} (h1 : ms.Pairwise (· < ·)) (h2 : ∀ k, k ∈ ms ↔ k ∈ ns) : sd ns = ms := asc_same (sd_asc ns) h1 fun k => by rw [sd_mem, h2]
theorem setR_count {w : World} {h : Heap} {a : Addr} {ns : List Int} {c : Nat} (R : SetR w h a (fun j => decide (j ∈ ns)) c) : c = (dd ns).length := by
  obtain ⟨o, es, ep, t, ho, hex, hd, g, nd, hm, hb, hf, hn, hr, hl⟩ := R
  have p : (es.toList.map keyOf).Perm (dd ns) := (List.perm_ext_iff_of_nodup nd (dd_nodup ns)).mpr fun k => by
    rw [dd_mem, ← hm k]
    exact decide_eq_true_iff
  have := p.length_eq
  rw [List.length_map, Array.length_toList] at this
  omega

/-! ### set(xs) of a list of ints -/
abbrev set0 (w : World) : Obj := { cls := .type "set", dict := none, data := .set #[] 0 (.fresh 0 0 (!w.params.followText "set-order")) }
section
variable {P : Program} {w : World} {A : Around} {E : Value → Shared → Prop} {s : Shared}
/-- what a set of them does to the heap -/
def SetMade (w : World) (s : Shared) (ns : List Int) (s' : Shared) : Prop := ∃ h' tk c, s' = { s with heap := h', toks := tk } ∧ SetR w h' s.heap.objs.size (fun j => decide (j ∈ ns)) c ∧ ∀ b o, s.heap.get? b = some o → h'.get? b = some o
/-- the walk over the list fills the set -/
theorem fill_list {l : Addr} {its : Array Value} {ns : List Int} (hh : A.handled = none) (hl : s.heap.IsList l its) (hi : IntsAre its.toList ns) (hb : ns.length + 1 < scanBound) {R : Result → Shared → Prop}
    (h : ∀ s', SetMade w s ns s' → R (.ok (.ret .none)) s') :
    codeAny (model P w) A (.builtin "set.update.loop" ⟨[.ref s.heap.objs.size, .ref (s.heap.push (set0 w)).objs.size], []⟩) R { s with heap := (s.heap.push (set0 w)).push { cls := .type "list_iterator", data := .fields #[.ref l, .int 0 0] } } := by
  have hn : its.size = ns.length := by
    have q := IntsAre.length hi
    rwa [Array.length_toList] at q
  have hl1 : (s.heap.push (set0 w)).IsList l its := hl.push _
  have hlS : l < s.heap.objs.size := by
    obtain ⟨ol, hol, _⟩ := hl
    exact Heap.lt_size hol
  have hz : (s.heap.push (set0 w)).objs.size = s.heap.objs.size + 1 := Heap.size_push ..
  have hval : ∀ (i : Nat) (v : Value), its[i]? = some v → ∃ k t, ns[i]? = some k ∧ v = .int k t := fun i v hv => by
    have hlt : i < ns.length := by rw [← hn]; exact (Array.getElem?_eq_some_iff.mp hv).1
    obtain ⟨t, e⟩ := PyProof.Rows.IntsAre.int_at hi i v (by rw [Array.getElem?_toList]; exact hv)
    refine ⟨ns[i], t, List.getElem?_eq_getElem hlt, ?_⟩
    rw [e, List.getD_eq_getElem?_getD, List.getElem?_eq_getElem hlt] <;> rfl
  refine set_update_ints ((Walks.list (A := A.in1) (by simpa using hh) (s.heap.push (set0 w)).objs.size l (by rw [hz]; exact Nat.ne_of_lt (Nat.lt_succ_of_lt hlS)) its).toS) s.heap.objs.size (by rw [hz]; simp only [List.mem_cons, List.not_mem_nil, or_false, not_or]; exact ⟨Nat.ne_of_lt (Nat.lt_succ_self _), Nat.ne_of_gt hlS⟩) ns hn hb hval
    (its.size - 0) 0 _ (by omega) (Nat.zero_le _) ⟨⟨_, Heap.get?_push_size _ rfl, rfl, rfl⟩, hl1.push _⟩ ⟨0, Nat.le_refl 0, setR_new_at (Heap.get?_push_of_some _ (Heap.get?_push_size _ rfl))⟩ fun s' c hm hc hS => ?_
  obtain ⟨h', g2, d', tk', os'⟩ := s'
  have eg : g2 = s.gens := hm.gens
  have ed : d' = s.drawn := hm.drawn
  have eo : os' = s.os := hm.os
  subst eg ed eo
  refine h _ ⟨h', tk', c, rfl, hS, fun b o e => hm.heap b o ?_ (Heap.get?_push_of_some _ (Heap.get?_push_of_some _ e))⟩
  have := Heap.lt_size e
  rw [hz]
  simp only [List.mem_cons, List.not_mem_nil, or_false, not_or]
  exact ⟨Nat.ne_of_lt this, Nat.ne_of_lt (Nat.lt_succ_of_lt this)⟩
theorem call_set_listI {l : Addr} {its : Array Value} (ns : List Int) {Q : Value → Shared → Prop} (hh : A.handled = none) (hl : s.heap.IsList l its) (hi : IntsAre its.toList ns) (hb : ns.length + 1 < scanBound)
    (h : ∀ s', SetMade w s ns s' → Q (.ref s.heap.objs.size) s') : wpAny (model P w) A (call (.type "set") [.ref l]) Q E s := by
  have hT : Shared.TypeIs { s with heap := s.heap.push (set0 w) } (.ref s.heap.objs.size) "set" := ⟨_, Heap.get?_push_size _ rfl, rfl⟩
  obtain ⟨_, _, hmro⟩ := F.called_set.mro
  have m1 := F.called_set.made
  have m2 := F.called_set.sub
  have m3 := F.called_set.notType
  have m4 := F.called_set.canCreate
  have m5 := F.typeCall_set_1 (.ref l)
  refine wpAny_call (codeAny_of_tree ?_)
  show wpAny _ _ (callAny (.type "set") _) _ _ _
  refine wpAny_pure ⟨Code.quiet_builtin _ (by decide +kernel), codeAny_builtin F.entry_type_call ?_⟩
  rw [Around.under_plain (weight_type_call_type "set" [.ref l] []) rfl]
  repeat (any_goals (first | assumption | wp_step))
  refine codeAny_mono (code_set_led1 (.ref l) (E := E) (Q₁ := fun o s₁ => o = .ref s.heap.objs.size ∧ s₁ = { s with heap := s.heap.push (set0 w) }) ⟨rfl, rfl⟩) fun r s₁ hr => ?_
  match r, hr with
  | .error _, hr => exact hr
  | .ok (.ret o), hr =>
    obtain ⟨rfl, rfl⟩ := hr
    have i1 := F.called_set.init.lookup
    have i2 := F.called_set.init.bind (.ref s.heap.objs.size)
    repeat (any_goals (first | assumption | wp_step))
    refine codeAny_mono (codeAny_call_builtin (R := wants (fun r s₂ => r = .none ∧ SetMade w s ns s₂) E) F.called_set.init.plain F.entry_set_init (check_set_init_1 hT ?_)) fun r₂ s₂ hr₂ => ?_
    · have hl1 : (s.heap.push (set0 w)).IsList l its := hl.push _
      obtain ⟨ol, hol, hcl, nl, hdl⟩ := hl
      obtain ⟨ocls, odict, odata, oslots⟩ := ol
      simp only at hcl hdl
      subst hcl hdl
      have hol' : (s.heap.push (set0 w)).get? l = some { cls := .type "list", dict := odict, data := .seq its nl, slots := oslots } := Heap.get?_push_of_some _ hol
      have t1 := F.sub_list_set
      have t2 := F.sub_list_frozenset
      have t3 : (Value.type "list" == Value.type "dict") = false := by decide
      unfold Builtin.«set.__init__» noKeywords Builtin.Frozenset.updateFrom
      generalize hP : pyIter = PI
      wp_walk
      subst hP
      refine wpAny_pyIter_list hl1 (wpAny_bind (wpAny_runValue ?_))
      refine fill_list (by simpa using hh) ⟨_, hol, rfl, nl, rfl⟩ hi hb fun s' hs => ?_
      show wpAny _ _ _ _ _ _
      refine wpAny_pure ?_
      show wpAny _ _ (ret Value.none) _ _ _
      exact wpAny_pure ⟨rfl, hs⟩
    · match r₂, hr₂ with
      | .error _, hr₂ => exact hr₂
      | .ok (.ret _), hr₂ =>
        obtain ⟨rfl, hs⟩ := hr₂
        repeat (any_goals (first | assumption | wp_step))
        exact h _ hs
end

/-! ### the calls -/
theorem ints_rpa {K : PySem.W.Frag} {G : Hp} : ∀ {vs : List V} {ds : List D} {ns : List Int}, RpA K G vs ds → intsOf ds = some ns → vs = ns.map V.int
  | _, _, _, .nil, h => by cases h; rfl
  | _, d :: ds, _, .cons r t, h => by
    cases d with
    | int i =>
      obtain ⟨ms, e, rfl⟩ := Option.map_eq_some_iff.mp h
      cases r
      rw [ints_rpa t e] <;> rfl
    | _ => cases h
theorem rpa_ints {K : PySem.W.Frag} {G : Hp} : ∀ ns : List Int, RpA K G (ns.map V.int) (ns.map PyData.int)
  | [] => .nil
  | n :: ns => .cons (.int n) (rpa_ints ns)
def rSetI (K : PySem.W.Frag) (w : World) : List V → Hp → VK → Prop := fun xs H Q => ∃ (a : Addr) (ns : List Int), xs = [.ref a] ∧ (SqL K H a (ns.map V.int) ∨ SqT K H a (ns.map V.int)) ∧ ns.length ≤ 1000 ∧ ∀ p, H p = none → Q (.ref p) (upd H p (SetO w p (fun j => decide (j ∈ ns)) (dd ns).length))
section
variable {X : Cx}
theorem cr_setI (hc : X.calm = true) : CallR X (.type "set") (rSetI X.K X.w) := by
  intro pins s σ H xs us Q I r h
  obtain ⟨a, ns, rfl, hx, hl, q⟩ := h
  obtain ⟨u, rfl, ru⟩ := vals1 r
  cases ru
  have hb : ns.length + 1 < scanBound := by
    have : (1001 : Nat) < scanBound := by decide
    omega
  have fin : ∀ {h' : Heap} {tk c : Nat}, SetR X.w h' s.heap.objs.size (fun j => decide (j ∈ ns)) c → (∀ b o, s.heap.get? b = some o → h'.get? b = some o) → EP X pins σ Q (.ref s.heap.objs.size) { s with heap := h', toks := tk } := fun {h' tk c} R hk => by
    have hn : H s.heap.objs.size = none := I.hok.fresh (Nat.le_refl _)
    have ec := setR_count R
    subst ec
    exact ⟨.ref _, _, I.laid (t' := tk) (o := SetO X.w s.heap.objs.size (fun j => decide (j ∈ ns)) (dd ns).length) hk (Nat.le_refl _) (setO_new R), rfl, q _ hn⟩
  rcases hx with hx | hx
  · obtain ⟨its, rv, ht, hz⟩ := I.list hx
    refine call_set_listI ns (I.ok.hd hc) ht.isList (by simpa using intsAre_of rv) hb fun s' hs => ?_
    obtain ⟨h', tk, c, rfl, R, hk⟩ := hs
    exact fin R hk
  · obtain ⟨its, rv, ht, hz⟩ := I.tuple hx
    exact call_set_tupI ns (I.ok.hd hc) (show s.heap.IsTuple a its.toArray from ht) (by simpa using intsAre_of rv) hb fun h' tk c R hcl hk => fin R hk
theorem cr_lenSet : CallR X (.builtin "len") (fun xs H Q => ∃ (a : Addr) (S : Int → Bool) (n : Nat), xs = [.ref a] ∧ H a = some (SetO X.w a S n) ∧ Q (.int n) H) := by
  intro pins s σ H xs us Q I r h
  obtain ⟨a, S, n, rfl, ha, q⟩ := h
  obtain ⟨u, rfl, ru⟩ := vals1 r
  cases ru
  obtain ⟨o, es, ep, t, ho, hex, hd, g, nd, hm, hb, hf, hn, hr, hl⟩ := setO_get I ha
  refine call_len_set ho hex hd hf (by unfold scanBound at hb; omega) ?_
  rw [hn]
  exact ⟨.int n, H, I.tok _, ⟨_, rfl⟩, q⟩
end
theorem boot_set' : bootBuiltins ("set" : Str) = some (.type "set") := by decide +kernel
section
variable {Φ : Fns} {Γ : List D} {τ : Tb} {W : EW} {X : Cx} {C : CC} {e a : Expr} {t ta : T} {pos p p1 p2 : Pos}
theorem set_in {d : D} {K : PySem.W.Frag} {G H : Hp} {v : V} {ns : List Int} (c : Cn K G H v d) (sG : Sub G H) (h : intsIn d = some ns) : ∃ q, v = .ref q ∧ (SqL K H q (ns.map V.int) ∨ SqT K H q (ns.map V.int)) := by
  cases d with
  | list ds =>
    obtain ⟨q, vs, rfl, hp, ra⟩ := c.list sG
    rw [ints_rpa ra h] at hp
    exact ⟨q, rfl, .inl (.inl (.inl hp))⟩
  | tuple ds =>
    obtain ⟨q, vs, rfl, hp, ra⟩ := c.tuple sG
    rw [ints_rpa ra h] at hp
    exact ⟨q, rfl, .inr hp⟩
  | _ => cases h
theorem sets_read {k : BiK} {σ : L2.St} {H : Hp} {Q : VK} {r : List V → Hp → VK → Prop} (h : tE Φ Γ τ W X.K (.bi k t) σ H Q)
    (hr : ∀ (G H : Hp) (Q : VK) (xs : List V) (ds : List D) (w : R), Sub G H → Cns X.K G H xs ds → biD k ds = .ok w → Out X.K G H w Q → rSetI X.K X.w xs H fun v H1 => r [v] H1 Q) : tCB r (tCons (tCB (rSetI X.K X.w) (tA Φ Γ τ W X.K t)) tNil) σ H Q := by
  obtain ⟨σD, G, S, h⟩ := h
  refine args_op kE S h fun x e G' H' S' st hd h vs ros => ?_
  obtain ⟨r, e2, h⟩ := kE.ok h (biD_nx _ _)
  exact hr G' H' Q vs _ r S'.sub (ros.cns S') e2 (NP.out S' h)
theorem lenset_ok (ok : CtxOk Φ Γ τ W C X) (hh : C.hot = false) (h1 : gloB C.sc "len" = true) (h2 : gloB C.sc "set" = true) (hs : starEach [a] X.env = [(false, eval a X.env)]) (ha : PA X [a] (tA Φ Γ τ W X.K t)) :
    PE X (.Call (.Name "len" p) [.Call (.Name "set" p1) [a] [] p2] [] pos) (tE Φ Γ τ W X.K (.bi .lenset t)) := by
  have mg : ∀ y : Str, y ∈ biNames → X.mg y = none := ok.bi
  refine pe_imp (pe_callB cr_lenSet (gl_of ok h1) (mg _ (by decide)) boot_len' (pa_cons (pe_callTy (cr_setI (ok.calm hh)) (gl_of ok h2) (mg _ (by decide)) boot_set' ha (by decide) (by decide) hs rfl) pa_nil)) fun σ H Q h => sets_read h fun G H Q xs ds w sG cs e q => ?_
  match ds, e, cs with
  | [], e, _ => cases e
  | d :: _ :: _, e, _ => cases d <;> cases e
  | [d], e, cs =>
    obtain ⟨x, rfl, c⟩ := cs.one
    simp only [biD] at e
    split at e
    · rename_i ns hi
      split at e
      · rename_i hl
        cases e
        obtain ⟨q1, rfl, hq⟩ := set_in c sG hi
        refine ⟨q1, ns, rfl, hq, hl, fun pp hp => ⟨pp, _, _, rfl, upd_same, ?_⟩⟩
        exact q _ _ _ (Ext.laidH sG hp) (.int _)
      · cases e
    · cases e
theorem sortset_ok (ok : CtxOk Φ Γ τ W C X) (hh : C.hot = false) (h1 : gloB C.sc "sorted" = true) (h2 : gloB C.sc "set" = true) (hs : starEach [a] X.env = [(false, eval a X.env)]) (ha : PA X [a] (tA Φ Γ τ W X.K t)) :
    PE X (.Call (.Name "sorted" p) [.Call (.Name "set" p1) [a] [] p2] [] pos) (tE Φ Γ τ W X.K (.bi .sortset t)) := by
  have mg : ∀ y : Str, y ∈ biNames → X.mg y = none := ok.bi
  refine pe_imp (pe_callB (cr_sortedSet (ok.calm hh)) (gl_of ok h1) (mg _ (by decide)) boot_sorted' (pa_cons (pe_callTy (cr_setI (ok.calm hh)) (gl_of ok h2) (mg _ (by decide)) boot_set' ha (by decide) (by decide) hs rfl) pa_nil)) fun σ H Q h => sets_read h fun G H Q xs ds w sG cs e q => ?_
  match ds, e, cs with
  | [], e, _ => cases e
  | d :: _ :: _, e, _ => cases d <;> cases e
  | [d], e, cs =>
    obtain ⟨x, rfl, c⟩ := cs.one
    simp only [biD] at e
    split at e
    · rename_i ns hi
      split at e
      · rename_i hl
        cases e
        obtain ⟨q1, rfl, hq⟩ := set_in c sG hi
        refine ⟨q1, ns, rfl, hq, hl.1, fun pp hp => ⟨pp, _, _, rfl, upd_same, hl.2, fun ms p3 ha hm hlen hp3 => ?_⟩⟩
        have em : sd ns = ms := sd_eq ha fun k => by rw [hm k, decide_eq_true_eq]
        subst em
        have x1 := Ext.laidH (H := H) (o := SetO X.w pp (fun j => decide (j ∈ ns)) (dd ns).length) sG hp
        have x2 := Ext.laidH (o := HO.lst ((sd ns).map V.int)) x1.sub hp3
        have hp0 : H p3 = none := by
          cases z : H p3 with
          | none => rfl
          | some u => rw [x1.hm _ _ z] at hp3; cases hp3
        exact q _ _ _ ⟨Sub.rfl', fun b u z => x2.hm b u (x1.hm b u z), x2.sub, fun b z _ => z, fun z => z⟩ ⟨p3, _, rfl, upd_same, none_sub sG hp0, St.non hp0, rpa_ints _⟩
      · cases e
    · cases e
end
end Fz

/-! Ev10: methods that only look, what is walked, targets. -/
namespace Fz
open PySem PySem.Spec PyProof.Rows L2

section
variable {Φ : Fns} {Γ : List D} {τ : Tb} {W : EW} {X : Cx} {C : CC} {e a b c : Expr} {es : List Expr} {t ta tb tc : T} {pos : Pos} {f : CC → Expr → Option T}
def mtId : MtK → String
  | .index => "list.index" | .count => "list.count"
def rMt (K : PySem.W.Frag) (k : MtK) : V → List V → Hp → VK → Prop := fun x xs H Q => ∃ G a b r y, xs = [y] ∧ Sub G H ∧ Cn K G H x a ∧ Cn K G H y b ∧ mtD k a b = .ok r ∧ Out K G H r Q
theorem mt_ok (k : MtK) (hu : X.A.units + 64 < cLine) : MtR X (mtId k) (rMt X.K k) := by
  intro pins s σ H x xs v us Q I rx rxs h
  obtain ⟨G, a, b, r, y, rfl, sG, ca, cb, e, q⟩ := h
  obtain ⟨u, rfl, ru⟩ := vals1 rxs
  have hsl := sizeLine_eq
  cases a with
  | list ds =>
    obtain ⟨p, vs, rfl, hp, ra⟩ := ca.list sG
    cases rx
    cases k with
    | index =>
      simp only [mtD] at e
      split at e
      · rename_i hm
        split at e
        · rename_i j hj
          cases e
          obtain ⟨⟨bs, rb⟩, pb, db⟩ := cn_reads I sG cb ru hm.1
          obtain ⟨py, dy⟩ := shpAll hm.2
          obtain ⟨its, rv, ⟨⟨cls, dd, data, sls⟩, n, ho, hc, hdn, hdt⟩, hz⟩ := I.list (.inl (.inl hp) : SqL X.K H p vs)
          simp only at hc hdn hdt
          subst hc hdt
          obtain ⟨as, hr⟩ := Dp.readsAll I ds vs its (ra.dp sG py) rv
          obtain ⟨hj1, hit, hno⟩ := SeqAt.hit_at (vs := its.toArray) (by simpa using hr) py hj
          have hvl := rv.length
          refine call_meets PySem.F.slot_list_index ⟨_, ho, rfl⟩ PySem.F.entry_list_index (PySem.F.args_list_index_2 _ _)
            (SeqAt.list_indexAt p its.toArray n dd sls u (fun u => PyData.eqv (SeqAt.readOf s.heap u) b) j hj1 (by rw [List.size_toArray] at hj1; omega) hit hno) ⟨ho, SeqAt.items_plain (by simpa using hr) rb py pb (by omega), ?_⟩
          exact ⟨.int (j : Nat), H, I.tok _, ⟨_, rfl⟩, out_v sG q (.int _)⟩
        · cases e
      · cases e
    | count =>
      simp only [mtD] at e
      split at e
      · rename_i hm
        cases e
        obtain ⟨⟨bs, rb⟩, pb, db⟩ := cn_reads I sG cb ru hm.1
        obtain ⟨py, dy⟩ := shpAll hm.2
        obtain ⟨its, rv, pl, hz⟩ := I.list (.inl (.inl hp) : SqL X.K H p vs)
        obtain ⟨as, hr⟩ := Dp.readsAll I ds vs its (ra.dp sG py) rv
        exact SeqAt.count_list_data (vs := its.toArray) pl.isList (by simpa using hr) rb py pb (by omega) ⟨.int _, H, I.tok _, ⟨_, rfl⟩, out_v sG q (.int _)⟩
      · cases e
  | _ => cases k <;> cases e
theorem mt_read {k : MtK} {σ : L2.St} {H : Hp} {Q : VK} (h : tE Φ Γ τ W X.K (.mt k ta tb) σ H Q) : tBM X.K "list" (rMt X.K k) (tE Φ Γ τ W X.K ta) (tCons (tE Φ Γ τ W X.K tb) tNil) σ H Q := by
  obtain ⟨σD, G, S, h⟩ := h
  refine one_op kE S h fun x e1 G1 H1 S1 st1 hd1 h v ro1 => ?_
  split at h
  · exact h.elim
  · rename_i hl
    refine ⟨?_, one_op kE S1 h fun y e2 G2 H2 S2' st2 hd2 h w ro2 => ?_⟩
    · have c1 := ro1.cn S1
      rw [cont_nt] at c1
      cases hx : cont x.2 x.1 with
      | list ds =>
        rw [hx] at c1
        obtain ⟨p, vs, rfl, hp, _⟩ := c1.list S1.sub
        exact .inl ⟨rfl, vs, .inl (.inl hp)⟩
      | _ => rw [hx] at hl; exact absurd rfl hl
    · have c1 := (ro1.step st2.gm hd2).cn S2'
      have c2 := ro2.cn S2'
      rw [cont_nt] at c1 c2
      obtain ⟨r, e3, h⟩ := kE.ok h (mtD_nx _ _ _)
      exact ⟨G2, _, _, r, w, rfl, S2'.sub, c1, c2, e3, NP.out S2' h⟩
theorem few1 {e : Expr} {env : PySem.Env} {cpos : Pos} (hs : starEach [e] env = (false, eval e env) :: starEach [] env) : ((backTo cpos (starEach [e] env)).all (fun x => !x.1) && (backToKw cpos (keywordEach [] env)).all (fun x => x.1.isSome)
      && decide ([e].length + ([] : List Keyword).length + (if ([] : List Keyword).isEmpty then 0 else 1) < 30)) = true := by
  rw [hs]
  rfl
theorem methO_ok {m : Str} {o : Expr} {apos cpos : Pos} (hb : attributeBase o m X.env (eval o X.env) = eval o X.env) (IH : SE Φ Γ τ f) (ns : NS f) (ok : CtxOk Φ Γ τ W C X) (h : cMeth (f C) o m apos cpos es = some t) : PE X (.Call (.Attribute o m apos) es [] cpos) (tE Φ Γ τ W X.K t) := by
  match es with
  | [] => cases h
  | _ :: _ :: _ => cases h
  | [a] =>
    simp only [cMeth] at h
    split at h
    · rename_i hline
      split at h
      · rename_i em
        subst em
        obtain ⟨t1, e1, h⟩ := Option.bind_eq_some_iff.mp h
        obtain ⟨t2, e2, h⟩ := Option.map_eq_some_iff.mp h
        subst h
        have he : ∀ x p, a ≠ .Starred x p := fun x p z => by rw [z, ns] at e2; cases e2
        have hs := starE (X := X) (es := []) he
        exact pe_imp (pe_bm PySem.F.plainAttrs_list PySem.F.slot_list_index PySem.F.type_list_index (mt_ok .index ok.hu) (IH W C X _ t1 e1 ok).1 (pa_cons (IH W C X a t2 e2 ok).1 pa_nil hs) hb (few1 hs) hline hs (by rfl)) fun σ H Q h => mt_read h
      · split at h
        · rename_i em
          subst em
          obtain ⟨t1, e1, h⟩ := Option.bind_eq_some_iff.mp h
          obtain ⟨t2, e2, h⟩ := Option.map_eq_some_iff.mp h
          subst h
          have he : ∀ x p, a ≠ .Starred x p := fun x p z => by rw [z, ns] at e2; cases e2
          have hs := starE (X := X) (es := []) he
          exact pe_imp (pe_bm PySem.F.plainAttrs_list PySem.F.slot_list_count PySem.F.type_list_count (mt_ok .count ok.hu) (IH W C X _ t1 e1 ok).1 (pa_cons (IH W C X a t2 e2 ok).1 pa_nil hs) hb (few1 hs) hline hs (by rfl)) fun σ H Q h => mt_read h
        · cases h
    · cases h

theorem meth_ok {m o : Str} {op apos cpos : Pos} (IH : SE Φ Γ τ f) (ns : NS f) (ok : CtxOk Φ Γ τ W C X) (h : cMeth (f C) (.Name o op) m apos cpos es = some t) : PE X (.Call (.Attribute (.Name o op) m apos) es [] cpos) (tE Φ Γ τ W X.K t) := methO_ok (by rfl) IH ns ok h
theorem methC_ok {m y : Str} {op q apos cpos : Pos} (hy : (y != ("super" : Str)) = true) (IH : SE Φ Γ τ f) (ns : NS f) (ok : CtxOk Φ Γ τ W C X) (h : cMeth (f C) (.Call (.Name y op) [] [] q) m apos cpos es = some t) : PE X (.Call (.Attribute (.Call (.Name y op) [] [] q) m apos) es [] cpos) (tE Φ Γ τ W X.K t) := methO_ok (abase_call hy) IH ns ok h

/-- a slot's list is changed -/
theorem own_upd {τ : Tb} {K : PySem.W.Frag} {G H : Hp} {σD : Sts} {σV : L2.St} (S : S2 τ K G H σD σV) {i : Nat} {ds ds' : List D} {a : Addr} {vs : List V} (h : σD[i]? = some (Slot.own ds)) (hv : σV[i]? = some (some (V.ref a))) (r : RpA K G vs ds') :
    S2 τ K G (upd H a (.lst vs)) (σD.set i (.own ds')) σV ∧ Step σD σV G H (σD.set i (.own ds')) σV G (upd H a (.lst vs)) ∧ Held σD (σD.set i (.own ds')) := by
  obtain ⟨a', xs, e1, e2, e3, e4⟩ := S.own i ds h
  rw [hv] at e1
  cases e1
  have hi : i < σD.length := (List.getElem?_eq_some_iff.mp h).1
  have oa : Own σD σV a := ⟨i, ds, h, hv⟩
  have g : ∀ (j : Nat) (s : Slot), (σD.set i (.own ds'))[j]? = some s → (j = i ∧ s = .own ds') ∨ (j ≠ i ∧ σD[j]? = some s) := fun j s e => by
    by_cases hj : i = j
    · subst hj
      rw [List.getElem?_set_self hi] at e
      exact .inl ⟨rfl, (Option.some.inj e).symm⟩
    · rw [List.getElem?_set_ne hj] at e
      exact .inr ⟨Ne.symm hj, e⟩
  refine ⟨⟨by rw [List.length_set]; exact S.len, fun b u e => ?_, fun j d e => ?_, fun j es e => ?_, fun j k es fs b ej ek hj hk => ?_, tabs_upd S.tabs e2 lst_nt (fun _ z => by cases z), S.nt, fun j e => ?_, xo_upd S.xo e2⟩, ⟨Sub.rfl', fun _ h _ _ => h, fun b u e _ n => ?_, fun b e => ?_, fun b o => ?_⟩, held_set rfl⟩
  · have hb : b ≠ a := fun z => by rw [z, e3] at e; cases e
    rw [upd_ne hb]
    exact S.sub _ _ e
  · rcases g j _ e with ⟨rfl, q⟩ | ⟨hj, q⟩
    · cases q
    · exact S.val j d q
  · rcases g j _ e with ⟨rfl, q⟩ | ⟨hj, q⟩
    · cases q
      exact ⟨a, vs, hv, upd_same, e3, r⟩
    · obtain ⟨b, us, z1, z2, z3, z4⟩ := S.own j es q
      have hb : b ≠ a := fun z => hj (S.sep j i es ds a q h (by rw [← z]; exact z1) hv)
      exact ⟨b, us, z1, by rw [upd_ne hb]; exact z2, z3, z4⟩
  · have oj : ∃ es', σD[j]? = some (Slot.own es') := by
      rcases g j _ ej with ⟨rfl, _⟩ | ⟨_, q⟩
      · exact ⟨_, h⟩
      · exact ⟨_, q⟩
    have ok' : ∃ es', σD[k]? = some (Slot.own es') := by
      rcases g k _ ek with ⟨rfl, _⟩ | ⟨_, q⟩
      · exact ⟨_, h⟩
      · exact ⟨_, q⟩
    obtain ⟨_, z1⟩ := oj
    obtain ⟨_, z2⟩ := ok'
    exact S.sep j k _ _ b z1 z2 hj hk
  · rcases g j _ e with ⟨rfl, q⟩ | ⟨hj, q⟩
    · cases q
    · exact S.exc j q
  · have hb : b ≠ a := fun z => n (by rw [z]; exact oa)
    rw [upd_ne hb]
    exact e
  · by_cases hb : b = a
    · rw [hb]; exact St.lst upd_same
    · obtain ⟨o, e1, e2⟩ := e
      exact ⟨o, by rw [upd_ne hb]; exact e1, e2⟩
  · obtain ⟨j, es, z1, z2⟩ := o
    rcases g j _ z1 with ⟨rfl, _⟩ | ⟨_, q⟩
    · exact .inl ⟨_, ds, h, z2⟩
    · exact .inl ⟨j, es, q, z2⟩
theorem var_ok {x : Str} {i : Nat} (ok : CtxOk Φ Γ τ W C X) (hv : visB C.sc x = true) (ho : oddName x = false) (hi : ixOf C.N x = some i) : PE X (.Name x pos) (tVar i) := by
  obtain ⟨o1, o2, o3⟩ := odd_ok ho
  exact pe_var (i := i) (by rw [ok.N]; exact ixOf_get hi) (by rw [ok.sc]; exact vis_of hv) o1 o2
theorem last_ix {α : Type} {xs : List α} : xs[xs.length - 1]? = xs.getLast? := (List.getLast?_eq_getElem?).symm
theorem pop_ok {x : Str} {p apos cpos : Pos} (IH : SE Φ Γ τ f) (ns : NS f) (ok : CtxOk Φ Γ τ W C X) (h : cPop (f C) C x apos cpos es = some t) : PE X (.Call (.Attribute (.Name x p) "pop" apos) es [] cpos) (tE Φ Γ τ W X.K t) := by
  match es with
  | _ :: _ :: _ => cases h
  | [] =>
    simp only [cPop] at h
    split at h
    case isFalse => cases h
    rename_i hx
    obtain ⟨i, e1, h⟩ := Option.map_eq_some_iff.mp h
    subst h
    refine pe_imp (pe_bm0 PySem.F.plainAttrs_list PySem.F.slot_list_pop PySem.F.type_list_pop mt_pop (var_ok (pos := p) ok hx.2.1 hx.2.2 e1) (by rfl) hx.1) fun σ H Q ⟨σD, G, S, h⟩ => ?_
    simp only [evE] at h
    split at h
    · rename_i ds hd
      split at h
      · rename_i d hl
        obtain ⟨a, vs, z1, z2, z3, z4⟩ := S.own i ds hd
        refine ⟨_, z1, .inl ⟨rfl, vs, .inl (.inl z2)⟩, ?_⟩
        have hl2 : ds[ds.length - 1]? = some d := by rw [last_ix]; exact hl
        obtain ⟨y, y1, y2⟩ := z4.getD _ hl2
        obtain ⟨S', st, hd'⟩ := own_upd S hd z1 z4.dropLast
        exact ⟨a, vs, y, rfl, rfl, z2, by rw [z4.len]; exact y1, h _ _ S' st hd' y y2⟩
      · exact h.elim
    · exact h.elim
  | [a] =>
    simp only [cPop] at h
    split at h
    case isFalse => cases h
    rename_i hx
    obtain ⟨i, e1, h⟩ := Option.bind_eq_some_iff.mp h
    obtain ⟨t1, e2, h⟩ := Option.map_eq_some_iff.mp h
    subst h
    have he : ∀ x p, a ≠ .Starred x p := fun x p z => by rw [z, ns] at e2; cases e2
    have hs := starE (X := X) (es := []) he
    refine pe_imp (pe_bm PySem.F.plainAttrs_list PySem.F.slot_list_pop PySem.F.type_list_pop mt_popAt (var_ok (pos := p) ok hx.2.1 hx.2.2 e1) (pa_cons (IH W C X a t1 e2 ok).1 pa_nil hs) (by rfl) (few1 hs) hx.1 hs (by rfl)) fun σ H Q ⟨σD, G, S, h⟩ => ?_
    simp only [evE] at h
    split at h
    case h_2 => exact h.elim
    rename_i ds0 hd0
    obtain ⟨a0, vs0, w1, w2, w3, w4⟩ := S.own i ds0 hd0
    refine ⟨_, w1, .inl ⟨rfl, vs0, .inl (.inl w2)⟩, one_op kE S h fun y f1 G1 H1 S1 st1 hd1 h v ro1 => ?_⟩
    split at h
    · rename_i k ds hy1 hy2
      split at h
      · rename_i hk
        split at h
        · rename_i d hd
          rw [hy1] at ro1
          have rv : Rp X.K G1 v (.int k) := ro1
          cases rv
          obtain ⟨a, vs, z1, z2, z3, z4⟩ := S1.own i ds hy2
          rw [w1] at z1
          cases z1
          obtain ⟨u, u1, u2⟩ := z4.getD _ hd
          obtain ⟨S', st, hd'⟩ := own_upd S1 hy2 w1 (z4.eraseIdx k.toNat)
          have hlt : k.toNat < ds.length := (List.getElem?_eq_some_iff.mp hd).1
          have hk2 : k < 16777216 := hk.2
          refine ⟨a0, vs, k, k.toNat, u, rfl, rfl, z2, by omega, by omega, ?_, u1, h _ _ S' st hd' u u2⟩
          rw [PySem.StrLaws.seqIndex_nonneg hk.1 (by rw [z4.len]; omega)]
        · exact h.elim
      · exact h.elim
    · exact h.elim

/-! ### what is walked -/
/-- J gives ds, one after another, in every later heap -/
def Wk (K : PySem.W.Frag) (G1 : Hp) (J : It) (ds : List D) : Prop :=
  (∀ i G H, Sub G1 G → Sub G H → i < ds.length → J.go i H ∧ ∀ x H', J.yld i H x H' → ∃ G2 d, ds[i]? = some d ∧ Ext G H G2 H' ∧ Rp K G2 x d) ∧ ∀ i G H, Sub G1 G → Sub G H → ds.length ≤ i → J.stop i H
abbrev wI (K : PySem.W.Frag) (R : It → Hp → Prop) : Hp → List D → Sts → Hp → Hp → Prop := fun _ ds _ G' H' => ∀ J, Wk K G' J ds → R J H'
theorem up_I {K : PySem.W.Frag} {R : It → Hp → Prop} : Up (wI K R) := fun _ _ _ _ _ _ _ h => h
abbrev kI {K : PySem.W.Frag} {σV : L2.St} {R : It → Hp → Prop} : Cont τ W σV (NP τ W K σV (wI K R)) := cont_NP up_I
def tI (Φ : Fns) (Γ : List D) (τ : Tb) (W : EW) (K : PySem.W.Frag) (t : T) : TI := fun σV H R => ∃ σD G, S2 τ K G H σD σV ∧ NP τ W K σV (wI K R) σD G H (evI Φ Γ t σD)
section
variable {K : PySem.W.Frag} {G H : Hp} {σD : Sts} {σV : L2.St} {β : Type} {N : Sts → Hp → Hp → Res β → Prop}
/-- what is walked first -/
theorem iter_op (C : Cont τ W σV N) {a : T} {f : List D × Sts → Res β} (S : S2 τ K G H σD σV) (h : N σD G H ((evI Φ Γ a σD).bind f)) {k : It → Hp → Prop}
    (hk : ∀ x G' H', S2 τ K G' H' x.2 σV → Step σD σV G H x.2 σV G' H' → Held σD x.2 → N x.2 G' H' (f x) → ∀ J, Wk K G' J x.1 → k J H') : tI Φ Γ τ W K a σV H k :=
  ⟨σD, G, S, (C.bind h).mono fun x e n G' H' S' st hd => hk x G' H' S' st hd (C.shift st hd n)⟩
end
theorem wk_list {K : PySem.W.Frag} {G1 : Hp} {a : Addr} {xs : List V} {ds : List D} (h : G1 a = some (HO.lst xs)) (r : RpA K G1 xs ds) : Wk K G1 (Itl K a) ds := by
  refine ⟨fun i G H s1 s2 hi => ?_, fun i G H s1 s2 hi => ⟨xs, .inl (.inl (s2 _ _ (s1 _ _ h))), by rw [r.len]; exact hi⟩⟩
  have hq : SqL K H a xs := .inl (.inl (s2 _ _ (s1 _ _ h)))
  have hx : i < xs.length := by rw [r.len]; exact hi
  refine ⟨⟨xs, xs[i], hq, List.getElem?_eq_getElem hx⟩, fun x H' y => ?_⟩
  obtain ⟨rfl, y⟩ := y
  obtain ⟨d, e1, e2⟩ := r.get i (y xs hq)
  exact ⟨G, d, e1, Ext.rfl' s2, e2.mono s1⟩
theorem wk_tup {K : PySem.W.Frag} {G1 : Hp} {a : Addr} {xs : List V} {ds : List D} (h : SqT K G1 a xs) (r : RpA K G1 xs ds) : Wk K G1 (Itt K a) ds := by
  refine ⟨fun i G H s1 s2 hi => ?_, fun i G H s1 s2 hi => ⟨xs, sqT_sub (s1.trans s2) h, by rw [r.len]; exact hi⟩⟩
  have hq : SqT K H a xs := sqT_sub (s1.trans s2) h
  have hx : i < xs.length := by rw [r.len]; exact hi
  refine ⟨⟨xs, xs[i], hq, List.getElem?_eq_getElem hx⟩, fun x H' y => ?_⟩
  obtain ⟨rfl, y⟩ := y
  obtain ⟨d, e1, e2⟩ := r.get i (y xs hq)
  exact ⟨G, d, e1, Ext.rfl' s2, e2.mono s1⟩
theorem wk_str {K : PySem.W.Frag} {G1 : Hp} (x : Str) : Wk K G1 (Its x) (x.cps.toList.map fun c => .str ⟨#[c]⟩) := by
  have hl : (x.cps.toList.map fun c => (PyData.str ⟨#[c]⟩ : D)).length = x.cps.size := by rw [List.length_map, Array.length_toList]
  refine ⟨fun i G H s1 s2 hi => ?_, fun i G H s1 s2 hi => by rw [hl] at hi; exact hi⟩
  rw [hl] at hi
  refine ⟨hi, fun v H' y => ?_⟩
  obtain ⟨rfl, c, hc, rfl⟩ := y
  exact ⟨G, _, by rw [List.getElem?_map, Array.getElem?_toList, hc]; rfl, Ext.rfl' s2, .str _⟩
theorem rng_get {lo : Int} {n i : Nat} (h : i < n) : (rng lo n)[i]? = some (.int (lo + i)) := by
  unfold rng
  rw [List.getElem?_map, List.getElem?_range h]
  rfl
theorem wk_rng {K : PySem.W.Frag} {G1 : Hp} (lo : Int) (n : Nat) : Wk K G1 (Itr lo n) (rng lo n) := by
  refine ⟨fun i G H s1 s2 hi => ?_, fun i G H s1 s2 hi => by rw [rng_len] at hi; exact hi⟩
  rw [rng_len] at hi
  refine ⟨hi, fun x H' y => ?_⟩
  obtain ⟨rfl, rfl⟩ := y
  exact ⟨G, _, rng_get hi, Ext.rfl' s2, .int _⟩
theorem zipL_len : ∀ xs ys : List D, (zipL xs ys).length = min xs.length ys.length
  | [], _ => by unfold zipL; simp
  | _ :: _, [] => by unfold zipL; simp
  | x :: xs, y :: ys => by
    unfold zipL
    rw [List.length_cons, zipL_len xs ys, List.length_cons, List.length_cons]
    omega
theorem zipL_get : ∀ {xs ys : List D} {i : Nat} {x y : D}, xs[i]? = some x → ys[i]? = some y → (zipL xs ys)[i]? = some (.tuple [x, y])
  | [], _, _, _, _, h, _ => by simp at h
  | _ :: _, [], _, _, _, _, h => by simp at h
  | a :: xs, b :: ys, 0, x, y, h1, h2 => by
    simp at h1 h2
    subst h1 h2
    rfl
  | a :: xs, b :: ys, i + 1, x, y, h1, h2 => by
    unfold zipL
    simpa using zipL_get (by simpa using h1) (by simpa using h2)
theorem pair_ext {K : PySem.W.Frag} {G H : Hp} {T : Addr} {x y : V} {a b : D} (s : Sub G H) (n : H T = none) (rx : Rp K G x a) (ry : Rp K G y b) : Ext G H (upd G T (.tup [x, y])) (upd H T (.tup [x, y])) ∧ Rp K (upd G T (.tup [x, y])) (.ref T) (.tuple [a, b]) :=
  ⟨Ext.laidG s n, .tup (.inl (.inl upd_same)) (.cons (rx.mono (sub_upd (none_sub s n))) (.cons (ry.mono (sub_upd (none_sub s n))) .nil))⟩
theorem wk_zipL {K : PySem.W.Frag} {G1 : Hp} {a b : Addr} {xs ys : List V} {ds es : List D} (h : G1 a = some (HO.lst xs)) (h' : G1 b = some (HO.lst ys)) (r : RpA K G1 xs ds) (r' : RpA K G1 ys es) : Wk K G1 (Itz K a b) (zipL ds es) := by
  refine ⟨fun i G H s1 s2 hi => ?_, fun i G H s1 s2 hi => ?_⟩
  · rw [zipL_len] at hi
    have hx : i < xs.length := by rw [r.len]; omega
    have hy : i < ys.length := by rw [r'.len]; omega
    have q1 : SqL K H a xs := .inl (.inl (s2 _ _ (s1 _ _ h)))
    have q2 : SqL K H b ys := .inl (.inl (s2 _ _ (s1 _ _ h')))
    refine ⟨⟨xs, ys, xs[i], ys[i], q1, q2, List.getElem?_eq_getElem hx, List.getElem?_eq_getElem hy⟩, fun x H' y => ?_⟩
    obtain ⟨T, u, w, rfl, nT, rfl, f1, f2⟩ := y
    obtain ⟨d, e1, e2⟩ := r.get i (f1 xs q1)
    obtain ⟨d', e3, e4⟩ := r'.get i (f2 ys q2)
    obtain ⟨z1, z2⟩ := pair_ext s2 nT (e2.mono s1) (e4.mono s1)
    exact ⟨_, _, zipL_get e1 e3, z1, z2⟩
  · rw [zipL_len] at hi
    refine ⟨xs, ys, .inl (.inl (s2 _ _ (s1 _ _ h))), .inl (.inl (s2 _ _ (s1 _ _ h'))), ?_⟩
    rw [r.len, r'.len]
    omega
theorem wk_zipT {K : PySem.W.Frag} {G1 : Hp} {a b : Addr} {xs ys : List V} {ds es : List D} (h : SqT K G1 a xs) (h' : SqT K G1 b ys) (r : RpA K G1 xs ds) (r' : RpA K G1 ys es) : Wk K G1 (RZ.ItzT K a b) (zipL ds es) := by
  refine ⟨fun i G H s1 s2 hi => ?_, fun i G H s1 s2 hi => ?_⟩
  · rw [zipL_len] at hi
    have hx : i < xs.length := by rw [r.len]; omega
    have hy : i < ys.length := by rw [r'.len]; omega
    have q1 : SqT K H a xs := sqT_sub (s1.trans s2) h
    have q2 : SqT K H b ys := sqT_sub (s1.trans s2) h'
    refine ⟨⟨xs, ys, xs[i], ys[i], q1, q2, List.getElem?_eq_getElem hx, List.getElem?_eq_getElem hy⟩, fun x H' y => ?_⟩
    obtain ⟨T, u, w, rfl, nT, rfl, f1, f2⟩ := y
    obtain ⟨d, e1, e2⟩ := r.get i (f1 xs q1)
    obtain ⟨d', e3, e4⟩ := r'.get i (f2 ys q2)
    obtain ⟨z1, z2⟩ := pair_ext s2 nT (e2.mono s1) (e4.mono s1)
    exact ⟨_, _, zipL_get e1 e3, z1, z2⟩
  · rw [zipL_len] at hi
    refine ⟨xs, ys, sqT_sub (s1.trans s2) h, sqT_sub (s1.trans s2) h', ?_⟩
    rw [r.len, r'.len]
    omega
theorem sqM_sub {t : Bool} {K : PySem.W.Frag} {G H : Hp} {a : Addr} {xs : List V} (h : Sub G H) (q : SqM t K G a xs) : SqM t K H a xs := by
  cases t
  · exact sqL_sub h q
  · exact sqT_sub h q
theorem wk_zipM {t1 t2 : Bool} {K : PySem.W.Frag} {G1 : Hp} {a b : Addr} {xs ys : List V} {ds es : List D} (h : SqM t1 K G1 a xs) (h' : SqM t2 K G1 b ys) (r : RpA K G1 xs ds) (r' : RpA K G1 ys es) : Wk K G1 (ItM t1 t2 K a b) (zipL ds es) := by
  refine ⟨fun i G H s1 s2 hi => ?_, fun i G H s1 s2 hi => ?_⟩
  · rw [zipL_len] at hi
    have hx : i < xs.length := by rw [r.len]; omega
    have hy : i < ys.length := by rw [r'.len]; omega
    have q1 : SqM t1 K H a xs := sqM_sub (s1.trans s2) h
    have q2 : SqM t2 K H b ys := sqM_sub (s1.trans s2) h'
    refine ⟨⟨xs, ys, xs[i], ys[i], q1, q2, List.getElem?_eq_getElem hx, List.getElem?_eq_getElem hy⟩, fun x H' y => ?_⟩
    obtain ⟨T, u, w, rfl, nT, rfl, f1, f2⟩ := y
    obtain ⟨d, e1, e2⟩ := r.get i (f1 xs q1)
    obtain ⟨d', e3, e4⟩ := r'.get i (f2 ys q2)
    obtain ⟨z1, z2⟩ := pair_ext s2 nT (e2.mono s1) (e4.mono s1)
    exact ⟨_, _, zipL_get e1 e3, z1, z2⟩
  · rw [zipL_len] at hi
    refine ⟨xs, ys, sqM_sub (s1.trans s2) h, sqM_sub (s1.trans s2) h', ?_⟩
    rw [r.len, r'.len]
    omega
theorem enumL_len : ∀ (n : Nat) (xs : List D), (enumL n xs).length = xs.length
  | _, [] => rfl
  | n, x :: xs => by unfold enumL; rw [List.length_cons, List.length_cons, enumL_len]
theorem enumL_get : ∀ (n : Nat) {xs : List D} {i : Nat} {x : D}, xs[i]? = some x → (enumL n xs)[i]? = some (.tuple [.int ((n + i : Nat) : Int), x])
  | _, [], _, _, h => by simp at h
  | n, a :: xs, 0, x, h => by
    simp at h
    subst h
    rfl
  | n, a :: xs, i + 1, x, h => by
    have := enumL_get (n + 1) (xs := xs) (i := i) (x := x) (by simpa using h)
    unfold enumL
    rw [List.getElem?_cons_succ, this]
    congr 4
    omega
/-! enumerate(tuple) -/
def IteT (K : PySem.W.Frag) (a : Addr) : It :=
  ⟨fun i H => ∃ (xs : List V) (x : V), SqT K H a xs ∧ xs[i]? = some x, fun i H v H' => ∃ T x, v = .ref T ∧ H T = none ∧ H' = upd H T (.tup [.int (i : Nat), x]) ∧ ∀ xs, SqT K H a xs → xs[i]? = some x, fun i H => ∃ xs : List V, SqT K H a xs ∧ xs.length ≤ i⟩
theorem pyNext_enumT_end {prog : Program} {w : World} {A : Around} {E : Value → Shared → Prop} {s : Shared} {e it l : Addr} {i : Nat} {items : Array Value} {old : Value} {Q : Option Value → Shared → Prop} (hh : A.handled = none)
    (he : IsEnum s.heap e it i old) (hit : s.heap.IsTupleIter it l i) (hl : s.heap.IsTuple l items) (hx : items[i]? = none)
    (hQ : ∀ h', Heap.ExtBut it s.heap h' → Q none { s with heap := h' }) : wpAny (model prog w) A (pyNext (.ref e)) Q E s := by
  have hT : s.TypeIs (.ref e) "enumerate" := ⟨_, he, rfl⟩
  unfold pyNext
  refine wpAny_bind (wpAny_attempt (wpAny_callSpecial?_slot (name := Str.ofString "__next__") hT F.slot_enumerate_next
    (wpAny_call_entry F.slot_enumerate_next hT F.entry_enumerate_next ?_ (F.args_enumerate_next_1 _))))
  show wpAny _ _ (field (.ref e) 2 >>= _) _ _ _
  refine wpAny_bind (wpAny_field he rfl (x := .ref it) rfl ?_)
  refine wpAny_bind (wpAny_nextOf_tuple_end hh hit hl hx fun h' x he' hx' => ?_)
  obtain ⟨o, ho, hc⟩ := hx'
  refine wpAny_bind (wpAny_isInstance (T := "StopIteration") (b := true) ⟨o, ho, hc⟩ isSubtype_stop ?_)
  exact wpAny_pure (hQ _ he')
theorem turn_enumT {P : Program} {w : World} {K : PySem.W.Frag} {elts : List Expr} {kk : Nat} {tpos : Pos} (a e it : Addr) (hne2 : a ≠ it) (hne3 : e ≠ a) :
    Turn P w K (.Tuple elts kk tpos) (IteT K a) [e, it] e (fun i h => (∃ old, IsEnum h e it ((i : Nat) : Int) old) ∧ h.IsTupleIter it a i ∧ e ≠ it) where
  mem := by simp
  obj := fun i h st b hb => by
    obtain ⟨⟨old, he⟩, ⟨o, ho, hc, hd⟩, _⟩ := st
    have e' : b = e ∨ b = it := by simpa using hb
    rcases e' with z | z
    · rw [z]; exact ⟨_, he, fun v q => nomatch q⟩
    · rw [z]; exact ⟨o, ho, fun v q => by rw [hd] at q; cases q⟩
  keep := fun i h h' st k => let ⟨⟨old, he⟩, hi, hne⟩ := st; ⟨⟨old, k e (by simp) _ he⟩, hi.at fun o q => k it (by simp) o q, hne⟩
  item := by
    intro X hP hw hK hc i pins s σ H E I hf st hg
    subst hP hw hK
    obtain ⟨⟨old, he⟩, hit, hne⟩ := st
    obtain ⟨xs, x, hq, hx⟩ := hg
    obtain ⟨its, rv, p, hz⟩ := I.tuple hq
    obtain ⟨u, hu, ru⟩ := rv.get hx
    have hel : e < s.heap.objs.size := Heap.lt_size he
    have hil : it < s.heap.objs.size := by obtain ⟨_, q, _⟩ := hit; exact Heap.lt_size q
    have hlt : i < its.toArray.size := by simpa using (List.getElem?_eq_some_iff.mp hu).1
    refine wpAny_pyNext_enum_itemD (Draws.tuple (A := X.A.in1) (show X.A.in1.handled = none from I.ok.hd hc) it a hne2 its.toArray) he ⟨hit, p⟩ hlt hne (by simp [hne, hne3]) fun x' h' tk hx' ho hit' hT hsz hk => ?_
    have ex : x' = u := by
      have hu' : its.toArray[i]? = some u := by simpa using hu
      rw [hu'] at hx'
      exact (Option.some.inj hx').symm
    subst ex
    refine ⟨_, rfl, wpAny_letOwnedTupleGo_enum (s := { s with heap := h', toks := tk + 1 }) ho fun h'' he' sb => ?_⟩
    have hT2 : h''.get? s.heap.objs.size = some { cls := .type "tuple", data := .seq #[.int i tk, x'] } := (sb.2 _ (Nat.ne_of_gt hel)).trans hT
    have new : ObjOk X.prog X.w (upd H s.heap.objs.size (.tup [.int (i : Nat), x])) h'' s.heap.objs.size (.tup [.int (i : Nat), x]) :=
      ⟨by show 2 ≤ sizeLine; decide, [.int i tk, x'], .cons ⟨_, rfl⟩ (.cons ru .nil), ⟨_, hT2, rfl, _, rfl⟩⟩
    have I1 : Inv X pins σ (upd H s.heap.objs.size (.tup [.int (i : Nat), x])) { s with heap := h'', toks := tk + 1 } :=
      I.turnedNew (ch := [e, it]) (fun b ob hb q => (sb.2 b (fun z => hb (by simp [z]))).trans (hk b ob (fun z => hb (by simp [z])) (fun z => hb (by simp [z])) q)) hf (Nat.le_refl _) new
    refine ⟨.ref s.heap.objs.size, _, I1, rfl, ⟨_, x, rfl, I.hok.fresh (Nat.le_refl _), rfl, fun ys hy => by rw [I.tuple_inj hy hq]; exact hx⟩, ⟨⟨x', ?_⟩, hit'.1.at fun o q => (sb.2 it (Ne.symm hne)).trans q, hne⟩, fun b hb => ?_⟩
    · have e1 : ((i + 1 : Nat) : Int) = (i : Int) + 1 := by omega
      rw [e1]; exact he'
    · have hb' : b < s.heap.objs.size := by
        have e' : b = e ∨ b = it := by simpa using hb
        rcases e' with z | z
        · rw [z]; exact hel
        · rw [z]; exact hil
      rw [upd_ne (Nat.ne_of_lt hb')]
      exact (hf b hb).1
  done := by
    intro X hP hw hK hc i pins s σ H E I hf st hg
    subst hP hw hK
    obtain ⟨⟨old, he⟩, hit, hne⟩ := st
    obtain ⟨xs, hq, hx⟩ := hg
    obtain ⟨its, rv, p, hz⟩ := I.tuple hq
    obtain ⟨f0, f1, f2, f3, f4, f5⟩ := hf it (by simp)
    have hl := rv.length
    exact pyNext_enumT_end (I.ok.hd hc) he hit p (by simp; omega) fun h' eb => ⟨rfl, I.turned (t' := s.toks) (fun b o hb q => eb b o hb q) f0 f1 f3 f4 f5⟩
  self := fun A i s Q E st h => let ⟨⟨_, he⟩, _⟩ := st; wpAny_pyIter_enum he h
theorem meets_enumerate_new1 {v : Value} {o : Obj} {H : Heap → Prop} (B : Begins v o H) :
    Meets (Builtin.«enumerate.__new__» ⟨[.type "enumerate", v], []⟩) (fun _ R s => H s.heap ∧
      R (.ok (.ret (.ref (s.heap.push o).objs.size))) { s with heap := (s.heap.push o).push { cls := .type "enumerate", data := .fields #[.none, .bool false, .ref s.heap.objs.size, rawInt 0, .none, .none] } }) :=
  .of_wp fun prog w A R s h => by
    obtain ⟨hp, g, d, tk, os⟩ := s; obtain ⟨h1, h⟩ := h
    have hsub := sub_enumerate
    have q1 : ∀ {A' : Around} {E : Value → Shared → Prop} {Q : Value → Shared → Prop}, Q (.ref hp.objs.size) ⟨hp.push o, g, d, tk, os⟩ → wpAny (model prog w) A' (pyIter v) Q E ⟨hp, g, d, tk, os⟩ :=
      fun q => B.iter prog w _ _ ⟨hp, g, d, tk, os⟩ _ h1 q
    wp_walk using q1
    refine wpAny_stack_any fun st => wpAny_pure ?_
    split
    · rename_i c _ _ _ _ _
      cases (c == Value.type "enumerate")
      · wp_walk using q1
        exact ⟨_, rfl, h⟩
      · wp_walk using q1
        exact ⟨_, rfl, h⟩
    · wp_walk using q1
      exact ⟨_, rfl, h⟩
theorem call_enumerate_new {prog : Program} {w : World} {A : Around} {E : Value → Shared → Prop} {s : Shared} {v : Value} {o : Obj} {H : Heap → Prop} {Q : Value → Shared → Prop} (B : Begins v o H) (h1 : H s.heap)
    (h : ∀ h', IsEnum h' (s.heap.objs.size + 1) s.heap.objs.size 0 .none → h'.get? s.heap.objs.size = some o → h'.objs.size = s.heap.objs.size + 2 →
      (∀ b o, s.heap.get? b = some o → h'.get? b = some o) → Q (.ref (s.heap.objs.size + 1)) { s with heap := h' }) :
    wpAny (model prog w) A (call (.type "enumerate") [v]) Q E s := by
  refine callType_new F.called_enumerate (by decide) (F.typeCall_enumerate_1 _) (F.newCall_enumerate_1 _) (fun obj => F.args_object_init_2 obj _) F.entry_enumerate_new
    (meets_enumerate_new1 B) ⟨h1, ?_⟩
  have hz : (s.heap.push o).objs.size = s.heap.objs.size + 1 := Heap.size_push ..
  show _ ∧ _
  rw [hz]
  have he : IsEnum ((s.heap.push o).push { cls := .type "enumerate", data := .fields #[.none, .bool false, .ref s.heap.objs.size, rawInt 0, .none, .none] }) (s.heap.objs.size + 1) s.heap.objs.size 0 .none := by
    have := Heap.get?_push_size (s.heap.push o) (o := { cls := .type "enumerate", data := .fields #[.none, .bool false, .ref s.heap.objs.size, rawInt 0, .none, .none] }) rfl
    rw [hz] at this; exact this
  refine ⟨⟨_, he, rfl⟩, h _ he (Heap.get?_push_of_some _ (Heap.get?_push_size _ B.free)) (by rw [Heap.size_push, hz]) fun b o x => Heap.get?_push_of_some _ (Heap.get?_push_of_some _ x)⟩
/-- a list or a tuple in pairs -/
def iEnumA (K : PySem.W.Frag) (ta : TA) : TI := fun σ H R => ta σ H fun vs H1 => ∃ a xs, vs = [.ref a] ∧ ((SqL K H1 a xs ∧ R (Ite K a) H1) ∨ (SqT K H1 a xs ∧ R (IteT K a) H1))
theorem pi_enumA {X : Cx} {e : Expr} {ta : TA} {p pos tpos : Pos} {elts : List Expr} {kk : Nat} (hg : Gl X "enumerate") (hm : X.mg "enumerate" = none) (ha : PA X [e] ta) (hs : starEach [e] X.env = [(false, eval e X.env)] := by rfl) :
    PI X (.Tuple elts kk tpos) (.Call (.Name "enumerate" p) [e] [] pos) (iEnumA X.K ta) := by
  refine ⟨fun pins s σ H R I h => ?_⟩
  refine Call_ (ld_blt I hg hm boot_enumerate (PyProof.Rows.callWith_type1 (thn (ha.run pos pins s σ H _ I h) fun us s1 ⟨vs, H1, I1, r1, q1⟩ => ?_) hs rfl))
  obtain ⟨a, xs, ex, q1⟩ := q1
  subst ex
  cases r1 with
  | cons r rr =>
    cases rr
    cases r
    have fresh2 : ∀ b, b ∈ [s1.heap.objs.size + 1, s1.heap.objs.size] → FpOk X pins H1 b := fun b hb => by
      have e' : b = s1.heap.objs.size + 1 ∨ b = s1.heap.objs.size := by simpa using hb
      have hle : s1.heap.objs.size ≤ b := by
        rcases e' with z | z
        · rw [z]; exact Nat.le_add_right _ _
        · rw [z]; exact Nat.le_refl _
      exact I1.fpOk hle (I1.hok.fresh hle)
    rcases q1 with ⟨hq, q⟩ | ⟨hq, q⟩
    · obtain ⟨its, rv, p', hz⟩ := I1.list hq
      refine call_enumerate_list p'.isList fun h' he hit hsz hk => wpAny_pyIter_enum he ?_
      have I2 : Inv X pins σ H1 { s1 with heap := h' } := I1.kept (t' := s1.toks) hk
      exact ⟨s1.heap.objs.size + 1, [s1.heap.objs.size + 1, s1.heap.objs.size], _, _, H1, rfl, I2, turn_enum a (s1.heap.objs.size + 1) s1.heap.objs.size, ⟨⟨.none, he⟩, hit, Nat.succ_ne_self _⟩, fresh2, q⟩
    · obtain ⟨its, rv, p', hz⟩ := I1.tuple hq
      obtain ⟨o1, ho1, _⟩ := id p'
      have hlt := Heap.lt_size ho1
      refine call_enumerate_new (begins_tuple a its.toArray) p' fun h' he hit hsz hk => wpAny_pyIter_enum he ?_
      have I2 : Inv X pins σ H1 { s1 with heap := h' } := I1.kept (t' := s1.toks) hk
      exact ⟨s1.heap.objs.size + 1, [s1.heap.objs.size + 1, s1.heap.objs.size], _, _, H1, rfl, I2, turn_enumT a (s1.heap.objs.size + 1) s1.heap.objs.size (Nat.ne_of_lt hlt) (Nat.ne_of_gt (Nat.lt_succ_of_lt hlt)), ⟨⟨.none, he⟩, ⟨_, hit, rfl, rfl⟩, Nat.succ_ne_self _⟩, fresh2, q⟩
theorem wk_enumT {K : PySem.W.Frag} {G1 : Hp} {a : Addr} {xs : List V} {ds : List D} (h : SqT K G1 a xs) (r : RpA K G1 xs ds) : Wk K G1 (IteT K a) (enumL 0 ds) := by
  refine ⟨fun i G H s1 s2 hi => ?_, fun i G H s1 s2 hi => ⟨xs, sqT_sub (s1.trans s2) h, by rw [r.len]; rw [enumL_len] at hi; exact hi⟩⟩
  rw [enumL_len] at hi
  have hq : SqT K H a xs := sqT_sub (s1.trans s2) h
  have hx : i < xs.length := by rw [r.len]; exact hi
  refine ⟨⟨xs, xs[i], hq, List.getElem?_eq_getElem hx⟩, fun x H' y => ?_⟩
  obtain ⟨T, u, rfl, nT, rfl, f1⟩ := y
  obtain ⟨d, e1, e2⟩ := r.get i (f1 xs hq)
  obtain ⟨z1, z2⟩ := pair_ext s2 nT (.int (i : Int) : Rp K G (V.int i) (.int i)) (e2.mono s1)
  have := enumL_get 0 e1
  rw [Nat.zero_add] at this
  exact ⟨_, _, this, z1, z2⟩
theorem wk_enum {K : PySem.W.Frag} {G1 : Hp} {a : Addr} {xs : List V} {ds : List D} (h : G1 a = some (HO.lst xs)) (r : RpA K G1 xs ds) : Wk K G1 (Ite K a) (enumL 0 ds) := by
  refine ⟨fun i G H s1 s2 hi => ?_, fun i G H s1 s2 hi => ⟨xs, .inl (.inl (s2 _ _ (s1 _ _ h))), by rw [r.len]; rw [enumL_len] at hi; exact hi⟩⟩
  rw [enumL_len] at hi
  have hq : SqL K H a xs := .inl (.inl (s2 _ _ (s1 _ _ h)))
  have hx : i < xs.length := by rw [r.len]; exact hi
  refine ⟨⟨xs, xs[i], hq, List.getElem?_eq_getElem hx⟩, fun x H' y => ?_⟩
  obtain ⟨T, u, rfl, nT, rfl, f1⟩ := y
  obtain ⟨d, e1, e2⟩ := r.get i (f1 xs hq)
  obtain ⟨z1, z2⟩ := pair_ext s2 nT (.int (i : Int) : Rp K G (V.int i) (.int i)) (e2.mono s1)
  have := enumL_get 0 e1
  rw [Nat.zero_add] at this
  exact ⟨_, _, this, z1, z2⟩
theorem pi_imp {tg it : Expr} {w w' : TI} (h : PI X tg it w) (hi : ∀ σ H R, w' σ H R → w σ H R) : PI X tg it w' := ⟨fun pins s σ H R I q => h.run pins s σ H R I (hi _ _ _ q)⟩
/-- a list or a tuple -/
theorem itv_ok {tg : Expr} (h : PE X e (tE Φ Γ τ W X.K t)) : PI X tg e (tI Φ Γ τ W X.K (.itv t)) := by
  refine ⟨fun pins s σ H R I ⟨σD, G, S, hn⟩ => ?_⟩
  have hn : NP τ W X.K σ (wI X.K R) σD G H ((evE Φ Γ t σD).bind fun x => match itemsI (frz x.2 x.1).1 with | some ds => .ok (ds, (frz x.2 x.1).2) | none => .no) := hn
  cases e1 : evE Φ Γ t σD with
  | no => rw [e1] at hn; exact hn.elim
  | ex c as =>
    have hx : ∀ k, tE Φ Γ τ W X.K t σ H k := fun k => ⟨σD, G, S, by rw [e1] at hn ⊢; exact hn⟩
    exact (pi_list h).run pins s σ H R I (hx _)
  | ok x =>
    have hn' := hn
    rw [e1] at hn'
    have hn' : NP τ W X.K σ (wI X.K R) σD G H (match itemsI (frz x.2 x.1).1 with | some ds => .ok (ds, (frz x.2 x.1).2) | none => .no) := hn'
    cases hz : (frz x.2 x.1).1 with
    | list l =>
      refine (pi_list h).run pins s σ H R I (one_frz kI S hn fun y e2 G' H' S' st hd' hq v rp => ?_)
      rw [e1] at e2
      cases e2
      rw [hz] at rp
      simp only [hz, itemsI] at hq
      cases rp with
      | lst g r => exact ⟨_, rfl, ⟨_, .inl (.inl (S'.sub _ _ g))⟩, NP.fin S' hq _ (wk_list g r)⟩
    | tuple l =>
      refine (pi_tup h).run pins s σ H R I (one_frz kI S hn fun y e2 G' H' S' st hd' hq v rp => ?_)
      rw [e1] at e2
      cases e2
      rw [hz] at rp
      simp only [hz, itemsI] at hq
      cases rp with
      | tup g r => exact ⟨_, rfl, ⟨_, sqT_sub S'.sub g⟩, NP.fin S' hq _ (wk_tup g r)⟩
    | str l =>
      refine (pi_str h).run pins s σ H R I (one_frz kI S hn fun y e2 G' H' S' st hd' hq v rp => ?_)
      rw [e1] at e2
      cases e2
      rw [hz] at rp
      simp only [hz, itemsI] at hq
      cases rp with
      | str => exact ⟨_, rfl, NP.fin S' hq _ (wk_str l)⟩
    | _ => simp only [hz, itemsI] at hn'; exact hn'.elim
theorem itr1_ok {tg : Expr} {p : Pos} (IH : SE Φ Γ τ f) (ns : NS f) (ok : CtxOk Φ Γ τ W C X) (hg : gloB C.sc "range" = true) (h : cL (f C) [a] = some t) : PI X tg (.Call (.Name "range" p) [a] [] pos) (tI Φ Γ τ W X.K (.itr t)) := by
  have ha := args_ok IH ns ok h
  have hs := noStar (fun x p => ns C x p) h X.env
  obtain ⟨t1, e1, h'⟩ := Option.bind_eq_some_iff.mp h
  have he : ∀ x p, a ≠ .Starred x p := fun x p z => by rw [z, ns] at e1; cases e1
  refine pi_imp (pi_range1 (gl_of ok hg) (ok.bi _ (by decide)) ha (by rw [starE he]; rfl)) fun σ H R ⟨σD, G, S, hn⟩ => ?_
  refine args_op kI S hn fun w f1 G' H' S' st hd hn vs ros => ?_
  have cs := ros.cns S'
  obtain ⟨u, z1, z2⟩ : ∃ u, vs = [u] ∧ ∃ r, w.1 = [r] := by
    obtain ⟨y, g1, g2⟩ := Option.map_eq_some_iff.mp h'
    cases g1
    subst g2
    obtain ⟨x1, y1, f1⟩ := bind_ok f1
    cases f1
    cases ros with
    | cons a b => cases b; exact ⟨_, rfl, _, rfl⟩
  obtain ⟨r, z2⟩ := z2
  subst z1
  obtain ⟨ds, f2, hn⟩ := kI.ok hn (rngD_nx _)
  rw [z2] at f2 cs
  simp only [List.map_cons, List.map_nil] at f2 cs
  cases cs with
  | cons c1 _ =>
    cases hr : cont w.2 r with
    | int n =>
      rw [hr] at f2 c1
      simp only [rngD] at f2
      split at f2
      · rename_i hr2
        cases f2
        cases c1.int
        obtain ⟨n1, n2⟩ := rng_ok hr2
        exact ⟨n, rfl, n1, n2, NP.fin S' hn _ (wk_rng 0 _)⟩
      · cases f2
    | _ => rw [hr] at f2; cases f2
theorem itr2_ok {tg : Expr} {p : Pos} (IH : SE Φ Γ τ f) (ns : NS f) (ok : CtxOk Φ Γ τ W C X) (hg : gloB C.sc "range" = true) (h : cL (f C) [a, b] = some t) : PI X tg (.Call (.Name "range" p) [a, b] [] pos) (tI Φ Γ τ W X.K (.itr t)) := by
  have ha := args_ok IH ns ok h
  obtain ⟨t1, e1, h'⟩ := Option.bind_eq_some_iff.mp h
  obtain ⟨t2, e2, h2⟩ := Option.map_eq_some_iff.mp h'
  obtain ⟨t3, e3, e4⟩ := Option.bind_eq_some_iff.mp e2
  obtain ⟨t4, e5, e6⟩ := Option.map_eq_some_iff.mp e4
  cases e5
  subst e6 h2
  have he : ∀ x p, a ≠ .Starred x p := fun x p z => by rw [z, ns] at e1; cases e1
  have he2 : ∀ x p, b ≠ .Starred x p := fun x p z => by rw [z, ns] at e3; cases e3
  refine pi_imp (pi_range2 (gl_of ok hg) (ok.bi _ (by decide)) ha (by rw [starE he, starE he2]; rfl) (by rw [starE he2]; rfl)) fun σ H R ⟨σD, G, S, hn⟩ => ?_
  refine args_op kI S hn fun w f1 G' H' S' st hd hn vs ros => ?_
  have cs := ros.cns S'
  obtain ⟨x1, y1, f1⟩ := bind_ok f1
  obtain ⟨x2, y2, f1⟩ := bind_ok f1
  cases f1
  obtain ⟨x3, y3, y2⟩ := bind_ok y2
  cases y2
  obtain ⟨ds, f2, hn⟩ := kI.ok hn (rngD_nx _)
  simp only [List.map_cons, List.map_nil] at f2 cs
  cases cs with
  | cons c1 cs =>
    cases cs with
    | cons c2 cs =>
      cases cs
      cases hr : cont x3.2 x1.1.nt with
      | int n =>
        cases hr2 : cont x3.2 x3.1.nt with
        | int m =>
          rw [hr] at c1
          rw [hr2] at c2
          rw [hr, hr2] at f2
          simp only [rngD] at f2
          split at f2
          · rename_i hr2
            cases f2
            cases c1.int
            cases c2.int
            obtain ⟨n1, n2⟩ := rng_ok hr2.1
            obtain ⟨n3, n4⟩ := rng_ok hr2.2
            exact ⟨n, m, rfl, ⟨n1, n2, n3, n4⟩, NP.fin S' hn _ (wk_rng n _)⟩
          · cases f2
        | _ => rw [hr, hr2] at f2; cases f2
      | _ => rw [hr] at f2; cases f2
theorem rngC_get {lo c : Int} {n i : Nat} (h : i < n) : (rngC lo c n)[i]? = some (.int (lo + (i : Int) * c)) := by
  unfold rngC
  rw [List.getElem?_map, List.getElem?_range h]
  rfl
theorem rngC_len (lo c : Int) (n : Nat) : (rngC lo c n).length = n := by unfold rngC; rw [List.length_map, List.length_range]
theorem wk_rngC {K : PySem.W.Frag} {G1 : Hp} (lo c : Int) (n : Nat) : Wk K G1 (Itc lo c n) (rngC lo c n) := by
  refine ⟨fun i G H s1 s2 hi => ?_, fun i G H s1 s2 hi => by rw [rngC_len] at hi; exact hi⟩
  rw [rngC_len] at hi
  refine ⟨hi, fun x H' y => ?_⟩
  obtain ⟨rfl, rfl⟩ := y
  exact ⟨G, _, rngC_get hi, Ext.rfl' s2, .int _⟩
theorem itr3_ok {tg c0 : Expr} {p : Pos} (IH : SE Φ Γ τ f) (ns : NS f) (ok : CtxOk Φ Γ τ W C X) (hg : gloB C.sc "range" = true) (h : cL (f C) [a, b, c0] = some t) : PI X tg (.Call (.Name "range" p) [a, b, c0] [] pos) (tI Φ Γ τ W X.K (.itr t)) := by
  have ha := args_ok IH ns ok h
  obtain ⟨t1, e1, h'⟩ := Option.bind_eq_some_iff.mp h
  obtain ⟨t2, e2, h2⟩ := Option.map_eq_some_iff.mp h'
  obtain ⟨t3, e3, e4⟩ := Option.bind_eq_some_iff.mp e2
  obtain ⟨t4, e5, e6⟩ := Option.map_eq_some_iff.mp e4
  obtain ⟨t5, e7, e8⟩ := Option.bind_eq_some_iff.mp e5
  obtain ⟨t6, e9, e10⟩ := Option.map_eq_some_iff.mp e8
  cases e9
  subst e10 e6 h2
  have he : ∀ x p, a ≠ .Starred x p := fun x p z => by rw [z, ns] at e1; cases e1
  have he2 : ∀ x p, b ≠ .Starred x p := fun x p z => by rw [z, ns] at e3; cases e3
  have he3 : ∀ x p, c0 ≠ .Starred x p := fun x p z => by rw [z, ns] at e7; cases e7
  refine pi_imp (pi_range3 (gl_of ok hg) (ok.bi _ (by decide)) ha (by rw [starE he, starE he2, starE he3]) (by rw [starE he2, starE he3]; rfl)) fun σ H R ⟨σD, G, S, hn⟩ => ?_
  refine args_op kI S hn fun w f1 G' H' S' st hd hn vs ros => ?_
  have cs := ros.cns S'
  obtain ⟨x1, y1, f1⟩ := bind_ok f1
  obtain ⟨x2, y2, f1⟩ := bind_ok f1
  cases f1
  obtain ⟨x3, y3, y2⟩ := bind_ok y2
  obtain ⟨x4, y4, y2⟩ := bind_ok y2
  cases y2
  obtain ⟨x5, y5, y4⟩ := bind_ok y4
  cases y4
  obtain ⟨ds, f2, hn⟩ := kI.ok hn (rngD_nx _)
  simp only [List.map_cons, List.map_nil] at f2 cs
  cases cs with
  | cons c1 cs =>
    cases cs with
    | cons c2 cs =>
      cases cs with
      | cons c3 cs =>
        cases cs
        cases hr : cont x5.2 x1.1.nt with
        | int n =>
          cases hr2 : cont x5.2 x3.1.nt with
          | int m =>
            cases hr3 : cont x5.2 x5.1.nt with
            | int k =>
              rw [hr] at c1
              rw [hr2] at c2
              rw [hr3] at c3
              rw [hr, hr2, hr3] at f2
              simp only [rngD] at f2
              split at f2
              · rename_i hc
                cases f2
                cases c1.int
                cases c2.int
                cases c3.int
                obtain ⟨k1, k2, k3, k4⟩ := hc
                exact ⟨n, m, k, _, rfl, ⟨k1, k2, k3, (Int.toNat_of_nonneg k4).symm⟩, NP.fin S' hn _ (wk_rngC n k _)⟩
              · cases f2
            | _ => rw [hr, hr2, hr3] at f2; cases f2
          | _ => rw [hr, hr2] at f2; cases f2
        | _ => rw [hr] at f2; cases f2
theorem itz_ok {elts : List Expr} {kk : Nat} {tpos p : Pos} (ok : CtxOk Φ Γ τ W C X) (hg : gloB C.sc "zip" = true) (he : ∀ x p, a ≠ .Starred x p) (he2 : ∀ x p, b ≠ .Starred x p) (h1 : PE X a (tE Φ Γ τ W X.K ta)) (h2 : PE X b (tE Φ Γ τ W X.K tb)) :
    PI X (.Tuple elts kk tpos) (.Call (.Name "zip" p) [a, b] [] pos) (tI Φ Γ τ W X.K (.itz ta tb)) := by
  refine pi_imp (pi_zipM (gl_of ok hg) (ok.bi _ (by decide)) (pa_cons h1 (pa_cons h2 pa_nil (starE he2)) (starE he)) (starE he) (by rw [starE he2]; rfl)) fun σ H R ⟨σD, G, S, hn⟩ => ?_
  refine one_frz kI S hn fun x e1 G1 H1 S1 st1 hd1 hn v rp1 => one_frz kI S1 hn fun y e2 G2 H2 S2' st2 hd2 hn w rp2 => ?_
  have rp1 := rp1.mono st2.gm
  have L : ∀ {a : Addr} {xs : List V}, G2 a = some (HO.lst xs) → SqM false X.K H2 a xs := fun h => .inl (.inl (S2'.sub _ _ h))
  have L' : ∀ {a : Addr} {xs : List V}, G2 a = some (HO.lst xs) → SqM false X.K G2 a xs := fun h => .inl (.inl h)
  dsimp only at hn
  split at hn
  · rename_i xs ys hx hy
    rw [hx] at rp1
    rw [hy] at rp2
    cases rp1 with
    | lst g1 r1 => cases rp2 with
      | lst g2 r2 => exact ⟨false, false, _, _, _, _, rfl, L g1, L g2, NP.fin S2' hn _ (wk_zipM (L' g1) (L' g2) r1 r2)⟩
  · rename_i xs ys hx hy
    rw [hx] at rp1
    rw [hy] at rp2
    cases rp1 with
    | tup g1 r1 => cases rp2 with
      | tup g2 r2 => exact ⟨true, true, _, _, _, _, rfl, sqT_sub S2'.sub g1, sqT_sub S2'.sub g2, NP.fin S2' hn _ (wk_zipM (t1 := true) (t2 := true) g1 g2 r1 r2)⟩
  · rename_i xs ys hx hy
    rw [hx] at rp1
    rw [hy] at rp2
    cases rp1 with
    | lst g1 r1 => cases rp2 with
      | tup g2 r2 => exact ⟨false, true, _, _, _, _, rfl, L g1, sqT_sub S2'.sub g2, NP.fin S2' hn _ (wk_zipM (t2 := true) (L' g1) g2 r1 r2)⟩
  · rename_i xs ys hx hy
    rw [hx] at rp1
    rw [hy] at rp2
    cases rp1 with
    | tup g1 r1 => cases rp2 with
      | lst g2 r2 => exact ⟨true, false, _, _, _, _, rfl, sqT_sub S2'.sub g1, L g2, NP.fin S2' hn _ (wk_zipM (t1 := true) g1 (L' g2) r1 r2)⟩
  · exact hn.elim
theorem ite_ok {elts : List Expr} {kk : Nat} {tpos p : Pos} (ok : CtxOk Φ Γ τ W C X) (hg : gloB C.sc "enumerate" = true) (he : ∀ x p, a ≠ .Starred x p) (h1 : PE X a (tE Φ Γ τ W X.K ta)) :
    PI X (.Tuple elts kk tpos) (.Call (.Name "enumerate" p) [a] [] pos) (tI Φ Γ τ W X.K (.ite ta)) := by
  refine pi_imp (pi_enumA (gl_of ok hg) (ok.bi _ (by decide)) (pa_cons h1 pa_nil (starE he)) (by rw [starE he]; rfl)) fun σ H R ⟨σD, G, S, hn⟩ => ?_
  refine one_frz kI S hn fun x e1 G1 H1 S1 st1 hd1 hn v rp1 => ?_
  dsimp only at hn
  split at hn
  · rename_i xs hx
    rw [hx] at rp1
    cases rp1 with
    | lst g1 r1 => exact ⟨_, _, rfl, .inl ⟨.inl (.inl (S1.sub _ _ g1)), NP.fin S1 hn _ (wk_enum g1 r1)⟩⟩
  · rename_i xs hx
    rw [hx] at rp1
    cases rp1 with
    | tup g1 r1 => exact ⟨_, _, rfl, .inr ⟨sqT_sub S1.sub g1, NP.fin S1 hn _ (wk_enumT g1 r1)⟩⟩
  · exact hn.elim
end
end Fz

/-! Ev11: targets. -/
namespace Fz
open PySem PySem.Spec PyProof.Rows L2

section
variable {τ : Tb} {K : PySem.W.Frag} {G H G0 H0 : Hp} {σD σ0 : Sts} {σV σV0 : L2.St}
theorem set_cases {α : Type} {l : List α} {i j : Nat} {x y : α} (h : (l.set i x)[j]? = some y) : (j = i ∧ i < l.length ∧ y = x) ∨ (j ≠ i ∧ l[j]? = some y) := by
  by_cases hj : i = j
  · subst hj
    by_cases hi : i < l.length
    · rw [List.getElem?_set_self hi] at h
      exact .inl ⟨rfl, hi, (Option.some.inj h).symm⟩
    · rw [List.getElem?_eq_none (by rw [List.length_set]; omega)] at h
      cases h
  · rw [List.getElem?_set_ne hj] at h
    exact .inr ⟨Ne.symm hj, h⟩
theorem exc_set {xa : Addr} {σD : Sts} {σV : L2.St} (h : ∀ i : Nat, σD[i]? = some Slot.exc → σV[i]? = some (some (V.ref xa))) {i : Nat} {s : Slot} {u : Option V} (hs : s.dat = true) : ∀ j : Nat, (σD.set i s)[j]? = some Slot.exc → (σV.set i u)[j]? = some (some (V.ref xa)) := fun j e => by
  rcases set_cases e with ⟨rfl, _, e1⟩ | ⟨hj, e1⟩
  · subst e1
    cases hs
  · rw [List.getElem?_set_ne (Ne.symm hj)]
    exact h j e1
/-- a slot takes a value -/
theorem set_val (S : S2 τ K G H σD σV) {i : Nat} {v : V} {d : D} (hi : i < σD.length) (r : Rp K G v d) :
    S2 τ K G H (σD.set i (.val d)) (σV.set i (some v)) ∧ Step σD σV G H (σD.set i (.val d)) (σV.set i (some v)) G H := by
  have hiV : i < σV.length := by rw [← S.len]; exact hi
  refine ⟨⟨by rw [List.length_set, List.length_set]; exact S.len, S.sub, fun j e h => ?_, fun j es h => ?_, fun j k ds es a h1 h2 h3 h4 => ?_, S.tabs, S.nt, exc_set S.exc rfl, S.xo⟩, ⟨Sub.rfl', fun _ h _ _ => h, fun _ _ h _ _ => h, fun _ h => h, fun b o => ?_⟩⟩
  · rcases set_cases h with ⟨rfl, _, e1⟩ | ⟨hj, h⟩
    · cases e1
      exact ⟨v, List.getElem?_set_self hiV, r⟩
    · rw [List.getElem?_set_ne (Ne.symm hj)]
      exact S.val j e h
  · rcases set_cases h with ⟨rfl, _, e1⟩ | ⟨hj, h⟩
    · cases e1
    · rw [List.getElem?_set_ne (Ne.symm hj)]
      exact S.own j es h
  · rcases set_cases h1 with ⟨rfl, _, e1⟩ | ⟨hj, h1⟩
    · cases e1
    · rcases set_cases h2 with ⟨rfl, _, e1⟩ | ⟨hk, h2⟩
      · cases e1
      · rw [List.getElem?_set_ne (Ne.symm hj)] at h3
        rw [List.getElem?_set_ne (Ne.symm hk)] at h4
        exact S.sep j k ds es a h1 h2 h3 h4
  · obtain ⟨j, ds, h1, h2⟩ := o
    rcases set_cases h1 with ⟨rfl, _, e1⟩ | ⟨hj, h1⟩
    · cases e1
    · rw [List.getElem?_set_ne (Ne.symm hj)] at h2
      exact .inl ⟨j, ds, h1, h2⟩
/-- a slot takes a new list -/
theorem set_own (S : S2 τ K G H σD σV) (st : Step σ0 σV0 G0 H0 σD σV G H) {i : Nat} {a : Addr} {vs : List V} {ds : List D} (hi : i < σD.length) (hH : H a = some (HO.lst vs)) (hG : G a = none) (hn : ¬ Own σD σV a) (h0 : ¬ St H0 a) (r : RpA K G vs ds) :
    S2 τ K G H (σD.set i (.own ds)) (σV.set i (some (.ref a))) ∧ Step σ0 σV0 G0 H0 (σD.set i (.own ds)) (σV.set i (some (.ref a))) G H := by
  have hiV : i < σV.length := by rw [← S.len]; exact hi
  refine ⟨⟨by rw [List.length_set, List.length_set]; exact S.len, S.sub, fun j e h => ?_, fun j es h => ?_, fun j k ds es b h1 h2 h3 h4 => ?_, S.tabs, S.nt, exc_set S.exc rfl, S.xo⟩, ⟨st.gm, st.gn, st.keep, st.dom, fun b o => ?_⟩⟩
  · rcases set_cases h with ⟨rfl, _, e1⟩ | ⟨hj, h⟩
    · cases e1
    · rw [List.getElem?_set_ne (Ne.symm hj)]
      exact S.val j e h
  · rcases set_cases h with ⟨rfl, _, e1⟩ | ⟨hj, h⟩
    · cases e1
      exact ⟨a, vs, List.getElem?_set_self hiV, hH, hG, r⟩
    · rw [List.getElem?_set_ne (Ne.symm hj)]
      exact S.own j es h
  · rcases set_cases h1 with ⟨rfl, _, e1⟩ | ⟨hj, h1⟩
    · rcases set_cases h2 with ⟨rfl, _, e2⟩ | ⟨hk, h2⟩
      · rfl
      · rw [List.getElem?_set_self hiV] at h3
        cases h3
        rw [List.getElem?_set_ne (Ne.symm hk)] at h4
        exact absurd ⟨k, es, h2, h4⟩ hn
    · rename_i h1'
      rcases set_cases h2 with ⟨rfl, _, e1⟩ | ⟨hk, h2⟩
      · rw [List.getElem?_set_self hiV] at h4
        cases h4
        rw [List.getElem?_set_ne (Ne.symm hj)] at h3
        rcases set_cases h1' with ⟨z, _⟩ | ⟨_, h1''⟩
        · exact absurd z hj
        · exact absurd ⟨j, ds, h1'', h3⟩ hn
      · rw [List.getElem?_set_ne (Ne.symm hj)] at h3
        rw [List.getElem?_set_ne (Ne.symm hk)] at h4
        exact S.sep j k ds es b h1 h2 h3 h4
  · obtain ⟨j, es, h1, h2⟩ := o
    rcases set_cases h1 with ⟨rfl, _, e1⟩ | ⟨hj, h1⟩
    · rw [List.getElem?_set_self hiV] at h2
      cases h2
      exact .inr h0
    · rw [List.getElem?_set_ne (Ne.symm hj)] at h2
      exact st.own b ⟨j, es, h1, h2⟩
end

section
variable (τ : Tb) (K : PySem.W.Frag)
def AfG (σD : Sts) (σV : L2.St) (G H : Hp) (σD' : Sts) (sl : List Nat) (k : L2.St → Prop) : Prop :=
  ∀ σV', S2 τ K G H σD' σV' → Step σD σV G H σD' σV' G H → σV'.length = σV.length → (∀ j, j ∉ sl → σV'[j]? = σV[j]?) → k σV'
def tG (g : T) : TG := fun v σV H Q => ∃ σD G d σD', S2 τ K G H σD σV ∧ Rp K G v d ∧ stD g d σD = .ok σD' ∧ AfG τ K σD σV G H σD' (tgS g) fun σV' => Q σV' H
def tGs (g : T) : TGs := fun vs σV H Q => ∃ σD G ds σD', S2 τ K G H σD σV ∧ RpA K G vs ds ∧ stDs g ds σD = .ok σD' ∧ AfG τ K σD σV G H σD' (tgS g) fun σV' => Q σV' H
end
section
variable {Φ : Fns} {Γ : List D} {τ : Tb} {W : EW} {X : Cx} {C : CC} {e a b c : Expr} {es : List Expr} {t ta tb tc : T} {pos : Pos} {f : CC → Expr → Option T}
theorem pg_imp {g g' : TG} (h : PG X e g) (hi : ∀ v σ H Q, g' v σ H Q → g v σ H Q) : PG X e g' := ⟨fun pins s σ H v u Q I r q => h.run pins s σ H v u Q I r (hi _ _ _ _ q)⟩
theorem loc_of (ok : CtxOk Φ Γ τ W C X) {x : Str} (h : locB C x = true) : Loc X.env.scope x ∧ (X.fn x = true ∨ X.env.scope.names.lookup x = some .local) := by
  unfold locB at h
  rw [ok.sc]
  split at h
  · rename_i hb
    have hf : X.fn x = true := ok.fn x (by unfold fnB; rw [hb])
    split at h <;> first | exact ⟨.inl (by assumption), .inl hf⟩ | exact ⟨.inr (by assumption), .inl hf⟩ | cases h
  · rename_i s hb
    split at h
    · exact ⟨.inl (by assumption), .inr (by assumption)⟩
    · refine ⟨.inr (by assumption), .inl (ok.fn x ?_)⟩
      unfold fnB
      rw [hb]
      exact h
    · cases h
theorem tgt_ok (ok : CtxOk Φ Γ τ W C X) (hh : C.hot = false) : ∀ (n : Nat) {e : Expr} {g : T}, cTgt n C e = some g → PG X e (tG τ X.K g) := by
  intro n
  induction n with
  | zero => intro e g h; cases h
  | succ n ih =>
    intro e g h
    cases e with
    | Name x p =>
      simp only [cTgt] at h
      split at h
      · rename_i hx
        obtain ⟨i, e1, h⟩ := Option.bind_eq_some_iff.mp h
        split at h
        · cases h
        · cases h
          obtain ⟨l1, l2⟩ := loc_of ok hx.1
          refine pg_imp (pg_name (i := i) (by rw [ok.N]; exact ok.nd) (by rw [ok.N]; exact ixOf_get e1) l1 l2) fun v σ H Q ⟨σD, G, d, σD', S, r, ev, af⟩ => ?_
          simp only [stD] at ev
          split at ev
          · rename_i hi
            cases ev
            obtain ⟨S', st⟩ := set_val S hi r
            exact af _ S' st List.length_set fun j hj => List.getElem?_set_ne fun z => hj (by rw [z]; exact List.mem_cons_self)
          · cases ev
      · cases h
    | Tuple es k p =>
      obtain ⟨gs, e1, h⟩ := Option.map_eq_some_iff.mp h
      subst h
      have hst : ∀ {es : List Expr} {gs : T}, cL (cTgt n C) es = some gs → PGs X es (tGs τ X.K gs) ∧ (assignEach es X.env).length = es.length ∧ (assignEach es X.env).findIdx? (·.1) = none := by
        intro es
        induction es with
        | nil =>
          intro gs h
          cases h
          refine ⟨⟨fun pins s σ H vs us Q I r ⟨σD, G, ds, σD', S, ra, ev, af⟩ => pgs_nil.run pins s σ H vs us Q I r ?_⟩, rfl, rfl⟩
          cases ra with
          | nil => cases ev; exact ⟨rfl, af σ S Step.rfl' rfl fun _ _ => rfl⟩
          | cons _ _ => cases ev
        | cons e es ihe =>
          intro gs h
          obtain ⟨g1, e1, h⟩ := Option.bind_eq_some_iff.mp h
          obtain ⟨g2, e2, h⟩ := Option.map_eq_some_iff.mp h
          subst h
          obtain ⟨h1, h2, h3⟩ := ihe e2
          have he : ∀ x p, e ≠ .Starred x p := fun x p z => by
            subst z
            cases n <;> cases e1
          have hs : assignEach (e :: es) X.env = (false, assign e X.env) :: assignEach es X.env := by
            cases e <;> first | rfl | exact absurd rfl (he _ _)
          refine ⟨⟨fun pins s σ H vs us Q I r ⟨σD, G, ds, σD', S, ra, ev, af⟩ => (pgs_cons (ih e1) h1 (by rw [hs]; rfl)).run pins s σ H vs us Q I r ?_⟩, by rw [hs, List.length_cons, List.length_cons, h2], ?_⟩
          · cases ra with
            | nil => cases ev
            | @cons v vs d ds rv rt =>
              obtain ⟨σ1, f1, f2⟩ := bind_ok ev
              refine ⟨v, vs, rfl, σD, G, d, σ1, S, rv, f1, fun σV1 S1 st1 l1 u1 => ⟨σ1, G, ds, σD', S1, rt, f2, fun σV2 S2' st2 l2 u2 => af σV2 S2' (st1.trans st2) (l2.trans l1) fun j hj => ?_⟩⟩
              have hj : j ∉ tgS g1 ++ tgS g2 := hj
              rw [List.mem_append, not_or] at hj
              rw [u2 j hj.2, u1 j hj.1]
          · rw [hs, List.findIdx?_cons, h3]
            rfl
      obtain ⟨h1, h2, h3⟩ := hst e1
      refine ⟨fun pins s σ H v u Q I r hq => ?_⟩
      obtain ⟨σD, G, d, σD', S, r2, ev, af⟩ := hq
      cases d with
      | tuple ds =>
        cases r2 with
        | @tup a xs _ sq ra =>
          have ev : stDs gs ds σD = .ok σD' := ev
          refine (pg_tup (n := es.length) (ok.calm hh) h1 h2 h3).run pins s σ H _ u Q I r ⟨a, xs, rfl, sqT_sub S.sub sq, ?_, σD, G, ds, σD', S, ra, ev, af⟩
          rw [ra.len]
          exact stDs_len e1 ev
      | list ds =>
        cases r2 with
        | @lst a xs _ sq ra =>
          have ev : stDs gs ds σD = .ok σD' := ev
          refine (pg_unl (n := es.length) (ok.calm hh) h1 h2 h3).run pins s σ H _ u Q I r ⟨a, xs, rfl, .inl (.inl (S.sub _ _ sq)), ?_, σD, G, ds, σD', S, ra, ev, af⟩
          rw [ra.len]
          exact stDs_len e1 ev
      | _ => cases ev
    | _ => cases h
where stDs_len {n : Nat} {C : CC} : ∀ {es : List Expr} {gs : T} {ds : List D} {σ σ' : Sts}, cL (cTgt n C) es = some gs → stDs gs ds σ = .ok σ' → ds.length = es.length
  | [], gs, ds, σ, σ', h, ev => by
    cases h
    cases ds with
    | nil => rfl
    | cons _ _ => cases ev
  | e :: es, gs, ds, σ, σ', h, ev => by
    obtain ⟨g1, e1, h⟩ := Option.bind_eq_some_iff.mp h
    obtain ⟨g2, e2, h⟩ := Option.map_eq_some_iff.mp h
    subst h
    cases ds with
    | nil => cases ev
    | cons d ds =>
      obtain ⟨σ1, f1, f2⟩ := bind_ok ev
      rw [List.length_cons, List.length_cons, stDs_len e2 f2]
end
end Fz

/-! Ev12: list comprehensions; every expression. -/
namespace Fz
open PySem PySem.Spec PyProof.Rows L2

theorem wipe_get (σ : L2.St) : ∀ (vs : List Nat) (j : Nat), (wipe σ vs)[j]? = if j ∈ vs ∧ j < σ.length then some none else σ[j]?
  | [], j => by simp [wipe]
  | v :: vs, j => by
    unfold wipe
    by_cases h : v = j
    · subst h
      by_cases hl : v < σ.length
      · rw [List.getElem?_set_self (by rw [wipe_length]; exact hl), if_pos ⟨List.mem_cons_self, hl⟩]
      · rw [List.getElem?_eq_none (by rw [List.length_set, wipe_length]; omega), if_neg (fun z => hl z.2), List.getElem?_eq_none (by omega)]
    · rw [List.getElem?_set_ne h, wipe_get σ vs j]
      have : (j ∈ v :: vs ∧ j < σ.length) ↔ (j ∈ vs ∧ j < σ.length) := by
        rw [List.mem_cons]
        constructor
        · rintro ⟨h1 | h1, h2⟩
          · exact absurd h1.symm h
          · exact ⟨h1, h2⟩
        · rintro ⟨h1, h2⟩
          exact ⟨.inr h1, h2⟩
      by_cases q : j ∈ vs ∧ j < σ.length
      · rw [if_pos q, if_pos (this.mpr q)]
      · rw [if_neg q, if_neg (mt this.mp q)]
theorem wipeD_length (σ : Sts) : ∀ vs : List Nat, (wipeD σ vs).length = σ.length
  | [] => rfl
  | v :: vs => by unfold wipeD; rw [List.length_set, wipeD_length σ vs]
theorem wipeD_get (σ : Sts) : ∀ (vs : List Nat) (j : Nat), (wipeD σ vs)[j]? = if j ∈ vs ∧ j < σ.length then some Slot.no else σ[j]?
  | [], j => by simp [wipeD]
  | v :: vs, j => by
    unfold wipeD
    by_cases h : v = j
    · subst h
      by_cases hl : v < σ.length
      · rw [List.getElem?_set_self (by rw [wipeD_length]; exact hl), if_pos ⟨List.mem_cons_self, hl⟩]
      · rw [List.getElem?_eq_none (by rw [List.length_set, wipeD_length]; omega), if_neg (fun z => hl z.2), List.getElem?_eq_none (by omega)]
    · rw [List.getElem?_set_ne h, wipeD_get σ vs j]
      have : (j ∈ v :: vs ∧ j < σ.length) ↔ (j ∈ vs ∧ j < σ.length) := by
        rw [List.mem_cons]
        constructor
        · rintro ⟨h1 | h1, h2⟩
          · exact absurd h1.symm h
          · exact ⟨h1, h2⟩
        · rintro ⟨h1, h2⟩
          exact ⟨.inr h1, h2⟩
      by_cases q : j ∈ vs ∧ j < σ.length
      · rw [if_pos q, if_pos (this.mpr q)]
      · rw [if_neg q, if_neg (mt this.mp q)]
theorem unwipe_length (σ₀ : Sts) : ∀ (vs : List Nat) (σ : Sts), (unwipe σ₀ vs σ).length = σ.length
  | [], σ => rfl
  | v :: vs, σ => by
    unfold unwipe
    split
    · rw [List.length_set, unwipe_length σ₀ vs]
    · exact unwipe_length σ₀ vs σ
theorem unwipe_get {σ₀ σ : Sts} (hl : σ₀.length = σ.length) : ∀ (vs : List Nat) (j : Nat), (unwipe σ₀ vs σ)[j]? = if j ∈ vs then σ₀[j]? else σ[j]?
  | [], j => by simp [unwipe]
  | v :: vs, j => by
    unfold unwipe
    split
    · rename_i s hs
      have hv : v < σ₀.length := (List.getElem?_eq_some_iff.mp hs).1
      by_cases h : v = j
      · subst h
        rw [List.getElem?_set_self (by rw [unwipe_length]; omega), if_pos List.mem_cons_self, hs]
      · rw [List.getElem?_set_ne h, unwipe_get hl vs j]
        by_cases q : j ∈ vs
        · rw [if_pos q, if_pos (List.mem_cons_of_mem _ q)]
        · rw [if_neg q, if_neg (fun z => (List.mem_cons.mp z).elim (fun e => h e.symm) q)]
    · rename_i hs
      rw [unwipe_get hl vs j]
      by_cases h : v = j
      · subst h
        have hv : σ₀.length ≤ v := List.getElem?_eq_none_iff.mp hs
        rw [if_pos (List.mem_cons_self (a := v) (l := vs))]
        rw [List.getElem?_eq_none (l := σ) (by omega), hs]
        split <;> rfl
      · by_cases q : j ∈ vs
        · rw [if_pos q, if_pos (List.mem_cons_of_mem _ q)]
        · rw [if_neg q, if_neg (fun z => (List.mem_cons.mp z).elim (fun e => h e.symm) q)]
def Wiped (σ : Sts) (own : List Nat) : Prop := ∀ i ∈ own, ∀ s, σ[i]? = some s → s = Slot.no
theorem wiped_wipe (σ : Sts) (own : List Nat) : Wiped (wipeD σ own) own := fun i hi s h => by
  rw [wipeD_get] at h
  split at h
  · exact (Option.some.inj h).symm
  · rename_i q
    have := (List.getElem?_eq_some_iff.mp h).1
    exact absurd ⟨hi, this⟩ q
section
variable {τ : Tb} {K : PySem.W.Frag} {G H G1 H1 : Hp} {σD σ σ1 : Sts} {σV : L2.St} {own : List Nat}
theorem S2.wiped (S : S2 τ K G H σD σV) (own : List Nat) : S2 τ K G H (wipeD σD own) (wipe σV own) ∧ ∀ b, Own (wipeD σD own) (wipe σV own) b → Own σD σV b := by
  have g : ∀ (i : Nat) (s : Slot), (wipeD σD own)[i]? = some s → s ≠ Slot.no → σD[i]? = some s ∧ (wipe σV own)[i]? = σV[i]? := fun i s h n => by
    rw [wipeD_get] at h
    split at h
    · exact absurd (Option.some.inj h).symm n
    · rename_i q
      refine ⟨h, ?_⟩
      rw [wipe_get, if_neg (by rw [← S.len]; exact q)]
  refine ⟨⟨by rw [wipeD_length, wipe_length]; exact S.len, S.sub, fun i d h => ?_, fun i ds h => ?_, fun i j ds es a h1 h2 h3 h4 => ?_, S.tabs, S.nt, fun i h => (g i _ h (fun z => by cases z)).2.trans (S.exc i (g i _ h (fun z => by cases z)).1), S.xo⟩, fun b ⟨i, ds, h1, h2⟩ => ?_⟩
  · obtain ⟨h1, h2⟩ := g i _ h (fun z => by cases z)
    rw [h2]
    exact S.val i d h1
  · obtain ⟨h1, h2⟩ := g i _ h (fun z => by cases z)
    rw [h2]
    exact S.own i ds h1
  · obtain ⟨k1, k2⟩ := g i _ h1 (fun z => by cases z)
    obtain ⟨k3, k4⟩ := g j _ h2 (fun z => by cases z)
    rw [k2] at h3
    rw [k4] at h4
    exact S.sep i j ds es a k1 k3 h3 h4
  · obtain ⟨k1, k2⟩ := g i _ h1 (fun z => by cases z)
    rw [k2] at h2
    exact ⟨i, ds, k1, h2⟩
theorem unwiped (S1 : S2 τ K G1 H1 σ1 σV) (Sw : S2 τ K G H σ (wipe σV own)) (st : Step (wipeD σ1 own) (wipe σV own) G1 H1 σ (wipe σV own) G H) (hd : Held (wipeD σ1 own) σ) (wp : Wiped σ own) :
    S2 τ K G H (unwipe σ1 own σ) σV ∧ Step σ1 σV G1 H1 (unwipe σ1 own σ) σV G H ∧ Held σ1 (unwipe σ1 own σ) ∧ ∀ b, Own (unwipe σ1 own σ) σV b → Own σ1 σV b ∨ Own σ (wipe σV own) b := by
  have hl : σ1.length = σ.length := by rw [hd.1, wipeD_length]
  have hV : σV.length = σ1.length := S1.len.symm
  obtain ⟨_, ownW⟩ := S1.wiped own
  -- a slot that is kept apart
  have apart : ∀ i ds a, i ∈ own → σ1[i]? = some (Slot.own ds) → σV[i]? = some (some (V.ref a)) → ¬ Own (wipeD σ1 own) (wipe σV own) a := fun i ds a hi h1 h2 ⟨j, es, h3, h4⟩ => by
    rw [wipeD_get] at h3
    split at h3
    · cases h3
    · rename_i q
      rw [wipe_get, if_neg (by rw [← S1.len]; exact q)] at h4
      have := S1.sep i j ds es a h1 h3 h2 h4
      subst this
      exact q ⟨hi, (List.getElem?_eq_some_iff.mp h1).1⟩
  have g : ∀ (i : Nat) (s : Slot), (unwipe σ1 own σ)[i]? = some s → (i ∈ own ∧ σ1[i]? = some s) ∨ (i ∉ own ∧ σ[i]? = some s ∧ (wipe σV own)[i]? = σV[i]?) := fun i s h => by
    rw [unwipe_get hl] at h
    by_cases hi : i ∈ own
    · rw [if_pos hi] at h; exact .inl ⟨hi, h⟩
    · rw [if_neg hi] at h
      exact .inr ⟨hi, h, by rw [wipe_get, if_neg (fun z => hi z.1)]⟩
  have cross : ∀ i j ds es a, i ∈ own → σ1[i]? = some (Slot.own ds) → σV[i]? = some (some (V.ref a)) → σ[j]? = some (Slot.own es) → (wipe σV own)[j]? = some (some (V.ref a)) → False := fun i j ds es a hi h1 h2 h3 h4 => by
    rcases st.own a ⟨j, es, h3, h4⟩ with q | q
    · exact apart i ds a hi h1 h2 q
    · obtain ⟨a', vs, z1, z2, _⟩ := S1.own i ds h1
      rw [h2] at z1
      cases z1
      exact q (St.lst z2)
  refine ⟨⟨by rw [unwipe_length]; omega, Sw.sub, fun i d h => ?_, fun i ds h => ?_, fun i j ds es a h1 h2 h3 h4 => ?_, Sw.tabs, Sw.nt, fun i h => (g i _ h).elim (fun q => S1.exc i q.2) (fun q => q.2.2 ▸ Sw.exc i q.2.1), Sw.xo⟩, ⟨st.gm, fun b h1 h2 h3 => st.gn b h1 h2 fun z => h3 (ownW b z), fun b o h1 nt h3 => st.keep b o h1 nt fun z => h3 (ownW b z), st.dom, fun b o => ?_⟩, ⟨by rw [unwipe_length, hl], fun i s h n => ?_⟩, fun b o => ?_⟩
  · rcases g i _ h with ⟨hi, h1⟩ | ⟨hi, h1, h2⟩
    · obtain ⟨v, e1, e2⟩ := S1.val i d h1
      exact ⟨v, e1, e2.mono st.gm⟩
    · rw [← h2]
      exact Sw.val i d h1
  · rcases g i _ h with ⟨hi, h1⟩ | ⟨hi, h1, h2⟩
    · obtain ⟨a, vs, e1, e2, e3, e4⟩ := S1.own i ds h1
      have na := apart i ds a hi h1 e1
      exact ⟨a, vs, e1, st.keep a _ e2 lst_nt na, st.gn a e3 (St.lst e2) na, e4.mono st.gm⟩
    · rw [← h2]
      exact Sw.own i ds h1
  · rcases g i _ h1 with ⟨hi, k1⟩ | ⟨hi, k1, k2⟩
    · rcases g j _ h2 with ⟨hj, k3⟩ | ⟨hj, k3, k4⟩
      · exact S1.sep i j ds es a k1 k3 h3 h4
      · rw [← k4] at h4
        exact (cross i j ds es a hi k1 h3 k3 h4).elim
    · rcases g j _ h2 with ⟨hj, k3⟩ | ⟨hj, k3, k4⟩
      · rw [← k2] at h3
        exact (cross j i es ds a hj k3 h4 k1 h3).elim
      · rw [← k2] at h3
        rw [← k4] at h4
        exact Sw.sep i j ds es a k1 k3 h3 h4
  · obtain ⟨i, ds, h1, h2⟩ := o
    rcases g i _ h1 with ⟨hi, k1⟩ | ⟨hi, k1, k2⟩
    · exact .inl ⟨i, ds, k1, h2⟩
    · rw [← k2] at h2
      rcases st.own b ⟨i, ds, k1, h2⟩ with q | q
      · exact .inl (ownW b q)
      · exact .inr q
  · by_cases hi : i ∈ own
    · exact ⟨s, by rw [unwipe_get hl, if_pos hi]; exact h, n⟩
    · obtain ⟨s', e1, e2⟩ := hd.2 i s (by rw [wipeD_get, if_neg (fun z => hi z.1)]; exact h) n
      exact ⟨s', by rw [unwipe_get hl, if_neg hi]; exact e1, e2⟩
  · obtain ⟨i, ds, h1, h2⟩ := o
    rcases g i _ h1 with ⟨hi, k1⟩ | ⟨hi, k1, k2⟩
    · exact .inl ⟨i, ds, k1, h2⟩
    · rw [← k2] at h2
      exact .inr ⟨i, ds, k1, h2⟩
/-- a list that nothing else holds is changed -/
theorem upd_free {σ0 : Sts} {σV0 : L2.St} {G0 H0 : Hp} {D : Addr} {o : HO} (S : S2 τ K G H σ σV) (st : Step σ0 σV0 G0 H0 σ σV G H) (hD0 : H0 D = none) (hG : G D = none) (hO : ¬ Own σ σV D) (hT : LamX.Tabs τ.l (upd H D o)) (hX : ∀ d f, τ.xo = some (d, f) → d ≠ D) :
    S2 τ K G (upd H D o) σ σV ∧ Step σ0 σV0 G0 H0 σ σV G (upd H D o) := by
  refine ⟨⟨S.len, fun b u e => ?_, S.val, fun i ds h => ?_, S.sep, hT, S.nt, S.exc, fun d f e => by rw [upd_ne (hX d f e)]; exact S.xo d f e⟩, ⟨st.gm, st.gn, fun b u h1 nt h2 => ?_, fun b h => ?_, st.own⟩⟩
  · rw [upd_ne (ne_of_none e hG)]
    exact S.sub _ _ e
  · obtain ⟨a, vs, e1, e2, e3, e4⟩ := S.own i ds h
    have ha : a ≠ D := fun z => hO ⟨i, ds, h, by rw [← z]; exact e1⟩
    exact ⟨a, vs, e1, by rw [upd_ne ha]; exact e2, e3, e4⟩
  · rw [upd_ne (ne_of_none h1 hD0)]
    exact st.keep b u h1 nt h2
  · have hb : b ≠ D := fun e => St.non hD0 (e ▸ h)
    obtain ⟨u, e1, e2⟩ := st.dom b h
    exact ⟨u, by rw [upd_ne hb]; exact e1, e2⟩
end
theorem bindN_ok {α β : Type} {x : Res α} {f : α → Res β} {b : β} (h : x.bindN f = .ok b) : ∃ a, x = .ok a ∧ f a = .ok b := by
  cases x with
  | ok a => exact ⟨a, rfl, h⟩
  | ex c as => cases h
  | no => cases h
theorem lcLoop_nx {body : D → Sts → Res (Option D × Sts)} : ∀ (ds : List D) (σ : Sts) (acc : List D), NoEx (lcLoop body ds σ acc)
  | [], σ, acc => NoEx.ok
  | d :: ds, σ, acc => NoEx.bindN fun q => by
    split
    · exact lcLoop_nx ds _ _
    · exact lcLoop_nx ds _ _
theorem lc_grow {body : D → Sts → Res (Option D × Sts)} : ∀ {ds : List D} {σ : Sts} {acc : List D} {w : List D × Sts}, lcLoop body ds σ acc = .ok w → acc.length ≤ w.1.length
  | [], σ, acc, w, h => by cases h; exact Nat.le_refl _
  | d :: ds, σ, acc, w, h => by
    obtain ⟨q, e1, h⟩ := bindN_ok h
    split at h
    · have := lc_grow h
      rw [List.length_append] at this
      simp at this
      omega
    · exact lc_grow h
end Fz

/-! Ev26: lambdas handed to a def that catches; displays of dicts. -/
namespace Fz
open PySem PySem.Spec PyProof.Rows L2
section
variable {τ : Tb} {K : PySem.W.Frag} {G H H1 : Hp} {σD : Sts} {σV : L2.St}
/-- the tables alone have changed -/
theorem S2.extN (S : S2 τ K G H σD σV) (x : LamX.ExtN H H1) (t : LamX.Tabs τ.l H1) : S2 τ K G H1 σD σV ∧ Step σD σV G H σD σV G H1 := by
  refine ⟨⟨S.len, fun b o e => x b o (S.sub b o e) fun ps z => S.nt b ps (z ▸ e), S.val, fun i ds h => ?_, S.sep, t, S.nt, S.exc, fun d f e => x _ _ (S.xo d f e) xd_nt⟩, ⟨Sub.rfl', fun _ h _ _ => h, fun b o h n _ => x b o h n, fun b h => ?_, fun b h => .inl h⟩⟩
  · obtain ⟨a, vs, e1, e2, e3, e4⟩ := S.own i ds h
    exact ⟨a, vs, e1, x _ _ e2 lst_nt, e3, e4⟩
  · obtain ⟨o, e, n⟩ := h
    exact St.of (x b o e n) n
theorem S2.grw {G1 : Hp} (S : S2 τ K G H σD σV) (x : Grw τ.l G H G1 H1) : S2 τ K G1 H1 σD σV ∧ Step σD σV G H σD σV G1 H1 := by
  refine ⟨⟨S.len, x.sub, fun i d h => ?_, fun i ds h => ?_, S.sep, x.tabs, x.nt, S.exc, fun d f e => x.hm _ _ (S.xo d f e) xd_nt⟩, ⟨x.gm, fun b h1 h2 _ => x.gn b h1 h2, fun b o h n _ => x.hm b o h n, fun b h => ?_, fun b h => .inl h⟩⟩
  · obtain ⟨v, e, r⟩ := S.val i d h
    exact ⟨v, e, r.mono x.gm⟩
  · obtain ⟨a, vs, e1, e2, e3, e4⟩ := S.own i ds h
    exact ⟨a, vs, e1, x.hm _ _ e2 lst_nt, x.gn a e3 (St.lst e2), e4.mono x.gm⟩
  · obtain ⟨o, q, n⟩ := h
    exact St.of (x.hm _ _ q n) n
/-- behind a call without lists to change -/
theorem S2.post0 (S : S2 τ K G H σD σV) {G1 : Hp} (p : Post τ.l G H G1 H1 []) : S2 τ K G1 H1 σD σV ∧ Step σD σV G H σD σV G1 H1 := by
  refine ⟨⟨S.len, p.sub, fun i d h => ?_, fun i ds h => ?_, S.sep, p.tabs, p.nt, S.exc, fun d f e => p.keep _ _ (S.xo d f e) xd_nt (by simp)⟩, ⟨p.gm, fun b h1 h2 _ => p.gn b h1 h2 (by simp), fun b o h n _ => p.keep b o h n (by simp), p.dom, fun b h => .inl h⟩⟩
  · obtain ⟨v, e, r⟩ := S.val i d h
    exact ⟨v, e, r.mono p.gm⟩
  · obtain ⟨a, vs, e1, e2, e3, e4⟩ := S.own i ds h
    exact ⟨a, vs, e1, p.keep _ _ e2 lst_nt (by simp), p.gn a e3 (St.lst e2) (by simp), e4.mono p.gm⟩
theorem S2.postX (S : S2 τ K G H σD σV) (p : PostX τ.l H H1) : S2 τ K G H1 σD σV ∧ Step σD σV G H σD σV G H1 := by
  refine ⟨⟨S.len, fun b o e => p.keep b o (S.sub b o e) fun ps z => S.nt b ps (z ▸ e), S.val, fun i ds h => ?_, S.sep, p.tabs, S.nt, S.exc, fun d f e => p.keep _ _ (S.xo d f e) xd_nt⟩, ⟨Sub.rfl', fun _ h _ _ => h, fun b o h n _ => p.keep b o h n, p.dom, fun b h => .inl h⟩⟩
  obtain ⟨a, vs, e1, e2, e3, e4⟩ := S.own i ds h
  exact ⟨a, vs, e1, p.keep _ _ e2 lst_nt, e3, e4⟩
/-- what another made meanwhile is held too -/
theorem S2.join {G0 : Hp} (S0 : S2 τ K G H σD σV) (S : S2 τ K G H1 σD σV) (st : Step σD σV G H σD σV G H1) (s0 : Sub G0 H1) (n0 : NTG G0) (h0 : ∀ b, St H b → G0 b = none) : ∃ G', Sub G G' ∧ Sub G0 G' ∧ S2 τ K G' H1 σD σV ∧ Step σD σV G H σD σV G' H1 := by
  have e1 : ∀ {b o}, G b = some o → (G b).or (G0 b) = some o := fun {b o} e => by rw [e]; rfl
  have e0 : ∀ {b}, G b = none → (G b).or (G0 b) = G0 b := fun {b} e => by rw [e]; rfl
  have g1 : Sub G (fun b => (G b).or (G0 b)) := fun b o e => e1 e
  refine ⟨fun b => (G b).or (G0 b), g1, fun b o e => ?_, ⟨S.len, fun b o e => ?_, fun i d h => ?_, fun i ds h => ?_, S.sep, S.tabs, fun b ps e => ?_, S.exc, S.xo⟩, ⟨g1, fun b h1 h2 _ => (e0 h1).trans (h0 b h2), st.keep, st.dom, fun b o => .inl o⟩⟩
  · cases q : G b with
    | none => exact (e0 q).trans e
    | some u =>
      have z1 := S.sub b u q
      have z2 := s0 b o e
      rw [z1] at z2
      exact (e1 q).trans z2
  · cases q : G b with
    | none => exact s0 b o ((e0 q).symm.trans e)
    | some u => exact S.sub b o (q.trans ((e1 q).symm.trans e))
  · obtain ⟨v, z1, z2⟩ := S.val i d h
    exact ⟨v, z1, z2.mono g1⟩
  · obtain ⟨a, vs, z1, z2, z3, z4⟩ := S.own i ds h
    obtain ⟨a', vs', y1, y2, _⟩ := S0.own i ds h
    rw [z1] at y1
    cases y1
    exact ⟨a, vs, z1, z2, (e0 z3).trans (h0 a (St.lst y2)), z4.mono g1⟩
  · cases q : G b with
    | none => exact n0 b ps ((e0 q).symm.trans e)
    | some u => exact S.nt b ps (q.trans ((e1 q).symm.trans e))
theorem ins_none : ∀ {ms : List Bool} (vs : List V), (ms.all fun b => !b) = true → insOf ms vs = [] := by
  intro ms
  induction ms with
  | nil => intro vs _; cases vs <;> rfl
  | cons m ms ih =>
    intro vs hm
    rw [List.all_cons, Bool.and_eq_true] at hm
    cases vs with
    | nil => cases m <;> rfl
    | cons v vs => cases m with
      | true => cases hm.1
      | false => exact ih vs hm.2
theorem back_none : ∀ {ms : List Bool} {rs : List R} {σ : Sts} {q : List D × Sts}, (ms.all fun b => !b) = true → passArgs ms rs σ = .ok q → ∀ σ', backArgs ms rs [] σ' = .ok σ' ∧ inoutIx ms rs = [] := by
  intro ms
  induction ms with
  | nil =>
    intro rs σ q _ h σ'
    cases rs with
    | nil => exact ⟨rfl, rfl⟩
    | cons r rs => cases h
  | cons m ms ih =>
    intro rs σ q hm h σ'
    cases rs with
    | nil => cases m <;> cases h
    | cons r rs =>
      rw [List.all_cons, Bool.and_eq_true] at hm
      cases m with
      | true => cases hm.1
      | false =>
        have e : ((passArgs ms rs (frz σ r).2).bind fun w => .ok ((frz σ r).1 :: w.1, w.2)) = .ok q := by cases r <;> exact h
        obtain ⟨q1, e1, _⟩ := bind_ok e
        obtain ⟨h1, h2⟩ := ih hm.2 e1 σ'
        exact ⟨by cases r <;> exact h1, by cases r <;> exact h2⟩
end
section
variable {Φ : Fns} {Γ : List D} {τ : Tb} {W : EW} {X : Cx} {C : CC} {e a b c : Expr} {es : List Expr} {t ta tb tc : T} {pos : Pos} {f : CC → Expr → Option T}
/-- the wish of a lambda's exceptions -/
abbrev wOf (K : PySem.W.Frag) (E : XK) : EW := fun c as H => ∀ cls d, ExcAt K c as cls d H → E cls d H
theorem lam_ctx {A : Around} {outer : List Env} {s : Shared} {H : Hp} {E : XK} {scope : Scope} {fa c' : Addr} (ok : CtxOk Φ Γ τ W C X) (L : LamX.LamS C.sc scope) (hr : Room C.lk (A.deeper (LamX.lamEnv X scope s.heap.objs.size fa c'))) :
    CtxOk Φ Γ τ (wOf X.K E) (lamC C scope) (LamX.lamCx X A outer s H E scope fa c') where
  N := ok.N
  nd := ok.nd
  sc := rfl
  fn := fun x h => by
    have h : (scope.names.lookup x == some .cell) = true := h
    have h2 : scope.names.lookup x = some .cell := eq_of_beq h
    exact absurd rfl (L.own _ (PySem.mem_of_lookup h2)).2
  calm := fun _ => rfl
  tk := (takes_of (E := E) rfl rfl rfl rfl).imp fun cls d σ H z => by
    obtain ⟨c, as, z1, z2⟩ := z
    exact z2 cls d z1
  po := passes_of rfl
  fns := fun x i h => by
    obtain ⟨f, fd, ps, k, h1, h2, h3, h4, h5, h6⟩ := ok.lf x i h
    exact ⟨f, fd, ps, k, h1, h2, h3, h4, hr.mono h5, h6⟩
  cst := fun x k h => ok.cst x k h
  tab := fun x k h => ok.tab x k h
  bi := ok.bi
  hu := hr.units
  gd := fun z => nomatch z
  ex := fun x h => by cases h
  rm := fun h => absurd rfl h
  exa := fun x h => by cases h
  rma := fun h => absurd rfl h
  ct := fun x k h => by cases h
  lm := fun h => absurd rfl h
  lf := fun x i h => ok.lf x i h
  fad := ok.fad
  xis := fun _ h => nomatch h
  xfl := fun _ h => nomatch h
  xhl := fun _ h => nomatch h
  xts := fun _ h => nomatch h
/-- a call by its promise -/

theorem fn_call {x : Str} {p : Pos} {i : Nat} {E : XK} (IH : SE Φ Γ τ f) (ns : NS f) (ok : CtxOk Φ Γ τ W C X) (tk : Takes X (fun cls d _ H => E cls d H)) (hx : gloB C.sc x = true) (ho : oddName x = false) (hi : C.fns.lookup x = some i) (h : cL (f C) es = some t) :
    PE X (.Call (.Name x p) es [] pos) (fun σ H Q => tA Φ Γ τ W X.K t σ H fun vs H1 => spF τ.l X.K (Φ i) vs H1 Q E) := by
  obtain ⟨fa, fd, ps, k, h1, h2, h3, h4, h5, h6⟩ := ok.fns x i hi
  obtain ⟨o1, o2, o3⟩ := odd_ok ho
  have px : Passes (L2.CX X.prog X.w) X E := passes_call tk fun cls d σ H z => z
  cases es with
  | nil =>
    cases h
    refine ⟨fun pins s σ H Q I hq => ?_⟩
    obtain ⟨σD, G, S, hq⟩ := hq
    refine wpAny_Call_Name_kw (ld_glob I (gl_of ok hx) h1 ?_ o1)
    exact PySem.W.callWith_K0 I.kIn h2 (run_fnG (us := []) h4 h5 ok.gd h3 px I .nil (NP.fin S hq [] .nil))
  | cons e es =>
    have hs := noStar (fun x p => ns C x p) h X.env
    obtain ⟨t1, e1, h'⟩ := Option.bind_eq_some_iff.mp h
    have he : ∀ x p, e ≠ .Starred x p := fun x p z => by rw [z, ns] at e1; cases e1
    have hse := starE (X := X) (es := es) he
    rw [hse, List.any_cons] at hs
    have hs2 : (starEach es X.env).any (·.1) = false := by simpa using hs
    refine ⟨fun pins s σ H Q I hq => ?_⟩
    refine wpAny_Call_Name_kw (ld_glob I (gl_of ok hx) h1 ?_ o1)
    refine PySem.W.callWith_K (h₀ := X.base) I.ok.mod.kin h2 (thn ((args_ok IH ns ok h).run pos pins s σ H _ I hq) fun us s1 ⟨vs, H1, I1, r, q⟩ => ⟨I1.kIn, ?_⟩) hse (backTo_any hs2)
    exact run_fnG h4 h5 ok.gd h3 px I1 r q
theorem lam_core {ta : T} {i k : Nat} {σ : L2.St} {H H1 : Hp} {Q : VK} {σD : Sts} {G : Hp} (S : S2 τ X.K G H σD σ) (h : NP τ W X.K σ (wE X.K σ Q) σD G H ((evA Φ Γ ta σD).bindN fun q => (caught (Φ i) q.1 q.2).bindN fun z => ((Φ k).run [z.1]).bindN fun w => lamEnd w z.2)) (x1 : LamX.ExtN H H1) (t1 : LamX.Tabs τ.l H1) :
    TTc τ.l X.K (Φ k) (fun E H2 Kc => tA Φ Γ τ (wOf X.K E) X.K ta σ H2 fun vs H1 => spF τ.l X.K (Φ i) vs H1 Kc E) H1 Q := by
  refine ⟨t1, fun G0 H1b x1b t1b sg0 ng0 hg0 => ?_⟩
  obtain ⟨S1a, st1a⟩ := S.extN (x1.trans x1b) t1b
  obtain ⟨Gj, gj1, gj2, S1, st1⟩ := S.join S1a st1a sg0 ng0 fun b ⟨o, z1, z2⟩ => hg0 b (St.of (x1 b o z1 z2) z2)
  have h : NP τ W X.K σ (wE X.K σ Q) σD G H ((evA Φ Γ ta σD).bindN fun q => (caught (Φ i) q.1 q.2).bindN fun z => ((Φ k).run [z.1]).bindN fun w => lamEnd w z.2) := h
  cases ea : evA Φ Γ ta σD with
  | no => rw [ea] at h; exact h.elim
  | ex c as => rw [ea] at h; exact h.elim
  | ok q =>
    rw [ea] at h
    have h : NP τ W X.K σ (wE X.K σ Q) σD G H ((caught (Φ i) q.1 q.2).bindN fun z => ((Φ k).run [z.1]).bindN fun w => lamEnd w z.2) := h
    unfold caught at h
    split at h
    case isFalse => exact h.elim
    rename_i hio
    cases ep : passArgs (Φ i).inout q.1 q.2 with
    | no => rw [ep] at h; exact h.elim
    | ex c as => exact absurd ep (passArgs_nx _ _ _ c as)
    | ok q2 =>
      rw [ep] at h
      have h : NP τ W X.K σ (wE X.K σ Q) σD G H (((tellR ((Φ i).run q2.1)).bind fun d => .ok (d, q2.2)).bindN fun z => ((Φ k).run [z.1]).bindN fun w => lamEnd w z.2) := h
      -- what the catcher makes of it
      have told : ∀ {d : D}, NP τ W X.K σ (wE X.K σ Q) σD G H (((Φ k).run [d]).bindN fun w => lamEnd w q2.2) → ∃ r, (Φ k).run [d] = .ok (.v r, []) ∧ NP τ W X.K σ (wE X.K σ Q) σD G H (.ok (.v r, q2.2)) := fun {d} h => by
        cases ek : (Φ k).run [d] with
        | no => rw [ek] at h; exact h.elim
        | ex c as => rw [ek] at h; exact h.elim
        | ok w =>
          rw [ek] at h
          obtain ⟨r, os⟩ := w
          cases r with
          | v d => cases os with
            | nil => exact ⟨d, rfl, h⟩
            | cons _ _ => exact h.elim
          | t ds => exact h.elim
          | p j => exact h.elim
      refine ⟨σD, Gj, S1, ?_⟩
      rw [ea]
      intro G2 H2 S2' st2 hd2 vs ros
      obtain ⟨G3, S3, st3, hd3, hl, rp, m1, m2⟩ := pass_ok _ S2' ros ep
      have stA := (st1.trans st2).trans st3
      have hdA := hd2.trans hd3
      have hin := ins_none vs hio
      have g03 := (gj2.trans st2.gm).trans st3.gm
      refine ⟨G3, q2.1, S3.sub, S3.tabs, S3.nt, hl, rp, by rw [hin]; exact List.nodup_nil, ?_⟩
      cases er : (Φ i).run q2.1 with
      | no => rw [er] at h; exact h.elim
      | ex c as =>
        rw [er] at h
        obtain ⟨r, ek, h⟩ := told (d := .tuple (.str c :: as)) h
        refine ⟨hio, fun H4 px cls d ea2 => ⟨c, as, r, ea2, px.tabs, ek, G3, g03, (S3.postX px).1.sub, S3.nt, fun v G5 H5 ex5 rv => ?_⟩⟩
        obtain ⟨S4, st4⟩ := S3.postX px
        obtain ⟨S5, st5⟩ := S4.grw ex5
        exact h G5 H5 S5 ((stA.trans st4).trans st5) hdA v rv
      | ok w =>
        rw [er] at h
        obtain ⟨w1, w2⟩ := w
        show ∀ v G' H', _
        intro v G4 H4 po rn outs
        rw [hin] at po
        obtain ⟨S4, st4⟩ := S3.post0 po
        cases w1 with
        | p j => exact rn.elim
        | v d =>
          cases w2 with
          | cons _ _ => exact h.elim
          | nil =>
            obtain ⟨r, ek, h⟩ := told (d := .tuple [.none, d]) h
            refine ⟨G4, d, r, g03.trans po.gm, S4.sub, S4.nt, S4.tabs, rn, ek, fun v' G5 H5 ex5 rv => ?_⟩
            obtain ⟨S5, st5⟩ := S4.grw ex5
            exact h G5 H5 S5 ((stA.trans st4).trans st5) hdA v' rv
        | t ds =>
          cases w2 with
          | cons _ _ => exact h.elim
          | nil =>
            obtain ⟨r, ek, h⟩ := told (d := .tuple [.none, .list ds]) h
            have rv0 : RV X.K G4 H4 q2.2 σ H2 v (.t ds) := RN.rv S3 (fun b hb => st4.dom b hb) rn
            obtain ⟨G6, S6, st6, g46, ro, _⟩ := nt_ok S4 st4 rv0
            refine ⟨G6, .list ds, r, (g03.trans po.gm).trans g46, S6.sub, S6.nt, S6.tabs, ro, ek, fun v' G5 H5 ex5 rv => ?_⟩
            obtain ⟨S5, st5⟩ := S6.grw ex5
            exact h G5 H5 S5 ((stA.trans st6).trans st5) hdA v' rv
theorem fvTab_at {y : Str} {j : Nat} (h : (fvTab C).lookup y = some j) : y ∈ C.fvs ∧ C.lfns.lookup y = some j := by
  have hm := PySem.mem_of_lookup h
  unfold fvTab at hm
  obtain ⟨x, h1, h2⟩ := List.mem_filterMap.mp hm
  obtain ⟨i, h3, h4⟩ := Option.map_eq_some_iff.mp h2
  cases h4
  exact ⟨h1, h3⟩
/-- a call of a def that a name holds -/
theorem fn_callL {C' : CC} {x : Str} {p : Pos} {i : Nat} {E : XK} {e : Expr} (IH : SE Φ Γ τ f) (ns : NS f) (ok : CtxOk Φ Γ τ W C X) (tk : Takes X (fun cls d _ H => E cls d H)) (hv : visB C.sc x = true) (ho : oddName x = false) (hi : ixOf C.N x = some i) (ht : ∀ y j, (fvTab C').lookup y = some j → y ∈ C.fvs ∧ C.fns.lookup y = some j) (h : cL (f C) (e :: es) = some t) :
    PE X (.Call (.Name x p) (e :: es) [] pos) (fun σ H Q => ∃ y j, (fvTab C').lookup y = some j ∧ σ[i]? = some (some (V.ref (He.fAd X.K (y, none)))) ∧ tA Φ Γ τ W X.K t σ H fun vs H1 => spF τ.l X.K (Φ j) vs H1 Q E) := by
  obtain ⟨o1, o2, o3⟩ := odd_ok ho
  have px : Passes (L2.CX X.prog X.w) X E := passes_call tk fun cls d σ H z => z
  have hs := noStar (fun x p => ns C x p) h X.env
  obtain ⟨t1, e1, h'⟩ := Option.bind_eq_some_iff.mp h
  have he : ∀ x p, e ≠ .Starred x p := fun x p z => by rw [z, ns] at e1; cases e1
  have hse := starE (X := X) (es := es) he
  rw [hse, List.any_cons] at hs
  have hs2 : (starEach es X.env).any (·.1) = false := by simpa using hs
  refine ⟨fun pins s σ H Q I hq => ?_⟩
  obtain ⟨y, j, hy, hσ, hq⟩ := hq
  obtain ⟨hy1, hy2⟩ := ht y j hy
  obtain ⟨fa, fd, ps, k, h1, h2, h3, h4, h5, h6⟩ := ok.fns y j hy2
  have ea : fa = He.fAd X.K (y, none) := by
    have := ok.fad y hy1
    rw [h1] at this
    exact Value.ref.inj (Option.some.inj this)
  subst ea
  refine wpAny_Call_Name_kw (thn ((pe_var (pos := p) (by rw [ok.N]; exact ixOf_get hi) (by rw [ok.sc]; exact vis_of hv) o1 o2).run pins s σ H (fun v H1 => v = .ref (He.fAd X.K (y, none)) ∧ H1 = H) I ⟨_, hσ, rfl, rfl⟩) fun u s1 ⟨v, H1, I1, r1, q1⟩ => ?_)
  obtain ⟨rfl, rfl⟩ := q1
  cases r1
  refine PySem.W.callWith_K (h₀ := X.base) I1.ok.mod.kin h2 (thn ((args_ok IH ns ok h).run pos pins s1 σ _ _ I1 hq) fun us s2 ⟨vs, H2, I2, r, q⟩ => ⟨I2.kIn, ?_⟩) hse (backTo_any hs2)
  exact run_fnG h4 h5 ok.gd h3 px I2 r q
theorem rp_fn {K : PySem.W.Frag} {G : Hp} {v : V} {y : Str} (r : Rp K G v (fnD y)) : v = .ref (He.fAd K (y, none)) := by
  unfold fnD at r
  generalize e : (PyData.dict [(PyData.list [], PyData.str y)]) = d at r
  cases r with
  | fn =>
    unfold fnD at e
    simp only [PyData.dict.injEq, List.cons.injEq, Prod.mk.injEq, PyData.str.injEq, and_true, true_and] at e
    rw [e]
  | scr hS he =>
    simp at e
  | @dct a ks vs ds hG hl hr =>
    exfalso
    cases ks with
    | nil => simp at e
    | cons k ks =>
      cases ds with
      | nil => cases hl
      | cons d ds =>
        simp only [List.map_cons, List.zip_cons_cons, PyData.dict.injEq, List.cons.injEq, Prod.mk.injEq] at e
        have := e.1.1
        cases k <;> simp [keyD] at this
  | _ => cases e
theorem lamV_ok {x y : Str} {p lpos p2 pos2 : Pos} {k : Nat} {scope : Scope} {as : List Expr} (IH : SE Φ Γ τ f) (ns : NS f) (ok : CtxOk Φ Γ τ W C X) (hk : C.cats.lookup x = some k) (hx1 : gloB C.sc x = true) (hx2 : oddName x = false) (h : cLamV f C k scope y as = some t) :
    PE X (.Call (.Name x p) [.Lambda ⟨[], [], none, [], [], none, []⟩ (.Call (.Name y p2) as [] pos2) scope lpos] [] pos) (tE Φ Γ τ W X.K t) := by
  unfold cLamV at h
  split at h
  · cases h
  rename_i a1 as
  split at h
  case isFalse => cases h
  rename_i hy
  obtain ⟨i, hi, h⟩ := Option.bind_eq_some_iff.mp h
  obtain ⟨ta, e1, h⟩ := Option.map_eq_some_iff.mp h
  subst h
  obtain ⟨o1, o2, o3⟩ := odd_ok hx2
  obtain ⟨ga, pg, bg, sg, dV, kV, doc, pm, cdv, ct, oc, an, od, osl, Ng, a, c1, c2, c3, c4, c5, c6, c7, c8, c9, c10, c11⟩ := ok.ct x k hk
  obtain ⟨cc, P, l1, l2, l3, l4, l5⟩ := ok.lm (fun z => by rw [z] at hk; cases hk)
  have L : LamX.LamS C.sc scope := LamX.lamS_by hy.1
  refine pe_imp (LamX.pe_lamcall (T := τ.l) (TT := TTc τ.l X.K (Φ k)) (k := C.lk) (t := fun E => fun σ H Q => ∃ y j, (fvTab C).lookup y = some j ∧ σ[i]? = some (some (V.ref (He.fAd X.K (y, none)))) ∧ tA Φ Γ τ (wOf X.K E) X.K ta σ H fun vs H1 => spF τ.l X.K (Φ j) vs H1 Q E) (gl_of ok hx1) c1 c2 c3 c4 c5 c6 c7 c8 (c11 (l5.mono (by omega))) l1 l2 l3 l4 (l5.mono (by omega)) (by rw [ok.sc]; exact L) rfl (fun _ _ _ _ _ => rfl)
    (fun A outer s H E fa c' hr => fn_callL (C' := C) (X := LamX.lamCx X A outer s H E scope fa c') IH ns (lam_ctx ok L hr) (takes_of (E := E) rfl rfl rfl rfl) hy.2.1 hy.2.2 hi (fun y j h => fvTab_at h) e1) o1 c9 c10) fun σ H Q ⟨σD, G, S, h⟩ => ⟨S.tabs, fun H1 x1 t1 => ?_⟩
  simp only [evE] at h
  split at h
  case h_2 => exact h.elim
  rename_i j hj
  unfold fnvOf at hj
  split at hj
  case h_2 => cases hj
  rename_i z hz
  obtain ⟨v, z1, z2⟩ := S.val i _ hz
  have ev := rp_fn z2
  subst ev
  obtain ⟨q1, q2⟩ := lam_core S h x1 t1
  exact ⟨q1, fun G0 H2 b1 b2 b3 b4 b5 => ⟨z, j, hj, z1, q2 G0 H2 b1 b2 b3 b4 b5⟩⟩
theorem lam_ok {g : Expr} {ks : List Keyword} {z : Nat × Scope × Expr} (IH : SE Φ Γ τ f) (ns : NS f) (ok : CtxOk Φ Γ τ W C X) (hz : lamOf C g es ks = some z) (h : cLam f C z.1 z.2.1 z.2.2 = some t) : PE X (.Call g es ks pos) (tE Φ Γ τ W X.K t) := by
  unfold lamOf at hz
  split at hz
  case h_2 => cases hz
  rename_i x p body scope lpos
  split at hz
  case isFalse => cases hz
  rename_i hx
  obtain ⟨k, hk, hz⟩ := Option.map_eq_some_iff.mp hz
  subst hz
  unfold cLam at h
  split at h
  case h_2 => cases h
  rename_i y p2 as pos2 ebody
  have ebody : body = .Call (.Name y p2) as [] pos2 := ebody
  subst ebody
  split at h
  case isFalse => exact lamV_ok IH ns ok hk hx.1 hx.2 h
  rename_i hy
  obtain ⟨i, hi, h⟩ := Option.bind_eq_some_iff.mp h
  obtain ⟨ta, e1, h⟩ := Option.map_eq_some_iff.mp h
  subst h
  obtain ⟨o1, o2, o3⟩ := odd_ok hx.2
  obtain ⟨ga, pg, bg, sg, dV, kV, doc, pm, cdv, ct, oc, an, od, osl, Ng, a, c1, c2, c3, c4, c5, c6, c7, c8, c9, c10, c11⟩ := ok.ct x k hk
  obtain ⟨cc, P, l1, l2, l3, l4, l5⟩ := ok.lm (fun z => by rw [z] at hk; cases hk)
  have L : LamX.LamS C.sc scope := LamX.lamS_by hy.1
  refine pe_imp (LamX.pe_lamcall (T := τ.l) (TT := TTc τ.l X.K (Φ k)) (k := C.lk) (t := fun E => fun σ H Q => tA Φ Γ τ (wOf X.K E) X.K ta σ H fun vs H1 => spF τ.l X.K (Φ i) vs H1 Q E) (gl_of ok hx.1) c1 c2 c3 c4 c5 c6 c7 c8 (c11 (l5.mono (by omega))) l1 l2 l3 l4 (l5.mono (by omega)) (by rw [ok.sc]; exact L) rfl (fun _ _ _ _ _ => rfl)
    (fun A outer s H E fa c' hr => fn_call (X := LamX.lamCx X A outer s H E scope fa c') IH ns (lam_ctx ok L hr) (takes_of (E := E) rfl rfl rfl rfl) hy.2.1 hy.2.2 hi e1) o1 c9 c10) fun σ H Q ⟨σD, G, S, h⟩ => ⟨S.tabs, fun H1 x1 t1 => lam_core S h x1 t1⟩
/-! ### displays of dicts -/
theorem S2.grow {K : PySem.W.Frag} {G H : Hp} {σD σ0 : Sts} {σV σV0 : L2.St} {G0 H0 : Hp} {p : Addr} {o u : HO} (S : S2 τ K G H σD σV) (st : Step σ0 σV0 G0 H0 σD σV G H) (hp : H p = some u) (hu : NoTbl u) (hx : ∀ φ, u ≠ .ext φ) (hxd : ∀ f, u ≠ .xd f) (hG : G p = none) (h0 : ¬ St H0 p) (hO : ¬ Own σD σV p) (no : NoTbl o) :
    S2 τ K (upd G p o) (upd H p o) σD σV ∧ Step σ0 σV0 G0 H0 σD σV (upd G p o) (upd H p o) := by
  have su := sub_upd (o := o) hG
  have ne : ∀ {b u}, G b = some u → b ≠ p := fun {b u} e z => by rw [z, hG] at e; cases e
  refine ⟨⟨S.len, fun b v e => ?_, fun i d h => ?_, fun i ds h => ?_, S.sep, tabs_upd S.tabs hp hu hx, ntg_upd S.nt no, S.exc, fun d f e => by
    have hd := S.xo d f e
    rw [upd_ne (fun z => by rw [z, hp] at hd; exact hxd f (Option.some.inj hd))]; exact hd⟩, ⟨st.gm.trans su, fun b h1 h2 h3 => ?_, fun b v h1 h2 h3 => ?_, fun b h => ?_, st.own⟩⟩
  · by_cases hb : b = p
    · rw [hb, upd_same] at e ⊢; exact e
    · rw [upd_ne hb] at e ⊢; exact S.sub b v e
  · obtain ⟨v, e, r⟩ := S.val i d h
    exact ⟨v, e, r.mono su⟩
  · obtain ⟨a, vs, e1, e2, e3, e4⟩ := S.own i ds h
    have hb : a ≠ p := fun z => hO ⟨i, ds, h, by rw [← z]; exact e1⟩
    exact ⟨a, vs, e1, by rw [upd_ne hb]; exact e2, by rw [upd_ne hb]; exact e3, e4.mono su⟩
  · have hb : b ≠ p := fun z => h0 (z ▸ h2)
    rw [upd_ne hb]
    exact st.gn b h1 h2 h3
  · have hb : b ≠ p := fun z => h0 (by rw [← z]; exact St.of h1 h2)
    rw [upd_ne hb]
    exact st.keep b v h1 h2 h3
  · have hb : b ≠ p := fun z => h0 (z ▸ h)
    obtain ⟨u, e1, e2⟩ := st.dom b h
    exact ⟨u, by rw [upd_ne hb]; exact e1, e2⟩
def trsOf (Φ : Fns) (Γ : List D) (τ : Tb) (W : EW) (K : PySem.W.Frag) : List Key → T → List (TE × TE)
  | k :: kl, .cons v r => (tC (kV k), tE Φ Γ τ W K v) :: trsOf Φ Γ τ W K kl r
  | _, _ => []
theorem pps_ok (IH : SE Φ Γ τ f) (ok : CtxOk Φ Γ τ W C X) : ∀ {keys : List (Option Expr)} {values : List Expr} {ks vs : T}, keys.length = values.length → cKeys keys = some ks → cL (f C) values = some vs →
    ∃ kl : List Key, keysOf ks = some kl ∧ kl.length = keys.length ∧ PPs X pos keys values (trsOf Φ Γ τ W X.K kl vs)
  | [], [], ks, vs, _, h1, h2 => by
    cases h1
    cases h2
    exact ⟨[], rfl, rfl, pps_nil⟩
  | [], _ :: _, _, _, hl, _, _ => by cases hl
  | _ :: _, [], _, _, hl, _, _ => by cases hl
  | k :: keys, v :: values, ks, vs, hl, h1, h2 => by
    obtain ⟨tv, e1, h2⟩ := Option.bind_eq_some_iff.mp h2
    obtain ⟨tr, e2, h2⟩ := Option.map_eq_some_iff.mp h2
    subst h2
    unfold cKeys at h1
    split at h1
    · rename_i hk; cases hk
    · rename_i n _ _ r hk
      cases hk
      obtain ⟨tk, e3, h1⟩ := Option.map_eq_some_iff.mp h1
      subst h1
      obtain ⟨kl, g1, g2, g3⟩ := pps_ok IH ok (by simpa using hl) e3 e2
      exact ⟨.inl n :: kl, by simp only [keysOf, constD, g1]; rfl, by rw [List.length_cons, List.length_cons, g2], pps_cons pe_int (IH W C X v tv e1 ok).1 g3⟩
    · rename_i n _ _ r hk
      cases hk
      obtain ⟨tk, e3, h1⟩ := Option.map_eq_some_iff.mp h1
      subst h1
      obtain ⟨kl, g1, g2, g3⟩ := pps_ok IH ok (by simpa using hl) e3 e2
      exact ⟨.inr n :: kl, by simp only [keysOf, constD, g1]; rfl, by rw [List.length_cons, List.length_cons, g2], pps_cons pe_str (IH W C X v tv e1 ok).1 g3⟩
    · cases h1
theorem pairs_read {K : PySem.W.Frag} {σV : L2.St} {Qk : List (V × V) → Hp → Prop} : ∀ {kl : List Key} {values : List Expr} {vs : T} {σD : Sts} {G H : Hp}, kl.length = values.length → cL (f C) values = some vs → S2 τ K G H σD σV →
    NP τ W K σV (wVs K fun xs H' => Qk ((kl.map kV).zip xs) H') σD G H (evV Φ Γ vs σD) → tPairs (trsOf Φ Γ τ W K kl vs) σV H Qk
  | [], [], vs, σD, G, H, _, h2, S, h => by
    cases h2
    exact NP.fin S h [] .nil
  | [], _ :: _, _, _, _, _, hl, _, _, _ => by cases hl
  | _ :: _, [], _, _, _, _, hl, _, _, _ => by cases hl
  | k :: kl, v :: values, vs, σD, G, H, hl, h2, S, h => by
    obtain ⟨tv, e1, h2⟩ := Option.bind_eq_some_iff.mp h2
    obtain ⟨tr, e2, h2⟩ := Option.map_eq_some_iff.mp h2
    subst h2
    exact one_frz kVs S h fun x _ G1 H1 S1 st1 hd1 n v rv => pairs_read (by simpa using hl) e2 S1 ((kVs.bind n).mono fun q _ n2 G' H' S' st hd xs rx => n2 G' H' S' st hd (v :: xs) (.cons (rv.mono st.gm) rx))
theorem merge_new : ∀ (more kvs : List (Key × V)), ((kvs.map (·.1)) ++ (more.map (·.1))).Nodup → mergeK kvs more = kvs ++ more
  | [], kvs, _ => (List.append_nil kvs).symm
  | p :: more, kvs, h => by
    have hp : (kvs.any fun kv => decide (kv.1 = p.1)) = false := by
      rw [List.any_eq_false]
      intro x hx
      have h2 := (List.nodup_append.mp h).2.2 x.1 (List.mem_map_of_mem hx) p.1 (by simp)
      simpa using h2
    have e : putK kvs p.1 p.2 = kvs ++ [p] := by
      unfold putK
      rw [hp, if_neg (by simp)]
    show mergeK (putK kvs p.1 p.2) more = _
    rw [e, merge_new more (kvs ++ [p]) (by simpa using h), List.append_assoc]
    rfl
theorem keys_some : ∀ {keys : List (Option Expr)} {ks : T}, cKeys keys = some ks → keys.all (·.isSome) = true
  | [], _, _ => rfl
  | k :: keys, ks, h => by
    unfold cKeys at h
    split at h
    · rename_i hk; cases hk
    · rename_i hk
      cases hk
      obtain ⟨tk, e3, _⟩ := Option.map_eq_some_iff.mp h
      rw [List.all_cons, keys_some (keys := keys) e3]
      rfl
    · rename_i hk
      cases hk
      obtain ⟨tk, e3, _⟩ := Option.map_eq_some_iff.mp h
      rw [List.all_cons, keys_some (keys := keys) e3]
      rfl
    · cases h
theorem zip_kv : ∀ (kl : List Key) (xs : List V), (kl.map kV).zip xs = (kl.zip xs).map fun kv => (kV kv.1, kv.2)
  | [], xs => by simp
  | k :: kl, [] => by simp
  | k :: kl, x :: xs => by simp only [List.map_cons, List.zip_cons_cons, zip_kv kl xs]
theorem zip_keys : ∀ (kl : List Key) (xs : List V), ((kl.zip xs).map (·.1)).Sublist kl
  | [], xs => by simp
  | k :: kl, [] => by simp
  | k :: kl, x :: xs => by
    rw [List.zip_cons_cons, List.map_cons]
    exact (zip_keys kl xs).cons_cons k
theorem dic_ok {keys : List (Option Expr)} {values : List Expr} (IH : SE Φ Γ τ f) (ok : CtxOk Φ Γ τ W C X) (h : (if keys.length = values.length ∧ keys.length ≤ 15 then (cKeys keys).bind fun ks => (cL (f C) values).map (.dic ks) else none) = some t) : PE X (.Dict keys values pos) (tE Φ Γ τ W X.K t) := by
  split at h
  case isFalse => cases h
  rename_i hk
  obtain ⟨ks, e1, h⟩ := Option.bind_eq_some_iff.mp h
  obtain ⟨vs, e2, h⟩ := Option.map_eq_some_iff.mp h
  subst h
  obtain ⟨kl, k1, k2, k3⟩ := pps_ok (pos := pos) IH ok hk.1 e1 e2
  have hev : ∀ σD, evE Φ Γ (.dic ks vs) σD = (evV Φ Γ vs σD).bind fun q => if kl.length = q.1.length ∧ kl.length ≤ 1000 ∧ kl.Nodup then .ok (.v (.dict ((kl.map keyD).zip q.1)), q.2) else .no := fun σD => by
    simp only [evE]
    cases evV Φ Γ vs σD with
    | ok q =>
      show (match keysOf ks with
        | some ds => if ds.length = q.1.length ∧ ds.length ≤ 1000 ∧ ds.Nodup then Res.ok (R.v (.dict ((ds.map keyD).zip q.1)), q.2) else Res.no
        | none => Res.no) = _
      rw [k1]
      rfl
    | ex c as => rfl
    | no => rfl
  cases keys with
  | nil =>
    cases values with
    | cons _ _ => cases hk.1
    | nil =>
      cases e2
      refine pe_imp pe_dnewK fun σ H Q ⟨σD, G, S, h⟩ => fun p hp => ?_
      rw [hev] at h
      have kl0 : kl = [] := List.eq_nil_of_length_eq_zero k2
      subst kl0
      have h : NP τ W X.K σ (wE X.K σ Q) σD G H (if ([] : List Key).length = ([] : List D).length ∧ ([] : List Key).length ≤ 1000 ∧ ([] : List Key).Nodup then .ok (.v (.dict (([] : List Key).map keyD |>.zip [])), σD) else .no) := h
      rw [if_pos ⟨rfl, by decide, List.nodup_nil⟩] at h
      exact NP.out S h _ _ _ (Ext.laidG (o := .dK []) S.sub hp) (.dct (ks := []) (vs := []) (ds := []) upd_same rfl .nil)
  | cons k0 keys =>
    refine pe_imp (pe_disp k3 (keys_some e1) hk.1 (by simp) hk.2) fun σ H Q ⟨σD, G, S, h⟩ => fun p hp => ?_
    rw [hev] at h
    obtain ⟨S0, st0⟩ := S.ext (Ext.laidH (o := .dK []) S.sub hp)
    refine pairs_read (k2.trans hk.1) e2 S0 (Rn.shift st0 (Rn.bind h) fun q n G' H' S' st hd xs rx => ?_)
    split at n
    case isFalse => exact n.elim
    rename_i hq
    obtain ⟨q1, q2, q3⟩ := hq
    have nO : ¬ Own σD σ p := fun z => St.non hp (z.some S).1
    have nt0 : NoTbl (.dK []) := fun _ z => by cases z
    have h1 := st.keep p _ upd_same nt0 nO
    have h2 := st.gn p (none_sub S.sub hp) (St.of upd_same nt0) nO
    have h3 : ¬ Own q.2 σ p := fun z => by
      rcases st.own p z with w | w
      · exact nO w
      · exact w (St.of upd_same nt0)
    have hx : kl.length = xs.length := by rw [q1, rx.len]
    refine ⟨h1, kl.zip xs, zip_kv kl xs, by rw [List.length_zip]; omega, ?_⟩
    rw [merge_new (kl.zip xs) [] (by rw [List.map_nil, List.nil_append]; exact (zip_keys kl xs).nodup q3), List.nil_append]
    obtain ⟨Sg, stg⟩ := S2.grow (o := .dK (kl.zip xs)) S' (st0.trans st) h1 nt0 (fun _ z => by cases z) (fun _ z => by cases z) h2 (St.non hp) h3 (fun _ z => by cases z)
    exact n _ _ Sg stg hd (.ref p) (.dct upd_same q1 (rx.mono (sub_upd h2)))
end
end Fz

/-! Ev13: list comprehensions; every expression. -/
namespace Fz
open PySem PySem.Spec PyProof.Rows L2

section
variable {Φ : Fns} {Γ : List D} {τ : Tb} {W : EW} {X : Cx} {C : CC} {e a b c : Expr} {es : List Expr} {t ta tb tc : T} {pos : Pos} {f : CC → Expr → Option T}
/-- no exception is taken -/
abbrev W0 : EW := fun _ _ _ => False
theorem blk_ok (ok : CtxOk Φ Γ τ W C X) (s : Shared) (H : Hp) (scope : Scope) (cl : List (Str × Addr)) (C' : Addr) (fp : List Addr) :
    CtxOk Φ Γ τ W0 { C with sc := relS scope C.sc, blk := some scope, cats := [], exc := none } (X.blk s H scope (compEnvC scope cl C' X.env) fp) where
  N := ok.N
  nd := ok.nd
  sc := by
    have e : (compEnvC scope cl C' X.env).scope = relS scope X.env.scope := rfl
    show (compEnvC scope cl C' X.env).scope = relS scope C.sc
    rw [e, ok.sc]
  fn := fun x h => h
  calm := ok.calm
  tk := LamX.takes0.imp fun cls d σ H z => by
    obtain ⟨_, _, _, z⟩ := z
    exact z
  po := PySem.PassesOwn.never
  fns := fun x i h => ok.fns x i h
  cst := fun x k h => ok.cst x k h
  tab := fun x k h => ok.tab x k h
  bi := ok.bi
  hu := ok.hu
  gd := ok.gd
  ex := fun x h => ok.ex x h
  rm := ok.rm
  exa := fun x h => ok.exa x h
  rma := ok.rma
  ct := fun x k h => by cases h
  lm := fun h => absurd rfl h
  lf := fun x i h => ok.lf x i h
  fad := ok.fad
  xis := fun _ h => nomatch h
  xfl := fun _ h => nomatch h
  xhl := fun _ h => nomatch h
  xts := fun _ h => nomatch h
def tCd (Φ : Fns) (Γ : List D) (τ : Tb) (W : EW) (K : PySem.W.Frag) (t : T) : TT := fun σV H Q => ∃ σD G, S2 τ K G H σD σV ∧ NP τ W K σV (wT Q) σD G H (evC Φ Γ t σD)
theorem pts_imp {ifs : List Expr} {te te' : TT} (h : PTs X ifs te) (hi : ∀ σ H Q, te' σ H Q → te σ H Q) : PTs X ifs te' := ⟨fun pins s σ H Q I q => h.run pins s σ H Q I (hi _ _ _ q)⟩
theorem cond_ok {ifs : List Expr} (IH : SE Φ Γ τ f) (ok : CtxOk Φ Γ τ W C X) (h : (match ifs with | [] => some T.nil | [c] => (f C c).map fun t => T.cons t T.nil | _ => none) = some t) : PTs X ifs (tCd Φ Γ τ W X.K t) := by
  match ifs with
  | [] =>
    cases h
    exact pts_imp pts_nil fun σ H Q ⟨σD, G, S, h⟩ => NP.fin S h
  | [c] =>
    obtain ⟨t1, e1, h⟩ := Option.map_eq_some_iff.mp h
    subst h
    exact pts_imp (pts_one (IH W C X c t1 e1 ok).2) fun σ H Q ⟨σD, G, S, h⟩ => ⟨σD, G, S, h⟩
  | _ :: _ :: _ => cases h
/-- an expression whose value is known -/
theorem got_frz {K : PySem.W.Frag} {G H : Hp} {σD : Sts} {σV : L2.St} {a : T} {x : R × Sts} (S : S2 τ K G H σD σV) (e : evE Φ Γ a σD = .ok x) {k : V → Hp → Prop}
    (hk : ∀ G' H', S2 τ K G' H' (frz x.2 x.1).2 σV → Step σD σV G H (frz x.2 x.1).2 σV G' H' → Held σD (frz x.2 x.1).2 → ∀ v, Rp K G' v (frz x.2 x.1).1 → k v H') : tE Φ Γ τ W K a σV H k :=
  ⟨σD, G, S, by
    rw [e]
    exact fun G' H' S' st hd v rv => by
      obtain ⟨G2, S2', st2, su, rp, hd2⟩ := frz_ok S' st rv
      exact hk G2 H' S2' st2 (hd.trans hd2) v rp⟩
theorem held_stD : ∀ (g : T), (∀ {d : D} {σ σ' : Sts}, stD g d σ = .ok σ' → Held σ σ' ∧ ∀ i s, σ'[i]? = some s → i ∈ tgS g ∨ σ[i]? = some s) ∧ (∀ {ds : List D} {σ σ' : Sts}, stDs g ds σ = .ok σ' → Held σ σ' ∧ ∀ i s, σ'[i]? = some s → i ∈ tgS g ∨ σ[i]? = some s) := by
  intro g
  induction g with
  | gn i =>
    refine ⟨fun {d σ σ'} h => ?_, fun {ds σ σ'} h => (by cases ds <;> cases h)⟩
    simp only [stD] at h
    split at h
    · cases h
      refine ⟨held_set rfl, fun j s h => ?_⟩
      rcases set_cases h with ⟨rfl, _, _⟩ | ⟨_, h⟩
      · exact .inl List.mem_cons_self
      · exact .inr h
    · cases h
  | gt gs ih =>
    refine ⟨fun {d σ σ'} h => ?_, fun {ds σ σ'} h => (by cases ds <;> cases h)⟩
    cases d with
    | tuple ds => exact ih.2 h
    | list ds => exact ih.2 h
    | _ => cases h
  | nil =>
    refine ⟨fun {d σ σ'} h => (by cases d <;> cases h), fun {ds σ σ'} h => ?_⟩
    cases ds with
    | nil => cases h; exact ⟨Held.rfl', fun _ _ h => .inr h⟩
    | cons _ _ => cases h
  | cons g gs i1 i2 =>
    refine ⟨fun {d σ σ'} h => (by cases d <;> cases h), fun {ds σ σ'} h => ?_⟩
    cases ds with
    | nil => cases h
    | cons d ds =>
      obtain ⟨σ1, f1, f2⟩ := bind_ok h
      obtain ⟨h1, h2⟩ := i1.1 f1
      obtain ⟨h3, h4⟩ := i2.2 f2
      refine ⟨h1.trans h3, fun i s h => ?_⟩
      rcases h4 i s h with z | z
      · exact .inl (List.mem_append_right _ z)
      · rcases h2 i s z with z | z
        · exact .inl (List.mem_append_left _ z)
        · exact .inr z
  | _ => exact ⟨fun {d σ σ'} h => (by cases d <;> cases h), fun {ds σ σ'} h => (by cases ds <;> cases h)⟩

theorem lc_read {g it tc te : T} {own : List Nat} (hg : (tgS g).all (fun i => decide (i ∈ own)) = true) {σV : L2.St} {H : Hp} {Q : VK} (h : tE Φ Γ τ W X.K (.lc g it tc te own) σV H Q) :
    tLc (tI Φ Γ τ W X.K it) (tG τ X.K g) (tCd Φ Γ τ W0 X.K tc) (tE Φ Γ τ W0 X.K te) own σV H Q := by
  obtain ⟨σD, G, S, h⟩ := h
  have sub : ∀ j, j ∈ tgS g → j ∈ own := fun j hj => of_decide_eq_true (List.all_eq_true.mp hg j hj)
  refine iter_op kE S h fun q1 G1 H1 S1 st1 hd1 h J wk => fun D hD => ?_
  obtain ⟨ds, σ1⟩ := q1
  obtain ⟨w, e2, h⟩ := kE.ok h (lcLoop_nx _ _ _)
  split at h
  case isFalse => exact h.elim
  rename_i hz
  have hz : w.1.length ≤ 16777216 := hz
  have hsl := sizeLine_eq
  obtain ⟨Sw0, ow0⟩ := S1.wiped own
  have hDG : G1 D = none := none_sub S1.sub hD
  have hnO : ∀ b, Own (wipeD σ1 own) (wipe σV own) b → b ≠ D := fun b o z => by
    subst z
    exact St.non hD (o.some Sw0).1
  -- one turn of the evaluator
  generalize hbody : (fun d σ => (stD g d σ).bind fun σ => (evC Φ Γ tc σ).bind fun k => match k.1 with
        | true => (evE Φ Γ te k.2).bind fun x => let z := frz x.2 x.1; Res.ok (some z.1, wipeD z.2 own)
        | false => Res.ok (none, wipeD k.2 own)) = body at e2
  let W : Nat → Nat → Hp → Prop := fun i m H => ∃ G σ acc accV, S2 τ X.K G H σ (wipe σV own) ∧ Step (wipeD σ1 own) (wipe σV own) G1 H1 σ (wipe σV own) G H ∧ Held (wipeD σ1 own) σ ∧ Wiped σ own ∧ G D = none ∧ ¬ Own σ (wipe σV own) D ∧ H D = some (HO.lst accV) ∧ RpA X.K G accV acc ∧
    lcLoop body (ds.drop i) σ acc = .ok w ∧ m = ds.length - i ∧ i ≤ ds.length
  refine ⟨W, ⟨ds.length, ?_⟩, ?_⟩
  · obtain ⟨Su, stu⟩ := upd_free (o := HO.lst []) Sw0 (Step.rfl' (σD := wipeD σ1 own) (σV := wipe σV own) (G := G1) (H := H1)) hD hDG (fun z => hnO D z rfl) (tabs_new Sw0.tabs hD) (fun d f e z => by have q := Sw0.xo d f e; rw [z, hD] at q; cases q)
    exact ⟨G1, _, [], [], Su, stu, Held.rfl', wiped_wipe _ _, hDG, fun z => hnO D z rfl, upd_same, .nil, e2, rfl, Nat.zero_le _⟩
  · intro i m H2 hW
    obtain ⟨G2, σ, acc, accV, S2', st2, hd2, wp, hG2, hO2, hH2, ra, ev, rfl, hi⟩ := hW
    have sG : Sub G1 G2 := st2.gm
    by_cases hlt : i < ds.length
    · -- a turn
      obtain ⟨go, yld⟩ := wk.1 i G2 H2 sG S2'.sub hlt
      have hdrop : ds.drop i = ds[i] :: ds.drop (i + 1) := List.drop_eq_getElem_cons hlt
      rw [hdrop] at ev
      obtain ⟨k, e3, ev⟩ := bindN_ok ev
      -- the turn's end
      let Nx : Hp → Prop := fun H' => W (i + 1) (ds.length - (i + 1)) H'
      refine .inr ⟨go, Nx, fun H' n => ⟨_, by omega, n⟩, fun x H3 y => ?_⟩
      obtain ⟨G3, d, hd, ex, rx⟩ := yld x H3 y
      rw [List.getElem?_eq_getElem hlt] at hd
      cases hd
      obtain ⟨S3, st3⟩ := S2'.ext ex
      have st3' := st2.trans st3
      rw [← hbody] at e3
      obtain ⟨σ2, e4, e3⟩ := bind_ok e3
      obtain ⟨k2, e5, e3⟩ := bind_ok e3
      have D3 : H3 D = some (HO.lst accV) := ex.hm _ _ hH2
      have G3D : G3 D = none := ex.gn D hG2 (St.lst hH2)
      refine ⟨σ, G3, ds[i], σ2, S3, rx, e4, fun σV2 S4 st4 l4 u4 => ⟨?_, ?_⟩⟩
      · refine List.ext_getElem? fun j => ?_
        rw [wipe_get, wipe_get]
        have hl : σV2.length = σV.length := by rw [l4, wipe_length]
        rw [hl]
        by_cases hj : j ∈ own ∧ j < σV.length
        · rw [if_pos hj, if_pos hj]
        · rw [if_neg hj, if_neg hj]
          by_cases hjo : j ∈ own
          · have : σV.length ≤ j := by
              have := not_and.mp hj hjo
              omega
            rw [List.getElem?_eq_none (by omega), List.getElem?_eq_none this]
          · rw [u4 j (fun z => hjo (sub j z)), wipe_get, if_neg (fun z => hjo z.1)]
      · obtain ⟨hs1, hs2⟩ := (held_stD g).1 e4
        -- in the block the slots are σV2; back at the wiped ones
        have back : ∀ {G' H' : Hp} {σ3 : Sts}, S2 τ X.K G' H' σ3 σV2 → Step σ2 σV2 G3 H3 σ3 σV2 G' H' → Held σ2 σ3 →
            S2 τ X.K G' H' (wipeD σ3 own) (wipe σV own) ∧ Step (wipeD σ1 own) (wipe σV own) G1 H1 (wipeD σ3 own) (wipe σV own) G' H' ∧ Held (wipeD σ1 own) (wipeD σ3 own) ∧ Wiped (wipeD σ3 own) own ∧
            G' D = none ∧ ¬ Own (wipeD σ3 own) (wipe σV own) D ∧ H' D = some (HO.lst accV) ∧ RpA X.K G' accV acc := fun {G' H' σ3} S5 st5 hd5 => by
          have weq : wipe σV2 own = wipe σV own := by
            refine List.ext_getElem? fun j => ?_
            rw [wipe_get, wipe_get]
            have hl : σV2.length = σV.length := by rw [l4, wipe_length]
            rw [hl]
            by_cases hj : j ∈ own ∧ j < σV.length
            · rw [if_pos hj, if_pos hj]
            · rw [if_neg hj, if_neg hj]
              by_cases hjo : j ∈ own
              · have : σV.length ≤ j := by
                  have := not_and.mp hj hjo
                  omega
                rw [List.getElem?_eq_none (by omega), List.getElem?_eq_none this]
              · rw [u4 j (fun z => hjo (sub j z)), wipe_get, if_neg (fun z => hjo z.1)]
          have w5 := S5.wiped own
          rw [weq] at w5
          have st6 : Step (wipeD σ1 own) (wipe σV own) G1 H1 σ3 σV2 G' H' := (st3'.trans st4).trans st5
          have nO3 : ¬ Own σ3 σV2 D := fun z => by
            rcases st5.own D z with q | q
            · rcases st4.own D q with q | q
              · exact hO2 q
              · exact q (St.lst D3)
            · exact q (St.lst D3)
          have nO4 : ¬ Own σ2 σV2 D := fun z => by
            rcases st4.own D z with q | q
            · exact hO2 q
            · exact q (St.lst D3)
          refine ⟨w5.1, ⟨st6.gm, st6.gn, st6.keep, st6.dom, fun b o => st6.own b (w5.2 b o)⟩, ⟨?_, fun j s h n => ?_⟩, wiped_wipe _ _, st5.gn D G3D (St.lst D3) nO4, fun z => nO3 (w5.2 D z), st5.keep D _ D3 lst_nt nO4, (ra.mono ex.gm).mono st5.gm⟩
          · rw [wipeD_length, hd5.1, hs1.1, hd2.1]
          · have hjo : j ∉ own := fun z => by rw [wiped_wipe _ _ j z s h] at n; cases n
            obtain ⟨s1, z1, z2⟩ := hd2.2 j s h n
            obtain ⟨s2, z3, z4⟩ := hs1.2 j s1 z1 z2
            obtain ⟨s3, z5, z6⟩ := hd5.2 j s2 z3 z4
            exact ⟨s3, by rw [wipeD_get, if_neg (fun z => hjo z.1)]; exact z5, z6⟩
        refine ⟨σ2, G3, S4, ?_⟩
        rw [e5]
        intro G5 H5 S5 st5 hd5
        obtain ⟨kb, σ3⟩ := k2
        cases kb with
        | false =>
          show (if false = true then _ else _)
          rw [if_neg Bool.false_ne_true]
          cases e3
          obtain ⟨b1, b2, b3, b4, b5, b6, b7, b8⟩ := back S5 st5 hd5
          exact ⟨G5, _, acc, accV, b1, b2, b3, b4, b5, b6, b7, b8, ev, rfl, hlt⟩
        | true =>
          show (if true = true then _ else _)
          rw [if_pos rfl]
          obtain ⟨x2, e6, e3⟩ := bind_ok e3
          cases e3
          have ev : lcLoop body (ds.drop (i + 1)) (wipeD (frz x2.2 x2.1).2 own) (acc ++ [(frz x2.2 x2.1).1]) = .ok w := ev
          refine got_frz S5 e6 fun G6 H6 S6 st6 hd6 yv ry => ?_
          obtain ⟨b1, b2, b3, b4, b5, b6, b7, b8⟩ := back S6 (st5.trans st6) (hd5.trans hd6)
          have grow := lc_grow ev
          rw [List.length_append] at grow
          simp only [List.length_cons, List.length_nil] at grow
          refine ⟨accV, b7, by rw [b8.len, hsl]; omega, ?_⟩
          obtain ⟨c1, c2⟩ := upd_free (o := HO.lst (accV ++ [yv])) b1 b2 hD b5 b6 (tabs_upd b1.tabs b7 lst_nt (fun _ z => by cases z)) (fun d f e z => by have q := Sw0.xo d f e; rw [z, hD] at q; cases q)
          exact ⟨G6, _, _, _, c1, c2, b3, b4, b5, b6, upd_same, b8.snoc ry, ev, rfl, hlt⟩
    · -- the end
      have hie : i = ds.length := by omega
      have hdrop : ds.drop i = [] := List.drop_eq_nil_of_le (by omega)
      rw [hdrop] at ev
      cases ev
      refine .inl ⟨wk.2 i G2 H2 sG S2'.sub (by show ds.length ≤ i; omega), ?_⟩
      obtain ⟨f1, f2, f3, f4⟩ := unwiped S1 S2' st2 hd2 wp
      refine h G2 H2 f1 f2 f3 _ ⟨D, accV, rfl, hH2, hG2, fun z => ?_, St.non hD, ra⟩
      rcases f4 D z with q | q
      · exact St.non hD (q.some S1).1
      · exact hO2 q
theorem iter_ok {tg : Expr} (IH : SE Φ Γ τ f) (ns : NS f) (ok : CtxOk Φ Γ τ W C X) (h : cIter (f C) C tg e = some t) : PI X tg e (tI Φ Γ τ W X.K t) := by
  have base : ∀ {t : T}, (f C e).map .itv = some t → PI X tg e (tI Φ Γ τ W X.K t) := fun {t} h => by
    obtain ⟨t1, e1, h⟩ := Option.map_eq_some_iff.mp h
    subst h
    exact itv_ok (IH W C X e t1 e1 ok).1
  unfold cIter at h
  split at h
  · rename_i x p as pos
    split at h
    · rename_i hx
      split at h
      · rename_i ex
        subst ex
        split at h
        · rename_i a
          obtain ⟨t1, e1, h⟩ := Option.map_eq_some_iff.mp h
          subst h
          exact itr1_ok IH ns ok hx.2 e1
        · rename_i a b
          obtain ⟨t1, e1, h⟩ := Option.map_eq_some_iff.mp h
          subst h
          exact itr2_ok IH ns ok hx.2 e1
        · rename_i a b c0
          obtain ⟨t1, e1, h⟩ := Option.map_eq_some_iff.mp h
          subst h
          exact itr3_ok IH ns ok hx.2 e1
        · cases h
      · split at h
        · rename_i ex
          subst ex
          split at h
          · rename_i a b elts kk tpos
            obtain ⟨t1, e1, h⟩ := Option.bind_eq_some_iff.mp h
            obtain ⟨t2, e2, h⟩ := Option.map_eq_some_iff.mp h
            subst h
            exact itz_ok ok hx.2 (fun x p z => by rw [z, ns] at e1; cases e1) (fun x p z => by rw [z, ns] at e2; cases e2) (IH W C X a t1 e1 ok).1 (IH W C X b t2 e2 ok).1
          · cases h
        · split at h
          · rename_i ex
            subst ex
            split at h
            · rename_i a elts kk tpos
              obtain ⟨t1, e1, h⟩ := Option.map_eq_some_iff.mp h
              subst h
              exact ite_ok ok hx.2 (fun x p z => by rw [z, ns] at e1; cases e1) (IH W C X a t1 e1 ok).1
            · cases h
          · exact base h
    · exact base h
  · cases h
  · exact base h
theorem comp_ok {gens : List Comprehension} {scope : Scope} (IH : SE Φ Γ τ f) (ns : NS f) (ok : CtxOk Φ Γ τ W C X) (hh : C.hot = false) (h : cComp f C e scope gens = some t) : PE X (.ListComp e gens scope pos) (tE Φ Γ τ W X.K t) := by
  unfold cComp at h
  split at h
  case h_2 => cases h
  rename_i g it ifs
  dsimp only at h
  split at h
  case isFalse => cases h
  rename_i hb
  obtain ⟨ti, e1, h⟩ := Option.bind_eq_some_iff.mp h
  obtain ⟨tg, e2, h⟩ := Option.bind_eq_some_iff.mp h
  obtain ⟨te, e3, h⟩ := Option.bind_eq_some_iff.mp h
  obtain ⟨tc, e4, h⟩ := Option.bind_eq_some_iff.mp h
  split at h
  case isFalse => cases h
  rename_i ht
  cases h
  have hi := iter_ok (tg := g) IH ns ok e1
  have hset : ∀ x, foldedSetIterable it X.env x = pure x := fun x => by
    cases it <;> first | rfl | cases e1
  exact pe_imp (pe_lc (own := ownOf C scope) (ok.calm hh) (by rw [ok.N]; exact ok.nd) hi (blkOk_by (by rw [ok.N, ok.sc]; exact hb))
    (fun s H C' cl fp => tgt_ok (blk_ok ok s H scope cl C' fp) hh 5 e2) (fun s H C' cl fp => cond_ok IH (blk_ok ok s H scope cl C' fp) e4) (fun s H C' cl fp => (IH _ _ _ e te e3 (blk_ok ok s H scope cl C' fp)).1) hset)
    fun σ H Q h => lc_read ht h
theorem callN_ok {x : Str} {p : Pos} (IH : SE Φ Γ τ f) (ns : NS f) (ok : CtxOk Φ Γ τ W C X) (hh : C.hot = false) (h : cCallN (f C) C x es = some t) : PE X (.Call (.Name x p) es [] pos) (tE Φ Γ τ W X.K t) := by
  unfold cCallN at h
  split at h
  case isFalse => cases h
  rename_i hx
  split at h
  · rename_i i hi
    obtain ⟨t1, e1, h⟩ := Option.map_eq_some_iff.mp h
    subst h
    exact fn_ok IH ns ok hx.1 hx.2 hi e1
  · split at h
    · rename_i ex
      subst ex
      split at h
      · rename_i e ty p2
        split at h
        case isFalse => cases h
        rename_i ht
        obtain ⟨k, e1, h⟩ := Option.bind_eq_some_iff.mp h
        obtain ⟨t1, e2, h⟩ := Option.map_eq_some_iff.mp h
        subst h
        exact isis_ok ok hx.1 ht e1 (fun x p z => by rw [z, ns] at e2; cases e2) (IH W C X e t1 e2 ok).1
      · cases h
    · split at h
      · cases h
      · rename_i a r
        obtain ⟨k, e1, h⟩ := Option.bind_eq_some_iff.mp h
        obtain ⟨t1, e2, h⟩ := Option.map_eq_some_iff.mp h
        subst h
        have hs := noStar (fun x p => ns C x p) e2 X.env
        obtain ⟨t2, e3, h'⟩ := Option.bind_eq_some_iff.mp e2
        have he : ∀ x p, a ≠ .Starred x p := fun x p z => by rw [z, ns] at e3; cases e3
        have hse := starE (X := X) (es := r) he
        rw [hse, List.any_cons] at hs
        exact bis_ok ok hh hx.1 hx.2 e1 (by simpa using hs) hse (args_ok IH ns ok e2)
theorem calls_ok {g : Expr} {ks : List Keyword} (IH : SE Φ Γ τ f) (ns : NS f) (ok : CtxOk Φ Γ τ W C X) (hh : C.hot = false) (h : cCall (f C) C g es ks pos = some t) : PE X (.Call g es ks pos) (tE Φ Γ τ W X.K t) := by
  unfold cCall at h
  split at h
  · split at h
    · rename_i x p a
      split at h
      · rename_i rs hr
        split at h
        · rename_i hx
          split at h
          · rename_i ex
            subst ex
            obtain ⟨t1, e1, h⟩ := Option.map_eq_some_iff.mp h
            subst h
            exact rgl_ok IH ns ok hh hx.1 hr hx.2.1 e1
          · split at h
            · rename_i ex
              subst ex
              obtain ⟨t1, e1, h⟩ := Option.map_eq_some_iff.mp h
              subst h
              exact rgt_ok IH ns ok hh hx.1 hr hx.2.1 e1
            · exact callN_ok IH ns ok hh h
        · exact callN_ok IH ns ok hh h
      · split at h
        · rename_i e0 he0
          have hq : ∃ r p q, a = .Call (.Name r p) [e0] [] q ∧ r = "set" := by
            unfold setArg at he0
            split at he0
            · split at he0
              · rename_i ex
                cases he0
                exact ⟨_, _, _, rfl, ex⟩
              · cases he0
            · cases he0
          obtain ⟨r, p1, p2, rfl, rfl⟩ := hq
          split at h
          · rename_i hx
            have hst : ∀ {t1 : T}, cL (f C) [e0] = some t1 → starEach [e0] X.env = [(false, eval e0 X.env)] := fun {t1} e1 => by
              obtain ⟨t2, e3, _⟩ := Option.bind_eq_some_iff.mp e1
              exact starE (X := X) (es := []) fun x p z => by rw [z, ns] at e3; cases e3
            split at h
            · rename_i ex
              subst ex
              obtain ⟨t1, e1, h⟩ := Option.map_eq_some_iff.mp h
              subst h
              exact lenset_ok ok hh hx.1 hx.2.1 (hst e1) (args_ok IH ns ok e1)
            · split at h
              · rename_i ex
                subst ex
                obtain ⟨t1, e1, h⟩ := Option.map_eq_some_iff.mp h
                subst h
                exact sortset_ok ok hh hx.1 hx.2.1 (hst e1) (args_ok IH ns ok e1)
              · exact callN_ok IH ns ok hh h
          · exact callN_ok IH ns ok hh h
        · exact callN_ok IH ns ok hh h
    · exact callN_ok IH ns ok hh h
  · split at h
    · rename_i em
      subst em
      exact pop_ok IH ns ok h
    · exact meth_ok IH ns ok h
  · split at h
    · rename_i hy
      exact methC_ok hy IH ns ok h
    · cases h
  · cases h
/-- what is told of the exception in hand -/
theorem xc_read {K : PySem.W.Frag} {i : Nat} {t : T} {σ : L2.St} {H : Hp} {Q : VK} (h : tE Φ Γ τ W K (.xc i t) σ H Q) : ∃ σD G, S2 τ K G H σD σ ∧ σ[i]? = some (some (V.ref τ.xa)) ∧ NP τ W K σ (wE K σ Q) σD G H (evE Φ Γ t σD) := by
  obtain ⟨σD, G, S, h⟩ := h
  simp only [evE] at h
  split at h
  · rename_i hx
    exact ⟨σD, G, S, S.exc i hx, h⟩
  · exact h.elim
theorem evE_const {K : PySem.W.Frag} {d : D} (h : constT d = some t) (σ : Sts) : evE Φ Γ t σ = .ok (.v d, σ) ∧ ∀ G, Rp K G (atomV d) d := by
  cases d with
  | int n => cases h; exact ⟨rfl, fun _ => .int n⟩
  | str s => cases h; exact ⟨rfl, fun _ => .str s⟩
  | _ => cases h
theorem evV_bools : ∀ (bs : List Bool) (σ : Sts), evV Φ Γ (boolsT bs) σ = .ok (bs.map PyData.bool, σ)
  | [], σ => rfl
  | b :: bs, σ => by
    show (evE Φ Γ (.bl b) σ).bind (fun x => let z := frz x.2 x.1; (evV Φ Γ (boolsT bs) z.2).bind fun y => .ok (z.1 :: y.1, y.2)) = _
    simp only [evE, Res.bind, frz, evV_bools bs σ]
    rfl
theorem rpa_bools {K : PySem.W.Frag} {G : Hp} : ∀ bs : List Bool, RpA K G (bs.map V.bl) (bs.map PyData.bool)
  | [] => .nil
  | b :: bs => .cons (.bl b) (rpa_bools bs)
/-- what is never asked for -/
theorem pe_never (e : Expr) : PE X e (tE Φ Γ τ W X.K .nil) := ⟨fun _ _ σ H Q _ h => by
  obtain ⟨σD, G, S, h⟩ := h
  exact h.elim⟩
theorem fld_ok {o : Expr} {x : Str} (ok : CtxOk Φ Γ τ W C X) (h : cFld C x o = some t) : PE X (.Attribute o x pos) (tE Φ Γ τ W X.K t) := by
  unfold cFld at h
  split at h
  case h_2 => cases h
  rename_i e p1
  obtain ⟨xi, e1, h⟩ := Option.bind_eq_some_iff.mp h
  split at h
  case isFalse => cases h
  rename_i hx
  obtain ⟨h1, h2, h3⟩ := hx
  subst h1
  obtain ⟨d, e2, h⟩ := Option.bind_eq_some_iff.mp h
  obtain ⟨t1, e3, h⟩ := Option.bind_eq_some_iff.mp h
  obtain ⟨i, e4, h⟩ := Option.map_eq_some_iff.mp h
  subst h
  refine pe_imp (ok.xfl xi e1 x d t1 i e2 e3 (ixOf_get e4) (by rw [ok.sc]; exact vis_of h2) h3 p1 pos) fun σ H Q h => ?_
  obtain ⟨σD, G, S, hs, h⟩ := xc_read h
  obtain ⟨z1, z2⟩ := evE_const (Φ := Φ) (Γ := Γ) (K := X.K) e3 σD
  rw [z1] at h
  exact ⟨hs, S.xo, NP.fin S h _ (z2 G)⟩
theorem hot_ok {g : Expr} {ks : List Keyword} (IH : SE Φ Γ τ f) (ns : NS f) (ok : CtxOk Φ Γ τ W C X) (h : cHot (f C) C g es ks pos = some t) : PE X (.Call g es ks pos) (tE Φ Γ τ W X.K t) := by
  unfold cHot at h
  split at h
  · exact meth_ok IH ns ok h
  · rename_i x p1
    obtain ⟨xi, e1, h⟩ := Option.bind_eq_some_iff.mp h
    split at h
    · rename_i e p2 y p3 _
      split at h
      case isFalse => cases h
      rename_i hx
      obtain ⟨h1, h2, h3, h4⟩ := hx
      subst h1 h2
      obtain ⟨b, e2, h⟩ := Option.bind_eq_some_iff.mp h
      unfold cXc at h
      split at h
      case isFalse => cases h
      rename_i hz
      obtain ⟨i, e3, h⟩ := Option.map_eq_some_iff.mp h
      subst h
      refine pe_imp (ok.xis xi e1 y b i e2 (ixOf_get e3) (by rw [ok.sc]; exact vis_of hz.2.2.1) hz.2.2.2 (gl_of ok h3) h4 (gl_of ok hz.1) p1 p2 p3 pos) fun σ H Q h => ?_
      obtain ⟨σD, G, S, hs, h⟩ := xc_read h
      simp only [evE] at h
      exact ⟨hs, S.xo, NP.fin S h _ (.bl b)⟩
    · rename_i e p2 _
      split at h
      case isFalse => cases h
      rename_i h1
      subst h1
      obtain ⟨bs, e2, h⟩ := Option.bind_eq_some_iff.mp h
      unfold cXc at h
      split at h
      case isFalse => cases h
      rename_i hz
      obtain ⟨i, e3, h⟩ := Option.map_eq_some_iff.mp h
      subst h
      refine pe_imp (ok.xhl xi e1 x bs i e2 (ixOf_get e3) (by rw [ok.sc]; exact vis_of hz.2.2.1) hz.2.2.2 (gl_of ok hz.1) hz.2.1 p1 p2 pos) fun σ H Q h => ?_
      obtain ⟨σD, G, S, hs, h⟩ := xc_read h
      simp only [evE, evV_bools, Res.bind] at h
      refine ⟨hs, S.tabs, S.xo, fun a H' hk htb hna hA => ?_⟩
      split at h
      · have gn : ∀ b, ¬ St H b → G b = none := fun b hb => by
          cases q : G b with
          | none => rfl
          | some o => exact absurd (St.of (S.sub _ _ q) (fun ps z => S.nt b ps (by rw [q, z]))) hb
        have sb : Sub G H' := fun b o q => hk b o (S.sub b o q) fun ps z => S.nt b ps (by rw [q, z])
        refine h G H' ⟨S.len, sb, S.val, fun j ds hj => ?_, S.sep, htb, S.nt, S.exc, fun d f e => hk d _ (S.xo d f e) fun _ z => nomatch z⟩ ⟨Sub.rfl', fun _ e _ _ => e, fun b o q n _ => hk b o q n, fun b ⟨o, q, n⟩ => ⟨o, hk b o q n, n⟩, fun _ o => .inl o⟩ Held.rfl' _ ⟨a, _, rfl, hA, gn a hna, fun o => hna (o.some S).1, hna, rpa_bools bs⟩
        obtain ⟨a2, vs2, z1, z2, z3, z4⟩ := S.own j ds hj
        exact ⟨a2, vs2, z1, hk _ _ z2 lst_nt, z3, z4⟩
      · exact h.elim
    · rename_i e p2 fl p3 n j p4 _
      split at h
      case isFalse => cases h
      rename_i h1
      obtain ⟨h1, ht⟩ := h1
      subst h1
      obtain ⟨d, e2, h⟩ := Option.bind_eq_some_iff.mp h
      obtain ⟨m, e3, h⟩ := Option.bind_eq_some_iff.mp h
      have e4 : d = .int m := by
        unfold intD at e3
        split at e3
        · cases e3; rfl
        · cases e3
      subst e4
      unfold cXc at h
      split at h
      case isFalse => cases h
      rename_i hz
      obtain ⟨i, e5, h⟩ := Option.map_eq_some_iff.mp h
      subst h
      refine pe_imp (ok.xts xi e1 x fl m n i ht e2 (ixOf_get e5) (by rw [ok.sc]; exact vis_of hz.2.2.1) hz.2.2.2 (gl_of ok hz.1) hz.2.1 p1 p2 p3 j p4 pos) fun σ H Q h => ?_
      obtain ⟨σD, G, S, hs, h⟩ := xc_read h
      simp only [evE] at h
      refine ⟨hs, S.tabs, S.xo, fun H' hk htb => ?_⟩
      have sb : Sub G H' := fun b o q => hk b o (S.sub b o q) fun ps z => S.nt b ps (by rw [q, z])
      refine h G H' ⟨S.len, sb, S.val, fun j ds hj => ?_, S.sep, htb, S.nt, S.exc, fun d f e => hk d _ (S.xo d f e) fun _ z => nomatch z⟩ ⟨Sub.rfl', fun _ e _ _ => e, fun b o q n _ => hk b o q n, fun b ⟨o, q, n⟩ => ⟨o, hk b o q n, n⟩, fun _ o => .inl o⟩ Held.rfl' _ (.bl _)
      obtain ⟨a2, vs2, z1, z2, z3, z4⟩ := S.own j ds hj
      exact ⟨a2, vs2, z1, hk _ _ z2 lst_nt, z3, z4⟩
    · cases h
  · cases h
theorem isiN_ok {g : Expr} {ks : List Keyword} (IH : SE Φ Γ τ f) (ns : NS f) (ok : CtxOk Φ Γ τ W C X) (h : cIsi (f C) C g es ks = some t) : PE X (.Call g es ks pos) (tE Φ Γ τ W X.K t) := by
  unfold cIsi at h
  split at h
  case h_2 => cases h
  split at h
  case isFalse => cases h
  rename_i hy
  subst hy
  unfold cCallN at h
  split at h
  case isFalse => cases h
  rename_i hx
  split at h
  · rename_i i hi
    obtain ⟨t1, e1, h⟩ := Option.map_eq_some_iff.mp h
    subst h
    exact fn_ok IH ns ok hx.1 hx.2 hi e1
  · split at h
    case isFalse hn => exact absurd rfl hn
    split at h
    · rename_i e ty p2
      split at h
      case isFalse => cases h
      rename_i ht
      obtain ⟨k, e1, h⟩ := Option.bind_eq_some_iff.mp h
      obtain ⟨t1, e2, h⟩ := Option.map_eq_some_iff.mp h
      subst h
      exact isis_ok ok hx.1 ht e1 (fun x p z => by rw [z, ns] at e2; cases e2) (IH W C X e t1 e2 ok).1
    · cases h
theorem hot2_ok {g : Expr} {ks : List Keyword} (IH : SE Φ Γ τ f) (ns : NS f) (ok : CtxOk Φ Γ τ W C X) (h : cHot2 (f C) C g es ks pos = some t) : PE X (.Call g es ks pos) (tE Φ Γ τ W X.K t) := by
  unfold cHot2 at h
  split at h
  · rename_i t' e'
    cases h
    exact hot_ok IH ns ok e'
  · exact isiN_ok IH ns ok h
/-- THE EXPRESSIONS -/
theorem ns_cE : ∀ n, NS (cE n)
  | 0, _, _, _ => rfl
  | _ + 1, _, _, _ => rfl
theorem sE : ∀ n, SE Φ Γ τ (cE n) := by
  intro n
  induction n with
  | zero => intro W C X e t h _; cases h
  | succ n IH =>
    intro W C X e t h ok
    have ns := ns_cE n
    have h : cE1 (cE n) C e = some t := h
    cases e with
    | Constant c k p => exact both (const_ok h)
    | Name x p => exact both (name_ok ok h)
    | BinOp a o b p =>
      obtain ⟨k, e1, h⟩ := Option.bind_eq_some_iff.mp h
      obtain ⟨ta, e2, h⟩ := Option.bind_eq_some_iff.mp h
      obtain ⟨tb, e3, h⟩ := Option.bind_eq_some_iff.mp h
      cases h
      exact both (bin_ok e1 (IH W C X a ta e2 ok).1 (IH W C X b tb e3 ok).1)
    | UnaryOp o a p =>
      cases o with
      | USub =>
        obtain ⟨ta, e1, h⟩ := Option.map_eq_some_iff.mp h
        subst h
        exact both (neg_ok (IH W C X a ta e1 ok).1)
      | Not =>
        obtain ⟨ta, e1, h⟩ := Option.map_eq_some_iff.mp h
        subst h
        exact not_ok (IH W C X a ta e1 ok)
      | _ => cases h
    | BoolOp o vs p =>
      cases o with
      | And =>
        obtain ⟨h1, h2⟩ := ands_ok (pos := p) IH ok h
        exact ⟨h1, h2.pt⟩
      | Or =>
        obtain ⟨h1, h2⟩ := ors_ok (pos := p) IH ok h
        exact ⟨h1, h2.pt⟩
    | Compare a ops cs p => exact cmps_ok IH ok h
    | IfExp c a b p =>
      obtain ⟨tc, e1, h⟩ := Option.bind_eq_some_iff.mp h
      obtain ⟨ta, e2, h⟩ := Option.bind_eq_some_iff.mp h
      obtain ⟨tb, e3, h⟩ := Option.bind_eq_some_iff.mp h
      cases h
      exact ifx_ok (IH W C X c tc e1 ok) (IH W C X a ta e2 ok) (IH W C X b tb e3 ok)
    | Tuple es k p =>
      obtain ⟨t1, e1, h⟩ := Option.map_eq_some_iff.mp h
      subst h
      exact both (tup_ok IH ns ok e1)
    | List es p =>
      obtain ⟨t1, e1, h⟩ := Option.map_eq_some_iff.mp h
      subst h
      exact both (lst_ok IH ns ok e1)
    | Subscript a i p =>
      have h : (match cTab C a with
        | some k => if isSl i = true then none else (cE n C i).map fun t => .ix (.glb k) t
        | none => cSub (cE n C) a i) = some t := h
      split at h
      · rename_i k hk
        exact both (tabs_ok IH ok hk h)
      · exact both (subs_ok IH ok h)
    | ListComp e gens scope p =>
      have h : (if C.hot = true then none else cComp (cE n) C e scope gens) = some t := h
      split at h
      · cases h
      · rename_i hh
        exact both (comp_ok IH ns ok (by simpa using hh) h)
    | Attribute o x p =>
      have h : (match cFld C x o with | some t => some t | none => if C.hot = true then some .nil else none) = some t := h
      split at h
      · rename_i t' e'
        cases h
        exact both (fld_ok ok e')
      · split at h
        · cases h
          exact both (pe_never _)
        · cases h
    | Call g as ks p =>
      have h : (match (if C.hot = true then cHot2 (cE n C) C g as ks p else match lamOf C g as ks with
        | some z => cLam (cE n) C z.1 z.2.1 z.2.2
        | none => cCall (cE n C) C g as ks p) with
        | some t => some t
        | none => some .nil) = some t := h
      split at h
      case h_2 =>
        cases h
        exact both (pe_never _)
      rename_i t' h'
      cases h
      have h := h'
      clear h'
      split at h
      · exact both (hot2_ok IH ns ok h)
      · rename_i hh
        split at h
        · rename_i z hz
          exact both (lam_ok IH ns ok hz h)
        · exact both (calls_ok IH ns ok (by simpa using hh) h)
    | Dict keys values p => exact both (dic_ok IH ok h)
    | _ => cases h
end
end Fz

/-! Ev14: statements: how they are read, what is stored side by side. -/
namespace Fz
open PySem PySem.Spec PyProof.Rows L2

/-! ### readings of statements -/
section
variable (Φ : Fns) (Γ : List D) (τ : Tb) (W : EW) (K : PySem.W.Frag) (prot : List Nat)
def EndS (G' H' : Hp) (σD' : Sts) (σV' : L2.St) (H0 : Hp) (D : Ends) : Fl → Prop
  | .nx => D.nx σV' H'
  | .rt r => ∀ v, RV K G' H' σD' σV' H0 v r → D.rt v H'
def AfS (σD : Sts) (σV : L2.St) (G H : Hp) (q : Fl × Sts) (D : Ends) : Prop :=
  ∀ σV' G' H', S2 τ K G' H' q.2 σV' → Step σD σV G H q.2 σV' G' H' → σV'.length = σV.length → (∀ j ∈ prot, σV'[j]? = σV[j]?) → EndS K G' H' q.2 σV' H D q.1
def NSt (D : Ends) (σV : L2.St) (σD : Sts) (G H : Hp) (x : Res (Fl × Sts)) : Prop := Rn τ W σD σV H x fun q => AfS τ K prot σD σV G H q D
def tS (t : T) : TS := fun D σV H => ∃ σD G, S2 τ K G H σD σV ∧ NSt τ W K prot D σV σD G H (evS Φ Γ t σD)
def tB (t : T) : TS := fun D σV H => ∃ σD G, S2 τ K G H σD σV ∧ NSt τ W K prot D σV σD G H (evB Φ Γ t σD)
/-- slots to be: values, new lists -/
def RQ (G H : Hp) (σD : Sts) (σV : L2.St) (H0 : Hp) (v : V) : Slot → Prop
  | .no => False
  | .exc => False
  | .val d => Rp K G v d
  | .own ds => ∃ a vs, v = V.ref a ∧ H a = some (HO.lst vs) ∧ G a = none ∧ ¬ Own σD σV a ∧ ¬ St H0 a ∧ RpA K G vs ds
inductive RQs (G H : Hp) (σD : Sts) (σV : L2.St) (H0 : Hp) : List V → List Slot → Prop
  | nil : RQs G H σD σV H0 [] []
  | cons {v vs q qs} : RQ K G H σD σV H0 v q → RQs G H σD σV H0 vs qs → (∀ ds, q = .own ds → ∀ p ∈ vs.zip qs, ∀ es, p.2 = Slot.own es → p.1 ≠ v) → RQs G H σD σV H0 (v :: vs) (q :: qs)
abbrev wQ (σV : L2.St) (Q : List V → Hp → Prop) : Hp → List Slot → Sts → Hp → Hp → Prop := fun H0 qs σ' G' H' => ∀ vs, RQs K G' H' σ' σV H0 vs qs → Q vs H'
def tQ (t : T) : TA := fun σV H Q => ∃ σD G, S2 τ K G H σD σV ∧ NP τ W K σV (wQ K σV Q) σD G H (evQ Φ Γ t σD)
end

section
variable {τ : Tb} {W : EW} {prot : List Nat} {K : PySem.W.Frag} {G H G0 H0 G1 H1 : Hp} {σD σ0 σD1 : Sts} {σV σV0 σV1 : L2.St}
theorem RV.base {r : R} {v : V} (h : ∀ b, St H0 b → St H1 b) (x : RV K G H σD σV H1 v r) : RV K G H σD σV H0 v r := by
  cases r with
  | v d => exact x
  | p i => exact x
  | t ds =>
    obtain ⟨a, vs, e, h1, h2, h3, h4, h5⟩ := x
    exact ⟨a, vs, e, h1, h2, h3, fun z => h4 (h a z), h5⟩
theorem EndS.base {fl : Fl} {D : Ends} (h : ∀ b, St H0 b → St H1 b) (x : EndS K G H σD σV H0 D fl) : EndS K G H σD σV H1 D fl := by
  cases fl with
  | nx => exact x
  | rt r => exact fun v rv => x v (rv.base h)
/-- a new list through a step -/
theorem RQ.step {q : Slot} {v : V} (st : Step σD σV G H σD1 σV G1 H1) (x : RQ K G H σD σV H0 v q) : RQ K G1 H1 σD1 σV H0 v q := by
  cases q with
  | no => exact x
  | exc => exact x
  | val d => exact Rp.mono st.gm x
  | own ds =>
    obtain ⟨a, vs, e, h1, h2, h3, h4, h5⟩ := x
    exact ⟨a, vs, e, st.keep a _ h1 lst_nt h3, st.gn a h2 (St.lst h1) h3, fun o => (st.own a o).elim h3 (fun z => z (St.lst h1)), h4, h5.mono st.gm⟩
theorem RQ.base {q : Slot} {v : V} (h : ∀ b, St H0 b → St H1 b) (x : RQ K G H σD σV H1 v q) : RQ K G H σD σV H0 v q := by
  cases q with
  | no => exact x
  | exc => exact x
  | val d => exact x
  | own ds =>
    obtain ⟨a, vs, e, h1, h2, h3, h4, h5⟩ := x
    exact ⟨a, vs, e, h1, h2, h3, fun z => h4 (h a z), h5⟩
theorem RQs.base (h : ∀ b, St H0 b → St H1 b) : ∀ {vs : List V} {qs : List Slot}, RQs K G H σD σV H1 vs qs → RQs K G H σD σV H0 vs qs
  | _, _, .nil => .nil
  | _, _, .cons a b n => .cons (a.base h) (b.base h) n
theorem RQs.apart {a : Addr} (h : St H0 a) : ∀ {vs : List V} {qs : List Slot}, RQs K G H σD σV H0 vs qs → ∀ p ∈ vs.zip qs, ∀ es, p.2 = Slot.own es → p.1 ≠ V.ref a
  | _, _, .nil, p, hp, _, _ => by cases hp
  | _, _, .cons (v := v) (q := q) x b n, p, hp, es, e => by
    rcases List.mem_cons.mp hp with rfl | hp
    · simp only at e
      subst e
      obtain ⟨b, us2, z1, z2, z3, z4, z5, z6⟩ := x
      intro z
      rw [z1] at z
      cases z
      exact z5 h
    · exact b.apart h p hp es e
theorem quar_ok {r : R} {v : V} (S : S2 τ K G H σD σV) (x : RV K G H σD σV H0 v r) :
    ∃ G', S2 τ K G' H (quar σD r).2 σV ∧ Step σD σV G H (quar σD r).2 σV G' H ∧ RQ K G' H (quar σD r).2 σV H0 v (quar σD r).1 ∧ Held σD (quar σD r).2 := by
  cases r with
  | t ds => exact ⟨G, S, Step.rfl', x, Held.rfl'⟩
  | v d => exact ⟨G, S, Step.rfl', x, Held.rfl'⟩
  | p i =>
    obtain ⟨G', h1, h2, h3, h4, h5⟩ := frz_ok S (Step.rfl' (σD := σD) (σV := σV) (G := G) (H := H)) (show RV K G H σD σV H v (.p i) from x)
    exact ⟨G', h1, h2, h4, h5⟩
theorem up_Q {Q : List V → Hp → Prop} : Up (wQ K σV Q) := fun _ _ _ _ _ _ hd h vs rq => h vs (rq.base hd)
abbrev kQ {Q : List V → Hp → Prop} : Cont τ W σV (NP τ W K σV (wQ K σV Q)) := cont_NP up_Q
/-- one statement behind another -/
theorem AfS.then {σ1 : Sts} {q : Fl × Sts} {D : Ends} (h : AfS τ K prot σD σV G H q D) (st : Step σD σV G H σ1 σV1 G1 H1) (hl : σV1.length = σV.length) (hp : ∀ j ∈ prot, σV1[j]? = σV[j]?) : AfS τ K prot σ1 σV1 G1 H1 q D :=
  fun σV2 G2 H2 S2' st2 l2 p2 => (h σV2 G2 H2 S2' (st.trans st2) (l2.trans hl) fun j hj => (p2 j hj).trans (hp j hj)).base st.dom
theorem NSt.then {σ1 : Sts} {x : Res (Fl × Sts)} {D : Ends} (h : NSt τ W K prot D σV σD G H x) (st : Step σD σV G H σ1 σV1 G1 H1) (hl : σV1.length = σV.length) (hp : ∀ j ∈ prot, σV1[j]? = σV[j]?) : NSt τ W K prot D σV1 σ1 G1 H1 x :=
  Rn.shift st h fun q a => a.then st hl hp
theorem kS {D : Ends} : Cont τ W σV (NSt τ W K prot D σV) where
  bind := fun h => Rn.bind h
  shift := fun st _ h => h.then st rfl fun _ _ => rfl
end

section
variable {Φ : Fns} {Γ : List D} {τ : Tb} {W : EW} {X : Cx} {C : CC} {e a b c : Expr} {es : List Expr} {t ta tb tc : T} {pos : Pos} {f : CC → Expr → Option T}
theorem quars_ok (IH : SE Φ Γ τ f) (ns : NS f) (ok : CtxOk Φ Γ τ W C X) : ∀ {es : List Expr} {t : T}, cL (f C) es = some t → PA X es (tQ Φ Γ τ W X.K t)
  | [], t, h => by
    cases h
    exact ⟨fun pos pins s σ H Q I ⟨σD, G, S, h⟩ => pa_nil.run pos pins s σ H Q I (NP.fin S h _ .nil)⟩
  | e :: es, t, h => by
    obtain ⟨ta, e1, h⟩ := Option.bind_eq_some_iff.mp h
    obtain ⟨tr, e2, h⟩ := Option.map_eq_some_iff.mp h
    subst h
    have he : ∀ x p, e ≠ .Starred x p := fun x p z => by rw [z, ns] at e1; cases e1
    refine ⟨fun pos pins s σ H Q I ⟨σD, G, S, h⟩ => (pa_cons (IH W C X e ta e1 ok).1 (quars_ok IH ns ok e2) (starE he)).run pos pins s σ H Q I ⟨σD, G, S, (kQ.bind h).mono fun x f1 n G1 H1 S1 st1 hd1 v rv => ?_⟩⟩
    obtain ⟨G2, S2', st2, rq, hd2⟩ := quar_ok S1 rv
    refine ⟨_, G2, S2', Rn.shift (st1.trans st2) (Rn.bind n) fun y n G3 H3 S3 st3 hd3 vs rqs => ?_⟩
    refine n G3 H3 S3 ((st1.trans st2).trans st3) ((hd1.trans hd2).trans hd3) _ (.cons (rq.step st3) (rqs.base st1.dom) fun ds z p hp es hp2 => ?_)
    rw [z] at rq
    obtain ⟨a, us, rfl, h1, h2, h3, h4, h5⟩ := rq
    exact rqs.apart (St.lst h1) p hp es hp2
end

/-! ### stored side by side -/
def setV : List (Nat × V) → L2.St → L2.St
  | [], σ => σ
  | p :: r, σ => setV r (σ.set p.1 (some p.2))
theorem binds_ok {X : Cx} {E : Value → Shared → Prop} {pins : List (Addr × Obj)} {H : Hp} (hN : X.N.Nodup) : ∀ (ls : List (Nat × Str × V × Value)) {σ : L2.St} {s : Shared} {Q : Unit → Shared → Prop},
    (∀ l ∈ ls, X.N[l.1]? = some l.2.1 ∧ X.env.scope.names.lookup l.2.1 = some .local ∧ RelV l.2.2.1 l.2.2.2) → Inv X pins σ H s → (∀ s', Inv X pins (setV (ls.map fun l => (l.1, l.2.2.1)) σ) H s' → Q () s') →
    wpAny (model X.prog X.w) X.A (assignInOrder ((ls.map fun l => l.2.1).map fun n => bindName X.env n) (ls.map fun l => l.2.2.2)) Q E s
  | [], σ, s, Q, _, I, h => assignInOrder_nil (h s I)
  | l :: ls, σ, s, Q, hl, I, h => by
    obtain ⟨h1, h2, h3⟩ := hl l List.mem_cons_self
    exact assignInOrder_cons (wpAny_bindName (store_ok I hN h1 (.inl h2) h3 (fun s2 I2 => binds_ok hN ls (fun l' hl' => hl l' (List.mem_cons_of_mem _ hl')) I2 h) (.inr h2)))
def tParN (is : List Nat) (ta : TA) : TS := fun D σ H => ta σ H fun vs H1 => vs.length = is.length ∧ D.nx (setV (is.zip vs).reverse σ) H1
theorem vals_len {vs : List V} {us : List Value} (r : Vals vs us) : vs.length = us.length := r.length
theorem vals_zip {vs : List V} {us : List Value} (r : Vals vs us) : ∀ p ∈ vs.zip us, RelV p.1 p.2 := by
  induction r with
  | nil => intro p hp; cases hp
  | cons a b ih =>
    intro p hp
    rcases List.mem_cons.mp hp with rfl | hp
    · exact a
    · exact ih p hp
theorem quad_zip {α β γ δ : Type} {as : List α} {bs : List β} {cs : List γ} {ds : List δ} (h1 : bs.length = as.length) (h2 : cs.length = as.length) (h3 : ds.length = as.length) :
    (as.zip (bs.zip (cs.zip ds))).map (fun l => l.2.1) = bs ∧ (as.zip (bs.zip (cs.zip ds))).map (fun l => l.2.2.2) = ds ∧ (as.zip (bs.zip (cs.zip ds))).map (fun l => (l.1, l.2.2.1)) = as.zip cs ∧ ∀ l ∈ as.zip (bs.zip (cs.zip ds)), (l.1, l.2.1) ∈ as.zip bs ∧ (l.2.2.1, l.2.2.2) ∈ cs.zip ds := by
  induction as generalizing bs cs ds with
  | nil =>
    cases bs with
    | nil => cases cs with
      | nil => cases ds with
        | nil => exact ⟨rfl, rfl, rfl, fun l hl => by cases hl⟩
        | cons _ _ => cases h3
      | cons _ _ => cases h2
    | cons _ _ => cases h1
  | cons a as ih =>
    cases bs with
    | nil => cases h1
    | cons b bs => cases cs with
      | nil => cases h2
      | cons c cs => cases ds with
        | nil => cases h3
        | cons d ds =>
          obtain ⟨i1, i2, i3, i4⟩ := ih (bs := bs) (cs := cs) (ds := ds) (by simpa using h1) (by simpa using h2) (by simpa using h3)
          refine ⟨by simp only [List.zip_cons_cons, List.map_cons, i1], by simp only [List.zip_cons_cons, List.map_cons, i2], by simp only [List.zip_cons_cons, List.map_cons, i3], fun l hl => ?_⟩
          rcases List.mem_cons.mp hl with rfl | hl
          · exact ⟨List.mem_cons_self, List.mem_cons_self⟩
          · obtain ⟨j1, j2⟩ := i4 l hl
            exact ⟨List.mem_cons_of_mem _ j1, List.mem_cons_of_mem _ j2⟩
theorem ps_parN {X : Cx} {pos : Pos} {ns : List Str} {is : List Nat} {tgts es : List Expr} {ta : TA} {pt : Pos} {kt k2 pt2} (hc : X.calm = true) (hN : X.N.Nodup) (hl : ns.length = is.length) (hz : ns.length ≤ sizeLine)
    (hi : ∀ p ∈ is.zip ns, X.N[p.1]? = some p.2 ∧ X.env.scope.names.lookup p.2 = some .local) (ha : PA X es ta)
    (hw : swappedStores [.Tuple tgts kt pt] (.Tuple es k2 pt2) X.env = pure (some ns))
    (hs : swapsWithSole [.Tuple tgts kt pt] (.Tuple es k2 pt2) pos.line X.env = pure false := by rfl) :
    PS X (.Assign [.Tuple tgts kt pt] (.Tuple es k2 pt2) pos) (tParN is ta) := by
  refine ⟨fun pins s σ H D I h => ?_⟩
  rw [exec_Assign_arm]
  refine wpAny_bind (wpAny_standAt ?_)
  rw [hs]
  refine wpAny_bind (wpAny_pure ?_)
  rw [if_neg (by decide)]
  refine wpAny_bind (Tuple_ (thn (ha.run _ pins s σ H _ I h) fun us s1 ⟨vs, H1, I1, r1, q0, q1⟩ => ?_))
  have hlu : us.length = ns.length := by rw [← vals_len r1, q0, hl]
  refine wpAny_newObj_type ?_ (by show us.toArray.size ≤ sizeLine; rw [List.size_toArray, hlu]; exact hz)
  have I2 : Inv X pins σ H1 { s1 with heap := s1.heap.push { cls := .type "tuple", data := .seq us.toArray } } := I1.kept (t' := s1.toks) fun b o e => Heap.get?_push_of_some _ e
  rw [hw]
  refine wpAny_bind (wpAny_pure ?_)
  show wpAny (model X.prog X.w) X.A (do rule "assign.swapped-stores"; let items ← unpackItems (.ref s1.heap.objs.size) ns.length none; assignInOrder (ns.reverse.map fun n => bindName X.env n) items.reverse; pure Flow.next) _ _ _
  have hsz : ns.length = us.toArray.size := by rw [List.size_toArray, hlu]
  rw [hsz]
  refine wpAny_bind (wpAny_rule (wpAny_bind (unpackItems_tuple (items := us.toArray) (I.ok.hd hc) (IsTup.new s1.heap _) fun h' hx' => ?_)))
  have I3 := I2.kept (h' := h') (t' := s1.toks) fun b o e => hx' b o (Nat.ne_of_lt (Heap.lt_size e)) e
  obtain ⟨m1, m2, m3, m4⟩ := quad_zip (as := is) (bs := ns) (cs := vs) (ds := us) hl q0 (by rw [hlu, hl])
  have hb := binds_ok (X := X) (E := X.xe) hN (is.zip (ns.zip (vs.zip us))).reverse (σ := σ) (s := { s1 with heap := h' }) (Q := fun _ s' => SP X pins D .next s')
    (fun l hl' => by
      obtain ⟨j1, j2⟩ := m4 l (List.mem_reverse.mp hl')
      obtain ⟨k1, k2⟩ := hi _ j1
      exact ⟨k1, k2, vals_zip r1 _ j2⟩) I3 (fun s' I' => ⟨_, H1, I', by rw [List.map_reverse, m3]; exact q1⟩)
  rw [List.map_reverse, List.map_reverse, List.map_reverse, m1, m2, ← List.map_reverse] at hb
  exact wpAny_bind (thn hb fun _ s' hq => wpAny_pure hq)

section
variable {τ : Tb} {K : PySem.W.Frag} {G H G0 H0 : Hp} {σD σ0 : Sts} {σV σV0 : L2.St}
theorem setQ_ok : ∀ (ls : List (Nat × V × Slot)) {σD σ2 : Sts} {σV : L2.St}, S2 τ K G H σD σV → Step σ0 σV0 G0 H0 σD σV G H → (∀ l ∈ ls, RQ K G H σD σV H0 l.2.1 l.2.2) →
    ls.Pairwise (fun l m => ∀ ds es, l.2.2 = Slot.own ds → m.2.2 = Slot.own es → l.2.1 ≠ m.2.1) → setQ (ls.map fun l => l.1) (ls.map fun l => l.2.2) σD = .ok σ2 →
    S2 τ K G H σ2 (setV (ls.map fun l => (l.1, l.2.1)) σV) ∧ Step σ0 σV0 G0 H0 σ2 (setV (ls.map fun l => (l.1, l.2.1)) σV) G H ∧ (setV (ls.map fun l => (l.1, l.2.1)) σV).length = σV.length ∧ ∀ j, j ∉ ls.map (fun l => l.1) → (setV (ls.map fun l => (l.1, l.2.1)) σV)[j]? = σV[j]? := by
  intro ls
  induction ls with
  | nil =>
    intro σD σ2 σV S st _ _ e
    cases e
    exact ⟨S, st, rfl, fun _ _ => rfl⟩
  | cons l ls ih =>
    intro σD σ2 σV S st hq hp e
    obtain ⟨i, v, q⟩ := l
    simp only [List.map_cons, setQ] at e
    split at e
    case isFalse => cases e
    rename_i hi
    obtain ⟨p1, p2⟩ := List.pairwise_cons.mp hp
    have hq0 := hq _ List.mem_cons_self
    cases q with
    | no => exact hq0.elim
    | exc => exact hq0.elim
    | val d =>
      obtain ⟨S', st'⟩ := set_val (i := i) S hi hq0
      have hq' : ∀ l ∈ ls, RQ K G H (σD.set i (.val d)) (σV.set i (some v)) H0 l.2.1 l.2.2 := fun l hl => by
        have := hq l (List.mem_cons_of_mem _ hl)
        revert this
        cases l.2.2 with
        | no => exact id
        | exc => exact id
        | val d => exact id
        | own ds =>
          rintro ⟨a, us, z1, z2, z3, z4, z5, z6⟩
          refine ⟨a, us, z1, z2, z3, fun o => ?_, z5, z6⟩
          rcases st'.own a o with o | o
          · exact z4 o
          · exact o (St.lst z2)
      obtain ⟨a1, a2, a3, a4⟩ := ih S' (st.trans st') hq' p2 e
      refine ⟨a1, a2, a3.trans List.length_set, fun j hj => ?_⟩
      rw [List.map_cons, List.mem_cons, not_or] at hj
      rw [List.map_cons]
      exact (a4 j hj.2).trans (List.getElem?_set_ne (Ne.symm hj.1))
    | own ds =>
      obtain ⟨a, us, rfl, z2, z3, z4, z5, z6⟩ := hq0
      obtain ⟨S', st'⟩ := set_own (i := i) S st hi z2 z3 z4 z5 z6
      have hiV : i < σV.length := by rw [← S.len]; exact hi
      have hq' : ∀ l ∈ ls, RQ K G H (σD.set i (.own ds)) (σV.set i (some (.ref a))) H0 l.2.1 l.2.2 := fun l hl => by
        have h1 := hq l (List.mem_cons_of_mem _ hl)
        have h2 := p1 l hl ds
        revert h1 h2
        cases l.2.2 with
        | no => exact fun h _ => h
        | exc => exact fun h _ => h
        | val d => exact fun h _ => h
        | own es =>
          rintro ⟨b, us2, w1, w2, w3, w4, w5, w6⟩ h2
          refine ⟨b, us2, w1, w2, w3, fun o => ?_, w5, w6⟩
          obtain ⟨j, fs, g1, g2⟩ := o
          rcases set_cases g1 with ⟨rfl, _, _⟩ | ⟨hj, g1⟩
          · rw [List.getElem?_set_self hiV] at g2
            cases g2
            exact h2 es rfl rfl w1.symm
          · rw [List.getElem?_set_ne (Ne.symm hj)] at g2
            exact w4 ⟨j, fs, g1, g2⟩
      obtain ⟨a1, a2, a3, a4⟩ := ih S' st' hq' p2 e
      refine ⟨a1, a2, a3.trans List.length_set, fun j hj => ?_⟩
      rw [List.map_cons, List.mem_cons, not_or] at hj
      rw [List.map_cons]
      exact (a4 j hj.2).trans (List.getElem?_set_ne (Ne.symm hj.1))
theorem RQs.all {H1 : Hp} : ∀ {vs : List V} {qs : List Slot}, RQs K G H σD σV H1 vs qs → vs.length = qs.length ∧ (∀ p ∈ vs.zip qs, RQ K G H σD σV H1 p.1 p.2) ∧ (vs.zip qs).Pairwise (fun l m => ∀ ds es, l.2 = Slot.own ds → m.2 = Slot.own es → l.1 ≠ m.1)
  | _, _, .nil => ⟨rfl, (fun p hp => by cases hp), List.Pairwise.nil⟩
  | _, _, .cons a b n => by
    obtain ⟨h1, h2, h3⟩ := b.all
    refine ⟨by rw [List.length_cons, List.length_cons, h1], fun p hp => ?_, List.pairwise_cons.mpr ⟨fun p hp ds es e1 e2 z => n ds e1 p hp es e2 z.symm, h3⟩⟩
    rcases List.mem_cons.mp hp with rfl | hp
    · exact a
    · exact h2 p hp
theorem tri_zip {α β γ : Type} : ∀ {as : List α} {bs : List β} {cs : List γ}, bs.length = as.length → cs.length = as.length →
    (as.zip (bs.zip cs)).map (fun l => l.1) = as ∧ (as.zip (bs.zip cs)).map (fun l => l.2.2) = cs ∧ (as.zip (bs.zip cs)).map (fun l => (l.1, l.2.1)) = as.zip bs ∧ (as.zip (bs.zip cs)).map (fun l => l.2) = bs.zip cs
  | [], [], [], _, _ => ⟨rfl, rfl, rfl, rfl⟩
  | [], _ :: _, _, h, _ => by cases h
  | [], [], _ :: _, _, h => by cases h
  | _ :: _, [], _, h, _ => by cases h
  | _ :: _, _ :: _, [], _, h => by cases h
  | a :: as, b :: bs, c :: cs, h1, h2 => by
    obtain ⟨i1, i2, i3, i4⟩ := tri_zip (as := as) (bs := bs) (cs := cs) (by simpa using h1) (by simpa using h2)
    exact ⟨by simp only [List.zip_cons_cons, List.map_cons, i1], by simp only [List.zip_cons_cons, List.map_cons, i2], by simp only [List.zip_cons_cons, List.map_cons, i3], by simp only [List.zip_cons_cons, List.map_cons, i4]⟩
theorem setQ_len : ∀ {is : List Nat} {qs : List Slot} {σ σ2 : Sts}, setQ is qs σ = .ok σ2 → qs.length = is.length
  | [], [], _, _, _ => rfl
  | [], _ :: _, _, _, h => by cases h
  | _ :: _, [], _, _, h => by cases h
  | i :: is, q :: qs, σ, σ2, h => by
    simp only [setQ] at h
    split at h
    · rw [List.length_cons, List.length_cons, setQ_len h]
    · cases h
end
section
variable {Φ : Fns} {Γ : List D} {τ : Tb} {W : EW} {X : Cx} {t : T} {prot is : List Nat}
theorem par_read (hp : ∀ j ∈ prot, j ∉ is) {D : Ends} {σ : L2.St} {H : Hp} (h : tS Φ Γ τ W X.K prot (.par is t) D σ H) : tParN is (tQ Φ Γ τ W X.K t) D σ H := by
  obtain ⟨σD, G, S, h⟩ := h
  simp only [evS] at h
  refine ⟨σD, G, S, (kS.bind h).mono fun w e1 n G' H' S' st hd vs rq => ?_⟩
  obtain ⟨σ2, e2, af⟩ := kS.ok n (setQ_nx _ _ _)
  obtain ⟨a1, a2, a3⟩ := rq.all
  have hl := setQ_len e2
  rw [List.length_reverse, List.length_reverse] at hl
  obtain ⟨t1, t2, t3, t4⟩ := tri_zip (as := is) (bs := vs) (cs := w.1) (by omega) hl
  refine ⟨by omega, ?_⟩
  have := setQ_ok (K := X.K) (G := G') (H := H') (ls := (is.zip (vs.zip w.1)).reverse) S' st (fun l hl => a2 l.2 (by rw [← t4]; exact List.mem_map_of_mem (List.mem_reverse.mp hl))) ?_ (by rw [List.map_reverse, List.map_reverse, t1, t2]; exact e2)
  · rw [List.map_reverse, List.map_reverse, t3, t1] at this
    obtain ⟨b1, b2, b3, b4⟩ := this
    exact af _ _ _ b1 b2 b3 fun j hj => b4 j fun z => hp j hj (List.mem_reverse.mp z)
  · rw [List.pairwise_reverse]
    rw [← t4, List.pairwise_map] at a3
    exact a3.imp fun {x y} h ds es e1 e2 z => h es ds e2 e1 z.symm
/-! a tuple taken apart into names -/
def gNames (is : List Nat) : TGs := fun vs σ H Q => vs.length = is.length ∧ Q (setV (is.zip vs) σ) H
theorem unp_read {n : Nat} (hn : is.length = n) (hz : n ≤ sizeLine) (hp : ∀ j ∈ prot, j ∉ is) {D : Ends} {σ : L2.St} {H : Hp} (h : tS Φ Γ τ W X.K prot (.unp is t) D σ H) : tAsg (tTup (tQ Φ Γ τ W X.K t)) (gTup X.K n (gNames is)) D σ H := by
  obtain ⟨σD, G, S, h⟩ := h
  simp only [evS] at h
  refine ⟨σD, G, S, (kS.bind h).mono fun w e1 n G' H' S' st hd vs rq => ?_⟩
  obtain ⟨σ2, e2, af⟩ := kS.ok n (setQ_nx _ _ _)
  obtain ⟨a1, a2, a3⟩ := rq.all
  have hl := setQ_len e2
  obtain ⟨t1, t2, t3, t4⟩ := tri_zip (as := is) (bs := vs) (cs := w.1) (by omega) hl
  refine ⟨by omega, fun p hp0 => ⟨p, vs, rfl, .inl (.inl upd_same), by omega, by omega, ?_⟩⟩
  obtain ⟨S3, st3⟩ := S'.ext (Ext.laidH S'.sub (o := .tup vs) hp0)
  have := setQ_ok (K := X.K) (G := G') (H := upd H' p (.tup vs)) (ls := is.zip (vs.zip w.1)) S3 (st.trans st3) (fun l hl => (a2 l.2 (by rw [← t4]; exact List.mem_map_of_mem hl)).step st3) ?_ (by rw [t1, t2]; exact e2)
  · rw [t3, t1] at this
    obtain ⟨b1, b2, b3, b4⟩ := this
    exact af _ _ _ b1 b2 b3 fun j hj => b4 j fun z => hp j hj z
  · rw [← t4, List.pairwise_map] at a3
    exact a3
end
end Fz

/-! Ev15: statements as terms (cS); each tells what its text does. -/
namespace Fz
open PySem PySem.Spec PyProof.Rows L2

/-! ### the terms -/
/-- which names are stored side by side (as swappedStores asks) -/
def swapOf (sc : Scope) (ts vs : List Expr) : Option (Option (List Str)) :=
  if (!(ts.length == 2 || ts.length == 3) || vs.length != ts.length) = true then some none
  else if (vs.any fun | .Starred .. => true | _ => false) = true then some none
  else
    let line := (ts.head?.map (·.pos.line)).getD 0
    let names := ts.filterMap fun
      | .Name id pos => if sc.names.lookup id == some .local && pos.line == line then some id else none
      | _ => none
    if (names.length != ts.length || names.eraseDups.length != names.length) = true then some none
    else if vs.all (foldedForSure 8) = true then some none
    else if vs.all (constantsAlone 8) = true then none
    else some (some names)
/-- whether a list is stored before its comprehension's names are let go -/
def swB (sc : Scope) (x : Str) (p : Pos) : Expr → Option Bool
  | .ListComp _ _ s q => some (sc.names.lookup x == some .local && p.line == q.line && !(s.names.any fun (n, k) => n == x && (k == .local || k == .cell)))
  | .SetComp .. => none
  | .DictComp .. => none
  | _ => some false
def namesOf : List Expr → Option (List Str)
  | [] => some []
  | .Name x _ :: r => (namesOf r).map (x :: ·)
  | _ :: _ => none
def isLst : Expr → Bool
  | .List .. => true
  | _ => false
def cTo (f : CC → Expr → Option T) (C : CC) (ts : List Expr) (tp : Nat) (tpos : Pos) (e : Expr) : Option T :=
  match e with
  | .Tuple vs _ _ => match swapOf C.sc ts vs with
    | some (some ns) => (ns.mapM (ixOf C.N)).bind fun is => if (is.all fun i => decide (i ∉ C.prot)) = true ∧ (ns.all fun x => C.sc.names.lookup x == some .local) = true ∧ ns.length ≤ 3 then (cL (f C) vs).map (.par is) else none
    | some none => if vs.any isLst = true then (match namesOf ts with
        | some ns => (ns.mapM (ixOf C.N)).bind fun is => if (is.all fun i => decide (i ∉ C.prot)) = true ∧ (ns.all fun x => locB C x) = true ∧ ns.length ≤ 3 then (cL (f C) vs).map (.unp is) else none
        | none => none) else (cTgt 5 C (.Tuple ts tp tpos)).bind fun g => (f C e).map (.asg g)
    | none => none
  | _ => (cTgt 5 C (.Tuple ts tp tpos)).bind fun g => (f C e).map (.asg g)
def cAsg (f : CC → Expr → Option T) (C : CC) (pos : Pos) (e : Expr) : Expr → Option T
  | .Name x p => match swB C.sc x p e with
    | some _ => (cTgt 5 C (.Name x p)).bind fun g => (f C e).map (.asg g)
    | none => none
  | .Subscript (.Name x _) i _ => if visB C.sc x = true ∧ oddName x = false then (match i with
      | .Slice .. => none
      | _ => (ixOf C.N x).bind fun k => (f C i).bind fun ti => (f C e).map (.sti k ti)) else none
  | .Tuple ts k p => if C.hot = true then none else cTo f C ts k p e
  | _ => none
def cDrop (f : CC → Expr → Option T) (C : CC) : Expr → Option T
  | .Constant (.str s) _ _ => some (.drp (.str s))
  | .Call (.Attribute (.Name x p) m apos) [a] [] cpos =>
    if m = "append" then (if (apos.endLine == cpos.line) = true ∧ visB C.sc x = true ∧ oddName x = false then (ixOf C.N x).bind fun i => (f C a).map (.app i) else none)
    else if m = "extend" then (if (apos.endLine == cpos.line) = true ∧ visB C.sc x = true ∧ oddName x = false then (ixOf C.N x).bind fun i => (f C a).map (.ext i) else none)
    else (f C (.Call (.Attribute (.Name x p) m apos) [a] [] cpos)).map .drp
  | .Call g as ks p => (f C (.Call g as ks p)).map .drp
  | _ => none
def cB (f : Stmt → Option T) : List Stmt → Option T
  | [] => some .nil
  | s :: r => (f s).bind fun t => (cB f r).map (.cons t)
def cS1 (f : CC → Expr → Option T) (g : CC → Stmt → Option T) (C : CC) : Stmt → Option T
  | .Return (some e) _ => (f C e).map .ret
  | .Return none _ => some (.ret .non)
  | .Pass _ => some (.drp .non)
  | .Assign [t] e pos => cAsg f C pos e t
  | .Expr e _ => cDrop f C e
  | .If c a b _ => (f C c).bind fun tc => (cB (g C) a).bind fun ta => (cB (g C) b).map (.iff tc ta)
  | .For t it b [] _ => if C.hot = true then none else (cIter (f C) C t it).bind fun ti => (cTgt 5 C t).bind fun tg => (cB (g C) b).map (.forr tg ti)
  | .While c b [] _ => (f C c).bind fun tc => (cB (g C) b).map (.whl tc)
  | .Raise (some (.Call (.Name x _) as [] _)) none _ => if x ∈ C.exs ∧ gloB C.sc x = true ∧ oddName x = false ∧ as.isEmpty = true ∧ C.hot = false then some (.rse x .nil) else (match as with
      | [e] => if x ∈ C.exa ∧ gloB C.sc x = true ∧ oddName x = false ∧ C.hot = false then (cL (f C) [e]).map (.rse x) else some (.drp .nil)
      | _ => some (.drp .nil))
  | .Raise _ _ _ => some (.drp .nil)
  | _ => none
def cS : Nat → CC → Stmt → Option T
  | 0, _, _ => none
  | n + 1, C, s => cS1 (cE 40) (cS n) C s

/-! ### what they tell -/
section
variable (Φ : Fns) (Γ : List D)
def SS (τ : Tb) (g : CC → Stmt → Option T) : Prop := ∀ W C X st t, g C st = some t → CtxOk Φ Γ τ W C X → C.blk = none → C.sc.kind = .function → PS X st (tS Φ Γ τ W X.K C.prot t)
end
section
variable {Φ : Fns} {Γ : List D} {τ : Tb} {W : EW} {X : Cx} {C : CC} {e a b c : Expr} {es : List Expr} {t ta tb tc : T} {pos : Pos} {f : CC → Expr → Option T} {st : Stmt} {K : PySem.W.Frag} {prot : List Nat}
theorem ps_imp {te te' : TS} (h : PS X st te) (hi : ∀ D σ H, te' D σ H → te D σ H) : PS X st te' := ⟨fun pins s σ H D I q => h.run pins s σ H D I (hi _ _ _ q)⟩
theorem pss_imp {sts : List Stmt} {te te' : TS} (h : PSs X sts te) (hi : ∀ D σ H, te' D σ H → te D σ H) : PSs X sts te' := ⟨fun pins s σ H D I q => h.run pins s σ H D I (hi _ _ _ q)⟩
theorem sw_false {x : Str} {p : Pos} (hsc : X.env.scope = C.sc) (hk : C.sc.kind = .function) {w : Bool} (h : swB C.sc x p e = some w) (l : Nat) : swapsWith e (some (.Name x p)) l X.env = pure w := by
  have hb : X.env.blockKind = .function := by unfold Env.blockKind; rw [hsc, hk]; rfl
  have ky : ∀ x, X.env.kindOf x = C.sc.names.lookup x := fun x => by unfold Env.kindOf; rw [hsc]
  cases e <;> first | (cases h; done) | (cases h; rfl)
                    | (unfold swB at h; cases h; unfold swapsWith; simp only [hb, ky, Expr.pos]; rfl)
theorem swap_of {ts vs : List Expr} {k k2 : Nat} {p p2 : Pos} {o : Option (List Str)} (hsc : X.env.scope = C.sc) (hk : C.sc.kind = .function) (h : swapOf C.sc ts vs = some o) : swappedStores [.Tuple ts k p] (.Tuple vs k2 p2) X.env = pure o := by
  have hb : X.env.blockKind = .function := by unfold Env.blockKind; rw [hsc, hk]; rfl
  have ky : ∀ x, X.env.kindOf x = C.sc.names.lookup x := fun x => by unfold Env.kindOf; rw [hsc]
  have hb2 : (X.env.blockKind != .function) = false := by rw [hb]; rfl
  unfold swapOf at h
  unfold swappedStores
  simp only [hb2, ky, Bool.or_false]
  split at h
  · rename_i h1
    cases h
    exact Eq.trans (if_pos h1) rfl
  · rename_i h1
    refine Eq.trans (if_neg h1) ?_
    split at h
    · rename_i h2
      cases h
      exact Eq.trans (if_pos h2) rfl
    · rename_i h2
      refine Eq.trans (if_neg h2) ?_
      dsimp only at h
      split at h
      · rename_i h3
        cases h
        exact Eq.trans (if_pos h3) rfl
      · rename_i h3
        refine Eq.trans (if_neg h3) ?_
        split at h
        · rename_i h4
          cases h
          exact Eq.trans (if_pos h4) rfl
        · rename_i h4
          refine Eq.trans (if_neg h4) ?_
          split at h
          · cases h
          · rename_i h5
            refine Eq.trans (if_neg h5) ?_
            cases h
            rfl
end
end Fz

/-! Ev16: every statement. -/
namespace Fz
open PySem PySem.Spec PyProof.Rows L2
section
variable {Φ : Fns} {Γ : List D} {τ : Tb} {W : EW} {X : Cx} {C : CC} {e a b c : Expr} {es : List Expr} {t ta tb tc : T} {pos : Pos} {f : CC → Expr → Option T} {st : Stmt} {K : PySem.W.Frag} {prot : List Nat}
theorem blocks_ok {g : CC → Stmt → Option T} (IH : SS Φ Γ τ g) (ok : CtxOk Φ Γ τ W C X) (hb : C.blk = none) (hk : C.sc.kind = .function) : ∀ {sts : List Stmt} {t : T}, cB (g C) sts = some t → PSs X sts (tB Φ Γ τ W X.K C.prot t)
  | [], t, h => by
    cases h
    exact pss_imp pss_nil fun D σ H ⟨σD, G, S, h⟩ => h σ G H S Step.rfl' rfl fun _ _ => rfl
  | s :: r, t, h => by
    obtain ⟨t1, e1, h⟩ := Option.bind_eq_some_iff.mp h
    obtain ⟨t2, e2, h⟩ := Option.map_eq_some_iff.mp h
    subst h
    refine pss_imp (pss_cons (IH W C X s t1 e1 ok hb hk) (blocks_ok IH ok hb hk e2)) fun D σ H ⟨σD, G, S, h⟩ => ?_
    simp only [evB] at h
    refine ⟨σD, G, S, (Rn.bind h).mono fun q1 f1 n σ1 G1 H1 S1 st1 l1 p1 => ?_⟩
    obtain ⟨fl, σ2⟩ := q1
    cases fl with
    | nx => exact ⟨σ2, G1, S1, NSt.then n st1 l1 p1⟩
    | rt r => exact n σ1 G1 H1 S1 st1 l1 p1
/-- a name takes what an expression gives -/
theorem asgName_read {i : Nat} (hp : i ∉ prot) {D : Ends} {σ : L2.St} {H : Hp} (h : tS Φ Γ τ W K prot (.asg (.gn i) t) D σ H) : tAsg (tE Φ Γ τ W K t) (gName i) D σ H := by
  obtain ⟨σD, G, S, h⟩ := h
  simp only [evS] at h
  refine ⟨σD, G, S, (kS.bind h).mono fun x e1 n G1 H1 S1 st1 hd1 v rv => ?_⟩
  obtain ⟨σ2, e2, af⟩ := kS.ok n (stR_nx _ _ _)
  simp only [stR] at e2
  split at e2
  case isFalse => cases e2
  rename_i hi
  cases e2
  have fin : ∀ {σ2 : Sts} {G2 H2 : Hp}, S2 τ K G2 H2 σ2 (σ.set i (some v)) → Step σD σ G H σ2 (σ.set i (some v)) G2 H2 → σ2 = storeR x.2 i x.1 → D.nx (σ.set i (some v)) H2 := fun {σ2 G2 H2} S2' st2 e => by
    subst e
    exact af _ G2 H2 S2' st2 List.length_set fun j hj => List.getElem?_set_ne fun z => hp (by rw [z]; exact hj)
  cases hx : x.1 with
  | v d =>
    rw [hx] at rv fin
    obtain ⟨S2', st2⟩ := set_val (i := i) S1 hi (rv : Rp K G1 v d)
    exact fin S2' (st1.trans st2) rfl
  | t ds =>
    rw [hx] at rv fin
    obtain ⟨a, vs, rfl, h1, h2, h3, h4, h5⟩ := rv
    obtain ⟨S2', st2⟩ := set_own (i := i) S1 st1 hi h1 h2 h3 h4 h5
    exact fin S2' st2 rfl
  | p j =>
    rw [hx] at fin
    obtain ⟨G2, S2', st2, su, rp, hd2⟩ := frz_ok S1 st1 rv
    rw [hx] at S2' st2 rp hd2
    obtain ⟨S3, st3⟩ := set_val (i := i) S2' (by rw [hd2.1]; exact hi) rp
    exact fin S3 (st2.trans st3) rfl
/-- a target takes what an expression gives -/
theorem asgTup_read {gs : T} (hp : ∀ j ∈ prot, j ∉ tgS gs) {D : Ends} {σ : L2.St} {H : Hp} (h : tS Φ Γ τ W K prot (.asg (.gt gs) t) D σ H) : tAsg (tE Φ Γ τ W K t) (tG τ K (.gt gs)) D σ H := by
  obtain ⟨σD, G, S, h⟩ := h
  simp only [evS] at h
  refine one_frz kS S h fun x e1 G1 H1 S1 st1 hd1 h v rp => ?_
  obtain ⟨σ2, e2, af⟩ := kS.ok h (stR_nx _ _ _)
  exact ⟨_, G1, _, σ2, S1, rp, e2, fun σ' S2' st2 l2 p2 => af σ' G1 H1 S2' st2 l2 fun j hj => p2 j (hp j hj)⟩
theorem tgt_prot : ∀ (n : Nat) {e : Expr} {g : T}, cTgt n C e = some g → ∀ j ∈ C.prot, j ∉ tgS g := by
  intro n
  induction n with
  | zero => intro e g h; cases h
  | succ n ih =>
    intro e g h
    cases e with
    | Name x p =>
      simp only [cTgt] at h
      split at h
      · obtain ⟨i, e1, h⟩ := Option.bind_eq_some_iff.mp h
        split at h
        · cases h
        · rename_i hi
          cases h
          intro j hj z
          rcases List.mem_cons.mp z with rfl | z
          · exact hi hj
          · cases z
      · cases h
    | Tuple es k p =>
      obtain ⟨gs, e1, h⟩ := Option.map_eq_some_iff.mp h
      subst h
      show ∀ j ∈ C.prot, j ∉ tgS gs
      clear h p k
      induction es generalizing gs with
      | nil => cases e1; intro j _ z; cases z
      | cons e es ihe =>
        obtain ⟨g1, f1, h⟩ := Option.bind_eq_some_iff.mp e1
        obtain ⟨g2, f2, h⟩ := Option.map_eq_some_iff.mp h
        subst h
        intro j hj z
        have z : j ∈ tgS g1 ++ tgS g2 := z
        rcases List.mem_append.mp z with z | z
        · exact ih f1 j hj z
        · exact ihe g2 f2 j hj z
    | _ => cases h
theorem name_slot {n : Nat} {x : Str} {p : Pos} {g : T} (ok : CtxOk Φ Γ τ W C X) (h : cTgt n C (.Name x p) = some g) : ∃ i, g = .gn i ∧ ixOf C.N x = some i ∧ i ∉ C.prot ∧ Loc X.env.scope x ∧ (X.fn x = true ∨ X.env.scope.names.lookup x = some .local) := by
  cases n with
  | zero => cases h
  | succ n =>
    simp only [cTgt] at h
    split at h
    · rename_i hx
      obtain ⟨i, e1, h⟩ := Option.bind_eq_some_iff.mp h
      split at h
      · cases h
      · rename_i hi
        cases h
        obtain ⟨l1, l2⟩ := loc_of ok hx.1
        exact ⟨i, rfl, e1, hi, l1, l2⟩
    · cases h
/-- name = [..] with the names let go behind the store -/
theorem setLc_ok {gens : List Comprehension} {scope : Scope} {x : Str} {p spos : Pos} {i : Nat} (IH : SE Φ Γ τ f) (ns : NS f) (ok : CtxOk Φ Γ τ W C X) (hh : C.hot = false) (h : cComp f C e scope gens = some t) (hi : ixOf C.N x = some i) (hl : X.env.scope.names.lookup x = some .local)
    (hsw : swapsWith (.ListComp e gens scope pos) (some (.Name x p)) spos.line X.env = pure true) : PS X (.Assign [.Name x p] (.ListComp e gens scope pos) spos) (tAsg (tE Φ Γ τ W X.K t) (gName i)) := by
  unfold cComp at h
  split at h
  case h_2 => cases h
  rename_i g it ifs
  dsimp only at h
  split at h
  case isFalse => cases h
  rename_i hb
  obtain ⟨ti, e1, h⟩ := Option.bind_eq_some_iff.mp h
  obtain ⟨tg, e2, h⟩ := Option.bind_eq_some_iff.mp h
  obtain ⟨te, e3, h⟩ := Option.bind_eq_some_iff.mp h
  obtain ⟨tc, e4, h⟩ := Option.bind_eq_some_iff.mp h
  split at h
  case isFalse => cases h
  rename_i ht
  cases h
  have hi' := iter_ok (tg := g) IH ns ok e1
  have hset : ∀ x, foldedSetIterable it X.env x = pure x := fun x => by
    cases it <;> first | rfl | cases e1
  exact ps_imp (ps_setLc (i := i) (own := ownOf C scope) (ok.calm hh) (by rw [ok.N]; exact ok.nd) (by rw [ok.N]; exact ixOf_get hi) hl hsw hi' (blkOk_by (by rw [ok.N, ok.sc]; exact hb))
    (fun s H C' cl fp => tgt_ok (blk_ok ok s H scope cl C' fp) hh 5 e2) (fun s H C' cl fp => cond_ok IH (blk_ok ok s H scope cl C' fp) e4) (fun s H C' cl fp => (IH _ _ _ e te e3 (blk_ok ok s H scope cl C' fp)).1) hset)
    fun D σ H h => lc_read ht h
theorem sole_eq (tg e : Expr) (l : Nat) (env : PySem.Env) : swapsWithSole [tg] e l env = swapsWith e (some tg) l env := rfl
theorem sw_tuple {ts : List Expr} {k : Nat} {p : Pos} (l : Nat) (env : PySem.Env) : swapsWith e (some (.Tuple ts k p)) l env = pure false := by
  cases e <;> rfl
theorem sw_sub {o i : Expr} {p : Pos} (l : Nat) (env : PySem.Env) : swapsWith e (some (.Subscript o i p)) l env = pure false := by
  cases e <;> rfl
theorem sto_notTuple {ts : List Expr} {k : Nat} {p : Pos} (h : ∀ vs k p, e ≠ .Tuple vs k p) (env : PySem.Env) : swappedStores [.Tuple ts k p] e env = pure none := by
  cases e <;> first | rfl | exact absurd rfl (h _ _ _)
theorem tup_tgt_shape {n : Nat} {ts : List Expr} {k : Nat} {p : Pos} {g : T} (h : cTgt n C (.Tuple ts k p) = some g) : ∃ gs, g = .gt gs := by
  cases n with
  | zero => cases h
  | succ n =>
    obtain ⟨gs, _, h⟩ := Option.map_eq_some_iff.mp h
    exact ⟨gs, h.symm⟩
theorem mapM_ix {N : List Str} : ∀ {ns : List Str} {is : List Nat}, ns.mapM (ixOf N) = some is → ns.length = is.length ∧ ∀ p ∈ is.zip ns, N[p.1]? = some p.2 ∧ p.2 ∈ ns
  | [], is, h => by
    cases h
    exact ⟨rfl, fun p hp => by cases hp⟩
  | x :: ns, is, h => by
    rw [List.mapM_cons] at h
    obtain ⟨i, e1, h⟩ := Option.bind_eq_some_iff.mp h
    obtain ⟨js, e2, h⟩ := Option.bind_eq_some_iff.mp h
    cases h
    obtain ⟨h1, h2⟩ := mapM_ix e2
    refine ⟨by rw [List.length_cons, List.length_cons, h1], fun p hp => ?_⟩
    rcases List.mem_cons.mp hp with rfl | hp
    · exact ⟨ixOf_get e1, List.mem_cons_self⟩
    · exact ⟨(h2 p hp).1, List.mem_cons_of_mem _ (h2 p hp).2⟩
theorem pgs_names {X : Cx} (hN : X.N.Nodup) : ∀ {tgts : List Expr} {ns : List Str} {is : List Nat}, namesOf tgts = some ns → ns.length = is.length → (∀ p ∈ is.zip ns, X.N[p.1]? = some p.2 ∧ Loc X.env.scope p.2 ∧ (X.fn p.2 = true ∨ X.env.scope.names.lookup p.2 = some .local)) →
    PGs X tgts (gNames is) ∧ (assignEach tgts X.env).length = is.length ∧ (assignEach tgts X.env).findIdx? (·.1) = none
  | [], ns, is, h, hl, hp => by
    cases h
    cases is with
    | nil =>
      refine ⟨⟨fun pins s σ H vs us Q I r q => pgs_nil.run pins s σ H vs us Q I r ?_⟩, rfl, rfl⟩
      obtain ⟨q1, q2⟩ := q
      have : vs = [] := List.eq_nil_of_length_eq_zero q1
      subst this
      exact ⟨rfl, q2⟩
    | cons _ _ => cases hl
  | e :: es, ns, is, h, hl, hp => by
    cases e with
    | Name x p =>
      simp only [namesOf] at h
      obtain ⟨ns', h', rfl⟩ := Option.map_eq_some_iff.mp h
      cases is with
      | nil => cases hl
      | cons i is =>
        obtain ⟨a1, a2, a3⟩ := hp (i, x) List.mem_cons_self
        obtain ⟨b1, b2, b3⟩ := pgs_names hN h' (by simpa using hl) fun p hp' => hp p (List.mem_cons_of_mem _ hp')
        have hs : assignEach (.Name x p :: es) X.env = (false, assign (.Name x p) X.env) :: assignEach es X.env := rfl
        refine ⟨⟨fun pins s σ H vs us Q I r q => (pgs_cons (pg_name (i := i) hN a1 a2 a3) b1 (by rw [hs]; rfl)).run pins s σ H vs us Q I r ?_⟩, by rw [hs, List.length_cons, List.length_cons, b2], ?_⟩
        · obtain ⟨q1, q2⟩ := q
          cases vs with
          | nil => cases q1
          | cons v vs => exact ⟨v, vs, rfl, by simpa using q1, q2⟩
        · rw [hs, List.findIdx?_cons, b3]
          rfl
    | _ => cases h
theorem to_ok {ts : List Expr} {k : Nat} {p : Pos} (IH : SE Φ Γ τ f) (ns : NS f) (ok : CtxOk Φ Γ τ W C X) (hh : C.hot = false) (hb : C.blk = none) (hk : C.sc.kind = .function) (h : cTo f C ts k p e = some t) : PS X (.Assign [.Tuple ts k p] e pos) (tS Φ Γ τ W X.K C.prot t) := by
  have base : swappedStores [.Tuple ts k p] e X.env = pure none → ((cTgt 5 C (.Tuple ts k p)).bind fun g => (f C e).map (.asg g)) = some t → PS X (.Assign [.Tuple ts k p] e pos) (tS Φ Γ τ W X.K C.prot t) := fun hw h => by
    obtain ⟨g, e1, h⟩ := Option.bind_eq_some_iff.mp h
    obtain ⟨t1, e2, h⟩ := Option.map_eq_some_iff.mp h
    subst h
    have hg := tgt_ok ok hh 5 e1
    have hp := tgt_prot 5 e1
    obtain ⟨gs, e4⟩ := tup_tgt_shape e1
    subst e4
    exact ps_imp (ps_asg (IH W C X e t1 e2 ok).1 hg (by rw [sole_eq]; exact sw_tuple _ _) hw) fun D σ H h => asgTup_read (gs := gs) hp h
  unfold cTo at h
  split at h
  · rename_i vs k2 p2
    split at h
    · rename_i names hsw
      obtain ⟨is, e1, h⟩ := Option.bind_eq_some_iff.mp h
      split at h
      case isFalse => cases h
      rename_i hq
      obtain ⟨h1, h2, h3⟩ := hq
      obtain ⟨tv, e2, h⟩ := Option.map_eq_some_iff.mp h
      subst h
      obtain ⟨m1, m2⟩ := mapM_ix e1
      have hsl := sizeLine_eq
      refine ps_imp (ps_parN (is := is) (ok.calm hh) (by rw [ok.N]; exact ok.nd) m1 (by rw [hsl]; omega) (fun q hq => ⟨by rw [ok.N]; exact (m2 q hq).1, ?_⟩) (quars_ok IH ns ok e2) (swap_of ok.sc hk hsw)) fun D σ H h => par_read (fun j hj hm => ?_) h
      · rw [ok.sc]
        exact eq_of_beq (List.all_eq_true.mp h2 _ (m2 q hq).2)
      · exact of_decide_eq_true (List.all_eq_true.mp h1 j hm) hj
    · rename_i hsw
      split at h
      · split at h
        · rename_i names hns
          obtain ⟨is, e1, h⟩ := Option.bind_eq_some_iff.mp h
          split at h
          case isFalse => cases h
          rename_i hq
          obtain ⟨h1, h2, h3⟩ := hq
          obtain ⟨tv, e2, h⟩ := Option.map_eq_some_iff.mp h
          subst h
          obtain ⟨m1, m2⟩ := mapM_ix e1
          have hsl := sizeLine_eq
          obtain ⟨g1, g2, g3⟩ := pgs_names (X := X) (by rw [ok.N]; exact ok.nd) hns m1 fun q hq => ⟨by rw [ok.N]; exact (m2 q hq).1, loc_of ok (List.all_eq_true.mp h2 _ (m2 q hq).2)⟩
          refine ps_imp (ps_asg (pe_tup (quars_ok IH ns ok e2)) (pg_tup (n := is.length) (ok.calm hh) g1 g2 g3) (by rw [sole_eq]; exact sw_tuple _ _) (swap_of ok.sc hk hsw)) fun D σ H h => unp_read rfl (by rw [hsl]; omega) (fun j hj hm => ?_) h
          exact of_decide_eq_true (List.all_eq_true.mp h1 j hm) hj
        · cases h
      · exact base (swap_of ok.sc hk hsw) h
    · cases h
  · rename_i hn
    exact base (sto_notTuple (fun vs k p z => hn vs k p z) _) h
/-- hand[i] = e -/
theorem sti_ok {x : Str} {p sp : Pos} {k : Nat} {i : Expr} {ti : T} (IH : SE Φ Γ τ f) (ok : CtxOk Φ Γ τ W C X) (hv : visB C.sc x = true) (ho : oddName x = false) (hs : ∀ l u s q, i ≠ .Slice l u s q) (e1 : ixOf C.N x = some k) (e2 : f C i = some ti) (e3 : f C e = some t) :
    PS X (.Assign [.Subscript (.Name x p) i sp] e pos) (tS Φ Γ τ W X.K C.prot (.sti k ti t)) := by
  refine ps_imp (ps_asg (IH W C X e t e3 ok).1 (pg_sub (var_ok (pos := p) ok hv ho e1) (IH W C X i ti e2 ok).1 set_list (by intro v; cases i <;> first | rfl | exact absurd rfl (hs _ _ _ _))) (by rw [sole_eq]; exact sw_sub _ _) (by cases e <;> rfl)) fun D σ H h => ?_
  obtain ⟨σD, G, S, h⟩ := h
  simp only [evS] at h
  refine one_frz kS S h fun x1 f1 G1 H1 S1 st1 hd1 h v rp => ?_
  split at h
  case h_2 => exact h.elim
  rename_i ds0 hd0
  obtain ⟨a0, vs0, w1, w2, w3, w4⟩ := S1.own k ds0 hd0
  refine ⟨_, w1, one_op kS S1 h fun y f2 G2 H2 S2' st2 hd2 h w ro => ?_⟩
  split at h
  case h_2 => exact h.elim
  rename_i n hy
  split at h
  case h_2 => exact h.elim
  rename_i ds hd
  rw [hy] at ro
  have rw' : Rp X.K G2 w (.int n) := ro
  cases rw'
  obtain ⟨a, vs, z1, z2, z3, z4⟩ := S2'.own k ds hd
  rw [w1] at z1
  cases z1
  have hlen := z4.len
  split at h
  · rename_i hn
    obtain ⟨S3, st3, hd3⟩ := own_upd S2' hd w1 (z4.set n.toNat (rp.mono st2.gm))
    refine ⟨a0, vs, n, n.toNat, rfl, rfl, z2, ?_, h _ _ _ S3 st3 rfl fun _ _ => rfl⟩
    unfold ixN
    rw [if_pos hn.1, if_pos (by omega)]
  split at h
  case isFalse => exact h.elim
  rename_i hq hn
  obtain ⟨S3, st3, hd3⟩ := own_upd S2' hd w1 (z4.set (n + ds.length).toNat (rp.mono st2.gm))
  refine ⟨a0, vs, n, (n + ds.length).toNat, rfl, rfl, z2, ?_, h _ _ _ S3 st3 rfl fun _ _ => rfl⟩
  unfold ixN
  rw [if_neg (by omega), if_pos (by omega), hlen]
/-- xs.append(e) -/
theorem app_ok {x : Str} {p apos cpos spos : Pos} {i : Nat} (IH : SE Φ Γ τ f) (ns : NS f) (ok : CtxOk Φ Γ τ W C X) (hline : (apos.endLine == cpos.line) = true) (hv : visB C.sc x = true) (ho : oddName x = false) (e1 : ixOf C.N x = some i) (e2 : f C a = some t) :
    PS X (.Expr (.Call (.Attribute (.Name x p) "append" apos) [a] [] cpos) spos) (tS Φ Γ τ W X.K prot (.app i t)) := by
  have he : ∀ x p, a ≠ .Starred x p := fun x p z => by rw [z, ns] at e2; cases e2
  have hs := starE (X := X) (es := []) he
  have hpe := pe_bm PySem.F.plainAttrs_list PySem.F.slot_list_append PySem.F.type_list_append mt_append (var_ok (pos := p) ok hv ho e1) (pa_cons (IH W C X a t e2 ok).1 pa_nil hs) (by rfl) (few1 (cpos := cpos) hs) hline hs (by rfl)
  refine ps_imp (ps_expr hpe (by rfl)) fun D σ H ⟨σD, G, S, h⟩ => ?_
  simp only [evS] at h
  split at h
  case h_2 => exact h.elim
  rename_i ds0 hd0
  obtain ⟨a0, vs0, w1, w2, w3, w4⟩ := S.own i ds0 hd0
  refine ⟨_, w1, .inl ⟨rfl, vs0, .inl (.inl w2)⟩, one_frz kS S h fun y f1 G1 H1 S1 st1 hd1 h v rp => ?_⟩
  split at h
  case h_2 => exact h.elim
  rename_i ds hd
  split at h
  case isFalse => exact h.elim
  rename_i hz
  obtain ⟨a1, vs, z1, z2, z3, z4⟩ := S1.own i ds hd
  rw [w1] at z1
  cases z1
  obtain ⟨S3, st3, hd3⟩ := own_upd S1 hd w1 (z4.snoc rp)
  have hsl := sizeLine_eq
  exact ⟨a0, vs, v, rfl, rfl, z2, by rw [z4.len, hsl]; exact hz, h _ _ _ S3 st3 rfl fun _ _ => rfl⟩
/-- xs.extend(e) -/
theorem ext_ok {x : Str} {p apos cpos spos : Pos} {i : Nat} (IH : SE Φ Γ τ f) (ns : NS f) (ok : CtxOk Φ Γ τ W C X) (hline : (apos.endLine == cpos.line) = true) (hv : visB C.sc x = true) (ho : oddName x = false) (e1 : ixOf C.N x = some i) (e2 : f C a = some t) :
    PS X (.Expr (.Call (.Attribute (.Name x p) "extend" apos) [a] [] cpos) spos) (tS Φ Γ τ W X.K prot (.ext i t)) := by
  have he : ∀ x p, a ≠ .Starred x p := fun x p z => by rw [z, ns] at e2; cases e2
  have hs := starE (X := X) (es := []) he
  have hpe := pe_bm PySem.F.plainAttrs_list PySem.F.slot_list_extend PySem.F.type_list_extend mt_extend (var_ok (pos := p) ok hv ho e1) (pa_cons (IH W C X a t e2 ok).1 pa_nil hs) (by rfl) (few1 (cpos := cpos) hs) hline hs (by rfl)
  refine ps_imp (ps_expr hpe (by rfl)) fun D σ H ⟨σD, G, S, h⟩ => ?_
  simp only [evS] at h
  split at h
  case h_2 => exact h.elim
  rename_i ds0 hd0
  obtain ⟨a0, vs0, w1, w2, w3, w4⟩ := S.own i ds0 hd0
  refine ⟨_, w1, .inl ⟨rfl, vs0, .inl (.inl w2)⟩, one_op kS S h fun y f1 G1 H1 S1 st1 hd1 h v ro => ?_⟩
  split at h
  case h_2 => exact h.elim
  rename_i es' ds hy hd
  split at h
  case isFalse => exact h.elim
  rename_i hz
  obtain ⟨a1, vs, z1, z2, z3, z4⟩ := S1.own i ds hd
  rw [w1] at z1
  cases z1
  have cn := ro.cn S1
  rw [cont_nt, hy] at cn
  obtain ⟨b, zs, rfl, hb, rb⟩ := cn.list S1.sub
  obtain ⟨S3, st3, hd3⟩ := own_upd S1 hd w1 (z4.append rb)
  have hsl := sizeLine_eq
  have hz : ds.length + es'.length ≤ 16777216 := hz
  exact ⟨a0, b, vs, zs, rfl, rfl, z2, hb, by rw [z4.len, rb.len, hsl]; exact hz, h _ _ _ S3 st3 rfl fun _ _ => rfl⟩
theorem drp_read {D : Ends} {σ : L2.St} {H : Hp} (h : tS Φ Γ τ W K prot (.drp t) D σ H) : tDrop (tE Φ Γ τ W K t) D σ H := by
  obtain ⟨σD, G, S, h⟩ := h
  simp only [evS] at h
  exact one_rv kS S h fun x e1 G1 H1 S1 st1 hd1 h v rv => h σ G1 H1 S1 Step.rfl' rfl fun _ _ => rfl
theorem drop_ok {spos : Pos} (IH : SE Φ Γ τ f) (ns : NS f) (ok : CtxOk Φ Γ τ W C X) (h : cDrop f C e = some t) : PS X (.Expr e spos) (tS Φ Γ τ W X.K prot t) := by
  unfold cDrop at h
  split at h
  · cases h
    exact ps_imp ps_doc fun D σ H ⟨σD, G, S, h⟩ => h σ G H S Step.rfl' rfl fun _ _ => rfl
  · split at h
    · rename_i em
      subst em
      split at h
      case isFalse => cases h
      rename_i hx
      obtain ⟨i, e1, h⟩ := Option.bind_eq_some_iff.mp h
      obtain ⟨t1, e2, h⟩ := Option.map_eq_some_iff.mp h
      subst h
      exact app_ok IH ns ok hx.1 hx.2.1 hx.2.2 e1 e2
    · split at h
      · rename_i em
        subst em
        split at h
        case isFalse => cases h
        rename_i hx
        obtain ⟨i, e1, h⟩ := Option.bind_eq_some_iff.mp h
        obtain ⟨t1, e2, h⟩ := Option.map_eq_some_iff.mp h
        subst h
        exact ext_ok IH ns ok hx.1 hx.2.1 hx.2.2 e1 e2
      · obtain ⟨t1, e1, h⟩ := Option.map_eq_some_iff.mp h
        subst h
        exact ps_imp (ps_expr (IH W C X _ t1 e1 ok).1 (by rfl)) fun D σ H h => drp_read h
  · obtain ⟨t1, e1, h⟩ := Option.map_eq_some_iff.mp h
    subst h
    exact ps_imp (ps_expr (IH W C X _ t1 e1 ok).1 (by rfl)) fun D σ H h => drp_read h
  · cases h
theorem for_read {g it b : T} (hp : ∀ j ∈ prot, j ∉ tgS g) {D : Ends} {σV : L2.St} {H : Hp} (h : tS Φ Γ τ W K prot (.forr g it b) D σV H) : tFor (tI Φ Γ τ W K it) (tG τ K g) (tB Φ Γ τ W K prot b) D σV H := by
  obtain ⟨σD, G, S, h⟩ := h
  simp only [evS] at h
  refine iter_op kS S h fun q1 G1 H1 S1 st1 hd1 h J wk => ?_
  obtain ⟨ds, σ1⟩ := q1
  simp only at h wk
  generalize hbody : (fun d σ => (stD g d σ).bind fun σ => evB Φ Γ b σ) = body at h
  let Wi : Nat → Nat → L2.St → Hp → Prop := fun i m σ' H' => ∃ σ G2, S2 τ K G2 H' σ σ' ∧ Sub G1 G2 ∧ σ'.length = σV.length ∧ (∀ j ∈ prot, σ'[j]? = σV[j]?) ∧ NSt τ W K prot D σ' σ G2 H' (forLoop body (ds.drop i) σ) ∧ m = ds.length - i ∧ i ≤ ds.length
  refine ⟨Wi, ⟨ds.length, σ1, G1, S1, Sub.rfl', rfl, fun _ _ => rfl, h, rfl, Nat.zero_le _⟩, ?_⟩
  intro i m σ' H' hW
  obtain ⟨σ, G2, S2', sG, hl, hpr, ev, rfl, hi⟩ := hW
  by_cases hlt : i < ds.length
  · obtain ⟨go, yl⟩ := wk.1 i G2 H' sG S2'.sub hlt
    have hdrop : ds.drop i = ds[i] :: ds.drop (i + 1) := (List.drop_eq_getElem_cons hlt)
    rw [hdrop] at ev
    simp only [forLoop] at ev
    have ev := Rn.bind ev
    rw [← hbody] at ev
    have ev := Rn.bind ev
    refine .inr ⟨go, Wi (i + 1) (ds.length - (i + 1)), fun σ'' H'' w => ⟨_, by omega, w⟩, fun x H3 y => ?_⟩
    obtain ⟨G3, d, g1, ex, rp⟩ := yl x H3 y
    have g2 : d = ds[i] := by
      rw [List.getElem?_eq_getElem hlt] at g1
      exact (Option.some.inj g1).symm
    subst g2
    cases f2 : stD g ds[i] σ with
    | no => rw [f2] at ev; exact ev.elim
    | ex c as => exact absurd f2 (stD_nx _ _ _ c as)
    | ok σ2 =>
      rw [f2] at ev
      have ev : Rn τ W σ σ' H' (evB Φ Γ b σ2) _ := ev
      obtain ⟨S3, st3⟩ := S2'.ext ex
      refine ⟨σ, G3, ds[i], σ2, S3, rp, f2, fun σ4 S4 st4 l4 p4 => ⟨σ2, G3, S4, Rn.shift (st3.trans st4) ev fun qb n σ5 G5 H5 S5 st5 l5 p5 => ?_⟩⟩
      have stT := (st3.trans st4).trans st5
      have lT : σ5.length = σ'.length := by omega
      have pT : ∀ j ∈ prot, σ5[j]? = σ'[j]? := fun j hj => by rw [p5 j hj, p4 j (hp j hj)]
      obtain ⟨fl, σ6⟩ := qb
      cases fl with
      | nx => exact ⟨σ6, G5, S5, (sG.trans ex.gm).trans (st4.gm.trans st5.gm), by omega, fun j hj => by rw [pT j hj, hpr j hj], by rw [hbody] at n; exact NSt.then n stT lT pT, rfl, hlt⟩
      | rt r => exact fun v rv => n σ5 G5 H5 S5 stT lT pT v (rv.base fun b hb => (st3.trans st4).dom b hb)
  · have hie : i = ds.length := by omega
    have hdrop : ds.drop i = [] := List.drop_eq_nil_of_le (by omega)
    rw [hdrop] at ev
    exact .inl ⟨wk.2 i G2 H' sG S2'.sub (by omega), ev σ' G2 H' S2' Step.rfl' rfl fun _ _ => rfl⟩
theorem whl_read {c b : T} {D : Ends} {σV : L2.St} {H : Hp} (h : tS Φ Γ τ W K prot (.whl c b) D σV H) : tWhile (tT Φ Γ τ W K c) (tB Φ Γ τ W K prot b) D σV H := by
  obtain ⟨σD, G, S, h⟩ := h
  simp only [evS] at h
  generalize hc : (fun σ => evT Φ Γ c σ) = cc at h
  generalize hbb : (fun σ => evB Φ Γ b σ) = bb at h
  let Wi : Nat → L2.St → Hp → Prop := fun m σ' H' => ∃ σ G2, S2 τ K G2 H' σ σ' ∧ σ'.length = σV.length ∧ (∀ j ∈ prot, σ'[j]? = σV[j]?) ∧ NSt τ W K prot D σ' σ G2 H' (whlLoop cc bb m σ)
  refine ⟨Wi, ⟨whlMost, σD, G, S, rfl, fun _ _ => rfl, h⟩, ?_⟩
  intro m σ' H' hW
  obtain ⟨σ, G2, S2', hl, hpr, ev⟩ := hW
  cases m with
  | zero => exact ev.elim
  | succ m =>
    simp only [whlLoop] at ev
    have ev := Rn.bind ev
    rw [← hc] at ev
    refine ⟨σ, G2, S2', ev.mono fun qc f1 n G3 H3 S3 st3 hd3 => ?_⟩
    obtain ⟨k, σ2⟩ := qc
    cases k with
    | false =>
      show (if false = true then _ else _)
      rw [if_neg (fun z => by cases z)]
      exact n σ' G3 H3 S3 st3 rfl fun _ _ => rfl
    | true =>
      show (if true = true then _ else _)
      rw [if_pos rfl]
      have n := Rn.bind n
      rw [← hbb] at n
      refine ⟨Wi m, fun σ'' H'' w => ⟨m, by omega, w⟩, σ2, G3, S3, Rn.shift st3 n fun qb n σ5 G5 H5 S5 st5 l5 p5 => ?_⟩
      obtain ⟨fl, σ6⟩ := qb
      cases fl with
      | nx => exact ⟨σ6, G5, S5, by omega, fun j hj => by rw [p5 j hj, hpr j hj], by rw [hc, hbb] at n; exact NSt.then n (st3.trans st5) l5 p5⟩
      | rt r => exact fun v rv => n σ5 G5 H5 S5 (st3.trans st5) l5 p5 v (rv.base fun b hb => st3.dom b hb)
theorem asg_ok {tg : Expr} (IH : SE Φ Γ τ f) (ns : NS f) (lc : ∀ C e gens scope pos t, f C (.ListComp e gens scope pos) = some t → ∃ f', SE Φ Γ τ f' ∧ NS f' ∧ C.hot = false ∧ cComp f' C e scope gens = some t) (ok : CtxOk Φ Γ τ W C X) (hb : C.blk = none) (hk : C.sc.kind = .function) (h : cAsg f C pos e tg = some t) : PS X (.Assign [tg] e pos) (tS Φ Γ τ W X.K C.prot t) := by
  unfold cAsg at h
  split at h
  · rename_i x p
    split at h
    · rename_i w hw
      obtain ⟨g, e1, h⟩ := Option.bind_eq_some_iff.mp h
      obtain ⟨t1, e2, h⟩ := Option.map_eq_some_iff.mp h
      subst h
      obtain ⟨i, hg, h1, h2, h3, h4⟩ := name_slot ok e1
      subst hg
      have hsw := sw_false ok.sc hk hw pos.line
      refine ps_imp (te := tAsg (tE Φ Γ τ W X.K t1) (gName i)) ?_ fun D σ H h => asgName_read h2 h
      cases w with
      | false => exact ps_set (by rw [ok.N]; exact ok.nd) (by rw [ok.N]; exact ixOf_get h1) h3 (IH W C X e t1 e2 ok).1 hsw h4
      | true =>
        cases e with
        | ListComp elt gens scope lpos =>
          obtain ⟨f', i1, i2, hh, i3⟩ := lc C _ _ _ _ _ e2
          have hl : X.env.scope.names.lookup x = some .local := by
            have hw : some (C.sc.names.lookup x == some .local && p.line == lpos.line && !(scope.names.any fun (n, k) => n == x && (k == .local || k == .cell))) = some true := hw
            have hw := Option.some.inj hw
            rw [Bool.and_eq_true, Bool.and_eq_true] at hw
            rw [ok.sc]
            exact eq_of_beq hw.1.1
          exact setLc_ok i1 i2 ok hh i3 h1 hl hsw
        | _ => cases hw
    · cases h
  · rename_i x p i sp
    split at h
    case isFalse => cases h
    rename_i hx
    split at h
    · cases h
    · rename_i hns
      obtain ⟨k, e1, h⟩ := Option.bind_eq_some_iff.mp h
      obtain ⟨ti, e2, h⟩ := Option.bind_eq_some_iff.mp h
      obtain ⟨t1, e3, h⟩ := Option.map_eq_some_iff.mp h
      subst h
      exact sti_ok IH ok hx.1 hx.2 (fun l u s q z => hns l u s q z) e1 e2 e3
  · split at h
    · cases h
    · rename_i hh
      exact to_ok IH ns ok (by simpa using hh) hb hk h
  · cases h
theorem lc_cE : ∀ (n : Nat) (C : CC) (e : Expr) (gens : List Comprehension) (scope : Scope) (pos : Pos) (t : T), cE n C (.ListComp e gens scope pos) = some t → ∃ f', SE Φ Γ τ f' ∧ NS f' ∧ C.hot = false ∧ cComp f' C e scope gens = some t
  | 0, _, _, _, _, _, _, h => by cases h
  | n + 1, C, e, gens, scope, pos, t, h => by
    have h : (if C.hot = true then none else cComp (cE n) C e scope gens) = some t := h
    split at h
    · cases h
    · rename_i hh
      exact ⟨cE n, sE n, ns_cE n, by simpa using hh, h⟩
/-- THE STATEMENTS -/
theorem sS : ∀ n, SS Φ Γ τ (cS n) := by
  intro n
  induction n with
  | zero => intro W C X st t h; cases h
  | succ n IH =>
    intro W C X st t h ok hb hk
    replace h : cS1 (cE 40) (cS n) C st = some t := h
    have ih := sE (Φ := Φ) (Γ := Γ) (τ := τ) 40
    have ns := ns_cE 40
    unfold cS1 at h
    split at h
    · rename_i e p
      obtain ⟨t1, e1, h⟩ := Option.map_eq_some_iff.mp h
      subst h
      refine ps_imp (ps_ret (ih W C X e t1 e1 ok).1) fun D σ H ⟨σD, G, S, h⟩ => ?_
      simp only [evS] at h
      exact ⟨σD, G, S, (kS.bind h).mono fun x f1 n G1 H1 S1 st1 hd1 v rv => n σ G1 H1 S1 st1 rfl (fun _ _ => rfl) v rv⟩
    · cases h
      exact ps_imp ps_retN fun D σ H ⟨σD, G, S, h⟩ => h σ G H S Step.rfl' rfl (fun _ _ => rfl) _ .non
    · cases h
      exact ps_imp ps_pass fun D σ H ⟨σD, G, S, h⟩ => h σ G H S Step.rfl' rfl fun _ _ => rfl
    · exact asg_ok ih ns (lc_cE 40) ok hb hk h
    · exact drop_ok ih ns ok h
    · rename_i c a b p
      obtain ⟨tc, e1, h⟩ := Option.bind_eq_some_iff.mp h
      obtain ⟨ta, e2, h⟩ := Option.bind_eq_some_iff.mp h
      obtain ⟨tb, e3, h⟩ := Option.map_eq_some_iff.mp h
      subst h
      refine ps_imp (ps_if (ih W C X c tc e1 ok).2 (blocks_ok IH ok hb hk e2) (blocks_ok IH ok hb hk e3)) fun D σ H ⟨σD, G, S, h⟩ => ?_
      simp only [evS] at h
      refine ⟨σD, G, S, (kS.bind h).mono fun x f1 n G1 H1 S1 st1 hd1 => ?_⟩
      obtain ⟨k, σ1⟩ := x
      cases k with
      | true =>
        show (if true = true then _ else _)
        rw [if_pos rfl]
        exact ⟨σ1, G1, S1, NSt.then n st1 rfl fun _ _ => rfl⟩
      | false =>
        show (if false = true then _ else _)
        rw [if_neg (fun z => by cases z)]
        exact ⟨σ1, G1, S1, NSt.then n st1 rfl fun _ _ => rfl⟩
    · rename_i tg it b p
      split at h
      · cases h
      rename_i hh
      have hh : C.hot = false := by simpa using hh
      obtain ⟨ti, e1, h⟩ := Option.bind_eq_some_iff.mp h
      obtain ⟨g, e2, h⟩ := Option.bind_eq_some_iff.mp h
      obtain ⟨tb, e3, h⟩ := Option.map_eq_some_iff.mp h
      subst h
      have hset : ∀ x, foldedSetIterable it X.env x = pure x := fun x => by
        cases it <;> first | rfl | cases e1
      exact ps_imp (ps_for ok.po (ok.calm hh) (iter_ok ih ns ok e1) (tgt_ok ok hh 5 e2) (blocks_ok IH ok hb hk e3) hset) fun D σ H h => for_read (tgt_prot 5 e2) h
    · rename_i c b p
      obtain ⟨tc, e1, h⟩ := Option.bind_eq_some_iff.mp h
      obtain ⟨tb, e3, h⟩ := Option.map_eq_some_iff.mp h
      subst h
      exact ps_imp (ps_while ok.po (ih W C X c tc e1 ok).2 (blocks_ok IH ok hb hk e3)) fun D σ H h => whl_read h
    · rename_i x p as p2 p3
      split at h
      · rename_i hx
        obtain ⟨h1, h2, h3, h4, h5⟩ := hx
        have h4 : as = [] := by cases as with | nil => rfl | cons _ _ => cases h4
        subst h4
        cases h
        refine ps_imp (ps_raise (ok.calm h5) ok.tk (ok.ex x h1 p p2 X rfl rfl rfl rfl rfl (ok.rm fun z => by rw [z] at h1; cases h1) (gl_of ok h2))) fun D σ H ⟨σD, G, S, h⟩ => ?_
        have h : ∀ H', Kx τ σD σ H H' → W x [] H' := h
        exact ⟨x, [], ⟨rfl, rfl⟩, h H ⟨fun b o e _ _ => e, fun b h => h, S.tabs⟩⟩
      · split at h
        · rename_i e hn0
          split at h
          · rename_i hx
            obtain ⟨h1, h2, h3, h5⟩ := hx
            obtain ⟨t1, e1, h⟩ := Option.map_eq_some_iff.mp h
            subst h
            have hst : ∀ x p, e ≠ .Starred x p := fun x p z => by
              subst z
              obtain ⟨t2, e2, _⟩ := Option.bind_eq_some_iff.mp e1
              rw [ns C x p] at e2
              cases e2
            have hpa := disp_ok ih ns ok e1
            have hs1 : starEach [e] X.env = (false, eval e X.env) :: starEach [] X.env := starE hst
            refine ps_imp (ps_raise (ok.calm h5) ok.tk (ok.exa x h1 p p2 e _ X rfl rfl rfl rfl rfl hpa hs1 (ok.rma fun z => by rw [z] at h1; cases h1) (gl_of ok h2))) fun D σ H ⟨σD, G, S, h⟩ => ?_
            simp only [evS] at h
            obtain ⟨t2, e2, e3⟩ := Option.bind_eq_some_iff.mp e1
            obtain ⟨t3, e4, e3⟩ := Option.map_eq_some_iff.mp e3
            cases e4
            subst e3
            refine vals_op kS S h fun x1 ev G1 H1 S1 st1 hd1 n vs ra => ?_
            obtain ⟨ds, σ1⟩ := x1
            have hl : ∃ d, ds = [d] := by
              simp only [evV] at ev
              obtain ⟨y, _, ev⟩ := bind_ok ev
              cases ev
              exact ⟨_, rfl⟩
            obtain ⟨d, rfl⟩ := hl
            cases ra with
            | cons r1 r2 =>
              cases r2
              rename_i v
              by_cases hat : atomD d = true
              · have n : ∀ H', Kx τ σ1 σ H1 H' → W x [d] H' := by
                  have n' : NSt τ W X.K C.prot D σ σ1 G1 H1 (if (([d] : List PyData).all atomD) = true then Res.ex x [d] else Res.no) := n
                  rw [if_pos (by simp [hat])] at n'
                  exact n'
                have hv : v = atomV d := by
                  cases d <;> first | (cases r1; rfl) | (cases hat)
                subst hv
                exact ⟨_, rfl, fun dd hdd => ⟨x, [d], ⟨rfl, dd, rfl, upd_same⟩, n _ ⟨fun b o e _ _ => by rw [upd_ne (ne_of_none e hdd)]; exact e, fun b ⟨o, e, q⟩ => ⟨o, by rw [upd_ne (ne_of_none e hdd)]; exact e, q⟩, tabs_new S1.tabs hdd⟩⟩⟩
              · have n' : NSt τ W X.K C.prot D σ σ1 G1 H1 (if (([d] : List PyData).all atomD) = true then Res.ex x [d] else Res.no) := n
                rw [if_neg (by simp [hat])] at n'
                exact n'.elim
          · cases h
            exact ps_imp ps_never fun D σ H ⟨σD, G, S, h⟩ => h.elim
        · cases h
          exact ps_imp ps_never fun D σ H ⟨σD, G, S, h⟩ => h.elim
    · cases h
      exact ps_imp ps_never fun D σ H ⟨σD, G, S, h⟩ => h.elim
    · cases h
theorem sB (n : Nat) {sts : List Stmt} {t : T} (ok : CtxOk Φ Γ τ W C X) (hb : C.blk = none) (hk : C.sc.kind = .function) (h : cB (cS n C) sts = some t) : PSs X sts (tB Φ Γ τ W X.K C.prot t) := blocks_ok (sS n) ok hb hk h
end
end Fz

/-! Ev17: a def keeps what its term promises. -/
namespace Fz
open PySem PySem.Spec PyProof.Rows L2
/-- tables alone -/
abbrev tbOf (τ : List (Addr × Str)) : Tb := { l := τ }
section
variable {τ : List (Addr × Str)} {K : PySem.W.Frag} {G H : Hp}
theorem RPs.at {ms : List Bool} : ∀ {vs : List V} {ds : List D}, RPs K G H ms vs ds → vs.length = ms.length ∧ (startD ms ds).length = ms.length ∧
    (∀ j : Nat, ms[j]? = some true → ∃ a xs es, vs[j]? = some (V.ref a) ∧ (startD ms ds)[j]? = some (Slot.own es) ∧ H a = some (HO.lst xs) ∧ G a = none ∧ RpA K G xs es) ∧
    (∀ j : Nat, ms[j]? = some false → ∃ v d, vs[j]? = some v ∧ (startD ms ds)[j]? = some (Slot.val d) ∧ Rp K G v d) := by
  induction ms with
  | nil =>
    intro vs ds h
    cases vs with
    | nil => cases ds with
      | nil => exact ⟨rfl, rfl, fun j h => by simp at h, fun j h => by simp at h⟩
      | cons _ _ => exact h.elim
    | cons _ _ => cases ds <;> exact h.elim
  | cons m ms ih =>
    intro vs ds h
    cases vs with
    | nil => cases m <;> cases ds <;> exact h.elim
    | cons v vs => cases ds with
      | nil => cases m <;> exact h.elim
      | cons d ds =>
        cases m with
        | true =>
          obtain ⟨⟨a, xs, es, rfl, rfl, h1, h2, h3⟩, h⟩ := h
          obtain ⟨i1, i2, i3, i4⟩ := ih h
          refine ⟨by rw [List.length_cons, List.length_cons, i1], by unfold startD; rw [List.length_cons, List.length_cons, i2], fun j hj => ?_, fun j hj => ?_⟩
          · cases j with
            | zero => exact ⟨a, xs, es, rfl, rfl, h1, h2, h3⟩
            | succ j => exact i3 j (by simpa using hj)
          · cases j with
            | zero => cases hj
            | succ j => exact i4 j (by simpa using hj)
        | false =>
          obtain ⟨h1, h⟩ := h
          obtain ⟨i1, i2, i3, i4⟩ := ih h
          have e : startD (false :: ms) (d :: ds) = .val d :: startD ms ds := by cases d <;> rfl
          rw [e]
          refine ⟨by rw [List.length_cons, List.length_cons, i1], by rw [List.length_cons, List.length_cons, i2], fun j hj => ?_, fun j hj => ?_⟩
          · cases j with
            | zero => cases hj
            | succ j => exact i3 j (by simpa using hj)
          · cases j with
            | zero => exact ⟨v, d, rfl, rfl, h1⟩
            | succ j => exact i4 j (by simpa using hj)
theorem RPs.dlen {ms : List Bool} : ∀ {vs : List V} {ds : List D}, RPs K G H ms vs ds → ds.length = ms.length := by
  induction ms with
  | nil =>
    intro vs ds h
    cases vs with
    | nil => cases ds with
      | nil => rfl
      | cons _ _ => exact h.elim
    | cons _ _ => cases ds <;> exact h.elim
  | cons m ms ih =>
    intro vs ds h
    cases vs with
    | nil => cases m <;> cases ds <;> exact h.elim
    | cons v vs => cases ds with
      | nil => cases m <;> exact h.elim
      | cons d ds =>
        rw [List.length_cons, List.length_cons]
        cases m with
        | true => rw [ih h.2]
        | false => rw [ih h.2]
theorem insOf_at : ∀ {ms : List Bool} {vs : List V} (j : Nat) {v : V}, ms[j]? = some true → vs[j]? = some v → v ∈ insOf ms vs
  | [], _, j, _, h, _ => by simp at h
  | _ :: _, [], j, _, _, h => by simp at h
  | m :: ms, w :: vs, 0, v, h1, h2 => by
    cases h1
    cases h2
    exact List.mem_cons_self
  | m :: ms, w :: vs, j + 1, v, h1, h2 => by
    have := insOf_at (ms := ms) (vs := vs) j (by simpa using h1) (by simpa using h2)
    cases m with
    | true => exact List.mem_cons_of_mem _ this
    | false => exact this
theorem insOf_of : ∀ {ms : List Bool} {vs : List V} {v : V}, v ∈ insOf ms vs → ∃ j : Nat, ms[j]? = some true ∧ vs[j]? = some v
  | [], vs, v, h => by cases vs <;> cases h
  | m :: ms, [], v, h => by cases m <;> cases h
  | true :: ms, w :: vs, v, h => by
    rcases List.mem_cons.mp h with rfl | h
    · exact ⟨0, rfl, rfl⟩
    · obtain ⟨j, h1, h2⟩ := insOf_of h
      exact ⟨j + 1, by simpa using h1, by simpa using h2⟩
  | false :: ms, w :: vs, v, h => by
    obtain ⟨j, h1, h2⟩ := insOf_of (ms := ms) (vs := vs) h
    exact ⟨j + 1, by simpa using h1, by simpa using h2⟩
theorem insOf_inj : ∀ {ms : List Bool} {vs : List V} {i j : Nat} {v : V}, (insOf ms vs).Nodup → ms[i]? = some true → ms[j]? = some true → vs[i]? = some v → vs[j]? = some v → i = j
  | [], _, i, j, _, _, h, _, _, _ => by simp at h
  | _ :: _, [], i, j, _, _, _, _, h, _ => by simp at h
  | m :: ms, w :: vs, i, j, v, nd, h1, h2, h3, h4 => by
    cases i with
    | zero =>
      cases h1
      cases h3
      cases j with
      | zero => rfl
      | succ j => exact absurd (insOf_at (ms := ms) (vs := vs) j (by simpa using h2) (by simpa using h4)) (List.nodup_cons.mp nd).1
    | succ i =>
      cases j with
      | zero =>
        cases h2
        cases h4
        exact absurd (insOf_at (ms := ms) (vs := vs) i (by simpa using h1) (by simpa using h3)) (List.nodup_cons.mp nd).1
      | succ j =>
        have nd' : (insOf ms vs).Nodup := by
          cases m with
          | true => exact (List.nodup_cons.mp nd).2
          | false => exact nd
        exact congrArg (· + 1) (insOf_inj (ms := ms) (vs := vs) (v := v) nd' (by simpa using h1) (by simpa using h2) (by simpa using h3) (by simpa using h4))
theorem protOf_mem : ∀ {ms : List Bool} {n j : Nat}, j ∈ protOf n ms ↔ ∃ k, j = n + k ∧ ms[k]? = some true
  | [], n, j => ⟨fun h => (by cases h), fun ⟨k, _, h⟩ => (by simp at h)⟩
  | true :: ms, n, j => by
    constructor
    · intro h
      rcases List.mem_cons.mp h with rfl | h
      · exact ⟨0, rfl, rfl⟩
      · obtain ⟨k, h1, h2⟩ := protOf_mem.mp h
        exact ⟨k + 1, by omega, by simpa using h2⟩
    · rintro ⟨k, h1, h2⟩
      cases k with
      | zero => subst h1; exact List.mem_cons_self
      | succ k => exact List.mem_cons_of_mem _ (protOf_mem.mpr ⟨k, by omega, by simpa using h2⟩)
  | false :: ms, n, j => by
    constructor
    · intro h
      obtain ⟨k, h1, h2⟩ := protOf_mem (ms := ms).mp h
      exact ⟨k + 1, by omega, by simpa using h2⟩
    · rintro ⟨k, h1, h2⟩
      cases k with
      | zero => cases h2
      | succ k => exact protOf_mem (ms := ms).mpr ⟨k, by omega, by simpa using h2⟩
theorem outsOf_own : ∀ {is : List Nat} {σ : Sts} {os : List (List D)}, outsOf is σ = .ok os → ∀ j ∈ is, ∃ ds, σ[j]? = some (Slot.own ds)
  | [], _, _, _, j, hj => by cases hj
  | i :: is, σ, os, h, j, hj => by
    unfold outsOf at h
    split at h
    · rename_i ds hd
      cases h1 : outsOf is σ with
      | ok os' =>
        rcases List.mem_cons.mp hj with rfl | hj
        · exact ⟨ds, hd⟩
        · exact outsOf_own h1 j hj
      | ex c as => rw [h1] at h; cases h
      | no => rw [h1] at h; cases h
    · cases h
theorem outs_ok {T : Tb} {σ : Sts} {σV : L2.St} (S : S2 T K G H σ σV) : ∀ {ms : List Bool} {vs : List V} {n : Nat} {os : List (List D)}, (∀ (j : Nat) v, ms[j]? = some true → vs[j]? = some v → σV[n + j]? = some (some v)) → vs.length = ms.length → outsOf (protOf n ms) σ = .ok os → ROuts K G H (insOf ms vs) os
  | [], vs, n, os, hv, hl, h => by
    cases vs with
    | nil => cases h; exact trivial
    | cons _ _ => cases hl
  | m :: ms, [], n, os, hv, hl, h => by cases hl
  | false :: ms, v :: vs, n, os, hv, hl, h => outs_ok S (ms := ms) (vs := vs) (n := n + 1) (fun j w h1 h2 => by
      have := hv (j + 1) w (by simpa using h1) (by simpa using h2)
      rw [show n + 1 + j = n + (j + 1) from by omega]
      exact this) (by simpa using hl) h
  | true :: ms, v :: vs, n, os, hv, hl, h => by
    have h : outsOf (n :: protOf (n + 1) ms) σ = .ok os := h
    unfold outsOf at h
    split at h
    · rename_i ds hd
      cases h1 : outsOf (protOf (n + 1) ms) σ with
      | ok os' =>
        rw [h1] at h
        cases h
        obtain ⟨a, xs, z1, z2, z3, z4⟩ := S.own n ds hd
        have := hv 0 v rfl rfl
        rw [Nat.add_zero, z1] at this
        cases this
        exact ⟨⟨a, xs, rfl, z2, z3, z4⟩, outs_ok S (ms := ms) (vs := vs) (n := n + 1) (fun j w h1 h2 => by
          have := hv (j + 1) w (by simpa using h1) (by simpa using h2)
          rw [show n + 1 + j = n + (j + 1) from by omega]
          exact this) (by simpa using hl) h1⟩
      | ex c as => rw [h1] at h; cases h
      | no => rw [h1] at h; cases h
    · cases h
theorem start_get {N : List Str} {vs : List V} {j : Nat} {v : V} (h : vs[j]? = some v) : (L2.start N vs)[j]? = some (some v) := by
  unfold L2.start
  have hj := (List.getElem?_eq_some_iff.mp h).1
  rw [List.getElem?_append_left (by rw [List.length_map]; exact hj), List.getElem?_map, h]
  rfl
theorem pad_get {l : Sts} {n j : Nat} {s : Slot} (h : (l ++ List.replicate n Slot.no)[j]? = some s) (hn : s ≠ .no) : l[j]? = some s := by
  by_cases hj : j < l.length
  · rw [List.getElem?_append_left hj] at h
    exact h
  · rw [List.getElem?_append_right (by omega), List.getElem?_replicate] at h
    split at h
    · exact absurd (Option.some.inj h).symm hn
    · cases h
theorem mode_at {ms : List Bool} {j : Nat} (h : j < ms.length) : ms[j]? = some true ∨ ms[j]? = some false := by
  rw [List.getElem?_eq_getElem h]
  cases ms[j] <;> simp
theorem retR_nx (prot : List Nat) (σ : Sts) (r : R) : NoEx (retR prot σ r) := by
  cases r with
  | v d => exact NoEx.ok
  | t ds => exact NoEx.ok
  | p i =>
    simp only [retR]
    refine NoEx.ite NoEx.no ?_
    split <;> first | exact NoEx.ok | exact NoEx.no
theorem outsOf_nx : ∀ (is : List Nat) (σ : Sts), NoEx (outsOf is σ)
  | [], σ => NoEx.ok
  | i :: is, σ => by
    unfold outsOf
    split
    · exact (outsOf_nx is σ).map
    · exact NoEx.no
/-- a def's body from its arguments on -/
theorem body_ok {Φ : Fns} {Γ : List D} {N : List Str} {inout : List Bool} {t : T} {vs : List V} {Q : VK} {E : XK} (h : spF τ K (mkFn Φ Γ inout N.length t) vs H Q E) :
    tB Φ Γ (tbOf τ) (wOf K E) K (protOf 0 inout) t { nx := fun _ H' => Q .non H', rt := Q } (L2.start N vs) H := by
  obtain ⟨G, ds, sG, tb, nt, hl, rp, nd, k⟩ := h
  have hl : vs.length = inout.length := hl
  have rp : RPs K G H inout vs ds := rp
  have nd : (insOf inout vs).Nodup := nd
  obtain ⟨l1, l2, a1, a2⟩ := rp.at
  have own0 : ∀ (i : Nat) (es : List D), (startD inout ds ++ List.replicate (N.length - inout.length) Slot.no)[i]? = some (Slot.own es) → inout[i]? = some true ∧ ∃ a xs, vs[i]? = some (V.ref a) ∧ H a = some (HO.lst xs) ∧ G a = none ∧ RpA K G xs es := fun i es h => by
    have h := pad_get h (fun z => by cases z)
    have hi : i < inout.length := by rw [← l2]; exact (List.getElem?_eq_some_iff.mp h).1
    rcases mode_at hi with m | m
    · obtain ⟨a, xs, es', z1, z2, z3, z4, z5⟩ := a1 i m
      rw [h] at z2
      cases z2
      exact ⟨m, a, xs, z1, z3, z4, z5⟩
    · obtain ⟨v, d, z1, z2, z3⟩ := a2 i m
      rw [h] at z2
      cases z2
  have S : S2 (tbOf τ) K G H (startD inout ds ++ List.replicate (N.length - inout.length) Slot.no) (L2.start N vs) := by
    refine ⟨?_, sG, fun i d h => ?_, fun i es h => ?_, fun i j es fs a h1 h2 h3 h4 => ?_, tb, nt, fun i h => ?_, fun _ _ z => nomatch z⟩
    · unfold L2.start
      rw [List.length_append, List.length_append, List.length_map, List.length_replicate, List.length_replicate, l2, hl]
    · have h := pad_get h (fun z => by cases z)
      have hi : i < inout.length := by rw [← l2]; exact (List.getElem?_eq_some_iff.mp h).1
      rcases mode_at hi with m | m
      · obtain ⟨a, xs, es', z1, z2, z3, z4, z5⟩ := a1 i m
        rw [h] at z2
        cases z2
      · obtain ⟨v, d', z1, z2, z3⟩ := a2 i m
        rw [h] at z2
        cases z2
        exact ⟨v, start_get z1, z3⟩
    · obtain ⟨m, a, xs, z1, z2, z3, z4⟩ := own0 i es h
      exact ⟨a, xs, start_get z1, z2, z3, z4⟩
    · obtain ⟨m1, b1, xs1, z1, _⟩ := own0 i es h1
      obtain ⟨m2, b2, xs2, y1, _⟩ := own0 j fs h2
      rw [start_get z1] at h3
      rw [start_get y1] at h4
      cases h3
      cases h4
      exact insOf_inj nd m1 m2 z1 y1
    · have h := pad_get h (fun z => by cases z)
      have hi : i < inout.length := by rw [← l2]; exact (List.getElem?_eq_some_iff.mp h).1
      rcases mode_at hi with m | m
      · obtain ⟨a, xs, es', z1, z2, z3, z4, z5⟩ := a1 i m
        rw [h] at z2
        cases z2
      · obtain ⟨v, d, z1, z2, z3⟩ := a2 i m
        rw [h] at z2
        cases z2
  have ownIn : ∀ b, Own (startD inout ds ++ List.replicate (N.length - inout.length) Slot.no) (L2.start N vs) b → V.ref b ∈ insOf inout vs := fun b ⟨i, es, h1, h2⟩ => by
    obtain ⟨m, a, xs, z1, _⟩ := own0 i es h1
    rw [start_get z1] at h2
    cases h2
    exact insOf_at i m z1
  refine ⟨_, G, S, ?_⟩
  simp only [mkFn] at k
  have hds : ds.length = inout.length := rp.dlen
  rw [if_pos hds] at k
  cases eb : evB Φ Γ t (startD inout ds ++ List.replicate (N.length - inout.length) Slot.no) with
  | no => rw [eb] at k; exact k.elim
  | ex c as =>
    rw [eb] at k
    have k : (inout.all fun b => !b) = true ∧ ∀ H', PostX τ H H' → ∀ cls d, ExcAt K c as cls d H' → E cls d H' := k
    have hin := ins_none vs k.1
    exact fun H' kx cls d ea => k.2 H' ⟨fun b o e n => kx.keep b o e n fun z => (by have z2 := ownIn b z; rw [hin] at z2; cases z2), kx.dom, kx.tabs⟩ cls d ea
  | ok q =>
    rw [eb] at k
    have k : (match ((match q.1 with | .nx => Res.ok (R.v .none) | .rt r => retR (protOf 0 inout) q.2 r).bind fun r => (outsOf (protOf 0 inout) q.2).bind fun os => Res.ok (r, os)) with
      | .ok w => ∀ v G' H', Post τ G H G' H' (insOf inout vs) → RN K G' H' H v w.1 → ROuts K G' H' (insOf inout vs) w.2 → Q v H'
      | .ex c as => (inout.all fun b => !b) = true ∧ ∀ H', PostX τ H H' → ∀ cls d, ExcAt K c as cls d H' → E cls d H'
      | .no => False) := k
    have e2' : NoEx (match q.1 with | .nx => Res.ok (R.v .none) | .rt r => retR (protOf 0 inout) q.2 r) := by
      split
      · exact NoEx.ok
      · exact retR_nx _ _ _
    generalize er : (match q.1 with | .nx => Res.ok (R.v .none) | .rt r => retR (protOf 0 inout) q.2 r) = rr at k e2'
    cases rr with
    | no => exact k.elim
    | ex c as => exact absurd rfl (e2' c as)
    | ok r =>
      cases e3 : outsOf (protOf 0 inout) q.2 with
      | no => rw [e3] at k; exact k.elim
      | ex c as => exact absurd e3 (outsOf_nx _ _ c as)
      | ok os =>
        rw [e3] at k
        have kk : ∀ v G' H', Post τ G H G' H' (insOf inout vs) → RN K G' H' H v r → ROuts K G' H' (insOf inout vs) os → Q v H' := k
        clear k
        intro σV' G' H' S' st l p
        have post : Post τ G H G' H' (insOf inout vs) := ⟨st.gm, S'.sub, fun b h1 h2 h3 => st.gn b h1 h2 fun o => h3 (ownIn b o), fun b o h1 n h2 => st.keep b o h1 n fun z => h2 (ownIn b z), st.dom, S'.tabs, S'.nt⟩
        have outs : ROuts K G' H' (insOf inout vs) os := outs_ok S' (fun j v h1 h2 => by
          rw [Nat.zero_add, p j (protOf_mem.mpr ⟨j, by omega, h1⟩)]
          exact start_get h2) hl e3
        obtain ⟨fl, σ'⟩ := q
        cases fl with
        | nx =>
          cases er
          exact kk .non G' H' post .non outs
        | rt r0 =>
          intro v rv
          have e2 : retR (protOf 0 inout) σ' r0 = .ok r := er
          refine kk v G' H' post ?_ outs
          cases r0 with
          | v d => cases e2; exact rv
          | t es =>
            cases e2
            obtain ⟨a, xs, z1, z2, z3, z4, z5, z6⟩ := rv
            exact ⟨a, xs, z1, z2, z3, z5, z6⟩
          | p i =>
            simp only [retR] at e2
            split at e2
            · cases e2
            · rename_i hi
              split at e2
              · rename_i es hs
                cases e2
                obtain ⟨a, xs, z1, z2, z3, z4⟩ := S'.own i es hs
                rw [rv.1] at z1
                cases z1
                refine ⟨a, xs, rfl, z2, z3, ?_, z4⟩
                rcases st.own a ⟨i, es, hs, rv.1⟩ with o | o
                · exfalso
                  obtain ⟨j, fs, h1, h2⟩ := o
                  obtain ⟨m, b, ys, w1, _⟩ := own0 j fs h1
                  rw [start_get w1] at h2
                  cases h2
                  have hj : j ∈ protOf 0 inout := protOf_mem.mpr ⟨j, by omega, m⟩
                  obtain ⟨gs, hg⟩ := outsOf_own e3 j hj
                  have := S'.sep i j es gs a hs hg rv.1 (by rw [p j hj]; exact start_get w1)
                  subst this
                  exact hi hj
                · exact o
              · rename_i d hs
                cases e2
                obtain ⟨u, z1, z2⟩ := S'.val i d hs
                rw [rv.1] at z1
                cases z1
                exact z2
              · cases e2
/-- an own error class of the head -/
def ExK (P : Program) (w : World) (K : PySem.W.Frag) (mg : Str → Option Value) (base : Heap) (x : Str) : Prop := ∀ (p pos : Pos) (Y : Cx), Y.prog = P → Y.w = w → Y.K = K → Y.mg = mg → Y.base = base → Room 1 Y.A → Gl Y x → PMk Y (.Call (.Name x p) [] [] pos) (fun _ H Q => Q (.ref (He.ga K x)) none H)
def ExKA (P : Program) (w : World) (K : PySem.W.Frag) (mg : Str → Option Value) (base : Heap) (x : Str) : Prop := ∀ (p pos : Pos) (e : Expr) (ta : TA) (Y : Cx), Y.prog = P → Y.w = w → Y.K = K → Y.mg = mg → Y.base = base → PA Y [e] ta → starEach [e] Y.env = (false, eval e Y.env) :: starEach [] Y.env → Room 1 Y.A → Gl Y x → PMk Y (.Call (.Name x p) [e] [] pos) (tMkA K x (fieldOf x) ta)
def CatK (Φ : Fns) (τ : List (Addr × Str)) (P : Program) (w : World) (K : PySem.W.Frag) (mg : Str → Option Value) (base : Heap) (x : Str) (k : Nat) : Prop := ∀ Y : Cx, Y.prog = P → Y.w = w → Y.K = K → Y.mg = mg → Y.base = base → CatIn Φ τ Y x k
def LamK (τ : List (Addr × Str)) (K : PySem.W.Frag) (mg : Str → Option Value) (base : Heap) (fd : FuncData) (q : Str) : Prop := ∃ c P, LamX.TabB base mg c P ∧ fd.code = .ref c ∧ (P, q) ∈ τ ∧ ∀ p ∈ τ, p.1 = P → p.2 = q
/-- A DEF BY ITS TERM -/
theorem fn_sem {P : Program} {w : World} {mg : Str → Option Value} {base : Heap} {x : Str} {params : Arguments} {stmts : List Stmt} {sc : Scope} {f : Addr} {fd : FuncData} {N ps : List Str} {inout : List Bool} {k : Nat} {Φ : Fns} {Γ : List D} {t : T} {C : CC} (n : Nat)
    (F : FunD K x x params stmts sc [] [] f fd) (S : FnScope N ps sc) (hl : ps.length = inout.length) (hN : C.N = N) (hsc : C.sc = sc) (hb : C.blk = none) (hp : C.prot = protOf 0 inout) (hC : cB (cS n C) stmts = some t)
    (fns : ∀ x i, C.fns.lookup x = some i → ∃ f fd ps k', mg x = some (.ref f) ∧ PySem.W.keepIn K (.ref f) = true ∧ Binds K fd ps [] ∧ FnG C.g P w K mg base k' f fd ps (spF τ K (Φ i)) ∧ k' ≤ k ∧ ps.length = (Φ i).inout.length)
    (cst : ∀ x j, C.cst.lookup x = some j → ∃ u v d, mg x = some u ∧ RelV v u ∧ Γ[j]? = some d ∧ ∀ G, Rp K G v d) (bi : ∀ x ∈ biNames, mg x = none)
    (exs : ∀ x ∈ C.exs, ExK P w K mg base x) (rm : C.exs ≠ [] → 1 ≤ k) (exa : ∀ x ∈ C.exa, ExKA P w K mg base x) (rma : C.exa ≠ [] → 1 ≤ k)
    (cats : ∀ x i, C.cats.lookup x = some i → CatK Φ τ P w K mg base x i) (lam : C.cats ≠ [] → LamK τ K mg base fd ((x ++ ".<locals>.") ++ "<lambda>") ∧ C.lk + 8 ≤ k)
    (lfns : ∀ x i, C.lfns.lookup x = some i → ∃ f fd ps k', mg x = some (.ref f) ∧ PySem.W.keepIn K (.ref f) = true ∧ Binds K fd ps [] ∧ FnG false P w K mg base k' f fd ps (spF τ K (Φ i)) ∧ k' ≤ C.lk ∧ ps.length = (Φ i).inout.length) (hx0 : C.exc = none := by rfl) (tab : ∀ x j, C.tbs.lookup x = some j → TabK Γ w K mg x j := by exact fun _ _ h => nomatch h) (fad : ∀ x ∈ C.fvs, mg x = some (.ref (He.fAd K (x, none))) := by exact fun _ h => by cases h) :
    FnG C.g P w K mg base (k + 1) f fd ps (spF τ K (mkFn Φ Γ inout N.length t)) := by
  have len : ∀ vs H Q E, spF τ K (mkFn Φ Γ inout N.length t) vs H Q E → vs.length = ps.length := fun vs H Q E ⟨G, ds, _, _, _, h, _⟩ => h.trans hl.symm
  refine ⟨len, fun A outer s H args us vs Q E hr ha e0 hbd hv h => ?_⟩
  obtain ⟨oc, od, dV, kV, doc, pm, an, cdv, ct, osl, rfl, lk, hcd, _, _⟩ := F.ex
  refine LamX.run_ofS lk hcd S hr e0 hbd hv (len _ _ _ _ h) fun hr' => ⟨tB Φ Γ (tbOf τ) (wOf K E) K (protOf 0 inout) t, ?_, body_ok h⟩
  have ok : CtxOk Φ Γ (tbOf τ) (wOf K E) C (cxOf (L2.CX P w) P w K mg base N x sc f cdv A outer s H E) :=
    { N := hN.symm, nd := hN ▸ S.nd, sc := hsc.symm, fn := fun _ _ => rfl, calm := fun _ => rfl,
      tk := (takes_of (E := E) rfl rfl rfl rfl).imp fun cls d σ H z => by
        obtain ⟨c, as, z1, z2⟩ := z
        exact z2 cls d z1
      po := passes_of rfl
      fns := fun x i hx => by
        obtain ⟨f', fd', ps', k', h1, h2, h3, h4, h5, h6⟩ := fns x i hx
        exact ⟨f', fd', ps', k', h1, h2, h3, h4, hr'.mono h5, h6⟩
      cst := cst, tab := tab, bi := bi, hu := hr'.units,
      gd := fun hg => ha hg
      ex := fun x hx p pos Y e1 e2 e3 e4 e5 => exs x hx p pos Y e3 e4 e1 e2 e5
      rm := fun h => hr'.mono (rm h)
      exa := fun x hx p pos e ta Y e1 e2 e3 e4 e5 => by
        have := exa x hx p pos e ta Y e3 e4 e1 e2 e5
        exact this
      rma := fun h => hr'.mono (rma h)
      ct := fun x i hx => cats x i hx _ rfl rfl rfl rfl rfl
      lm := fun h => by
        obtain ⟨⟨c, P', z1, z2, z3, z4⟩, z5⟩ := lam h
        exact ⟨c, P', z1, z2, z3, z4, hr'.mono z5⟩
      lf := fun x i hx => lfns x i hx
      fad := fad
      xis := fun _ h => by rw [hx0] at h; cases h
      xfl := fun _ h => by rw [hx0] at h; cases h
      xhl := fun _ h => by rw [hx0] at h; cases h
      xts := fun _ h => by rw [hx0] at h; cases h }
  have := sB (τ := tbOf τ) (W := wOf K E) (X := cxOf (L2.CX P w) P w K mg base N x sc f cdv A outer s H E) n ok hb (hsc ▸ S.kind) hC
  rw [hp] at this
  exact this
end
end Fz

/-! Ev27: the law's call at the end of its row: tables of code objects stand in the heap, nothing is being shown. -/
namespace Fz
open PySem PySem.Spec PyProof.Rows L2 LamX
/-- what stands at the start: the script, if the head does not tell it, the tables -/
def startH (told : Bool) (a : Addr) (o : Obj) (ns : List Int) (tb : List Addr) : Hp := fun b =>
  if b = a ∧ told = false then some (.frz o (.lst (ns.map V.int))) else if b ∈ tb then some (.tbl #[]) else none
section
variable {told : Bool} {a : Addr} {o : Obj} {ns : List Int} {tb : List Addr}
theorem startH_tab (h : a ∉ tb) {b : Addr} (hb : b ∈ tb) : startH told a o ns tb b = some (.tbl #[]) := by
  unfold startH
  rw [if_neg (show ¬ (b = a ∧ told = false) from fun z => h (z.1 ▸ hb)), if_pos hb]
theorem startH_cases (b : Addr) : startH told a o ns tb b = none ∨ (b ∈ tb ∧ startH told a o ns tb b = some (.tbl #[])) ∨ (b = a ∧ told = false ∧ startH told a o ns tb b = some (.frz o (.lst (ns.map V.int)))) := by
  by_cases h1 : b = a ∧ told = false
  · exact .inr (.inr ⟨h1.1, h1.2, if_pos h1⟩)
  · by_cases h2 : b ∈ tb
    · exact .inr (.inl ⟨h2, (if_neg h1).trans (if_pos h2)⟩)
    · exact .inl ((if_neg h1).trans (if_neg h2))
end
theorem law_callG {g : Bool} {P : Program} {w : World} {K : PySem.W.Frag} {mg mb : Str → Option Value} {k : Nat} {fa a : Addr} {cs : List (Addr × Addr)} {fd : FuncData} {x : Str} {sp : Sp} {s₁ : Shared} {vs : List Value} {ns : List Int}
    (KX : K.In s₁.heap) (hns : s₁.heap.Ns mainGlobals mg) (hb : s₁.heap.Ns builtinsNs mb) (hbb : ∀ x : Str, x ≠ "__name__" → mb x = bootBuiltins x) (hlim : s₁.heap.NoLimit) (hg : s₁.gens = #[])
    (hT : ∀ p ∈ cs, s₁.heap.get? p.2 = some { cls := .none, data := .fields #[] }) (nT : ∀ p ∈ cs, K.lookup p.2 = none) (C : ∀ p ∈ cs, PySem.W.CodeHd s₁.heap p.1 p.2)
    (hbm : ∃ (bm : Addr) (ob : Obj), mg "__builtins__" = some (.ref bm) ∧ bm ≠ builtinsNs ∧ s₁.heap.get? bm = some ob ∧ ob.cls = .type "module" ∧ ob.dict = some builtinsNs ∧ ob.data = .plain)
    (ha : s₁.heap.get? a = some { cls := .type "list", data := .seq vs.toArray }) (hi : IntsAre vs ns) (hl : ns.length ≤ sizeLine) (hr : Room k callerA)
    (F : ∀ base : Heap, K.In base → base.Ns mainGlobals mg → (∀ p ∈ cs, TabB base mg p.1 p.2) → FnG g P w K mg base k fa fd [x] sp) (hbind : ∀ (s : Shared) (u : Value), BindsTo s fd ⟨[u], []⟩ [(x, u)])
    (hsp : ∀ H : Hp, (∀ p ∈ cs, H p.2 = some (.tbl #[])) → (∀ b ps, H b = some (.tbl ps) → b ∈ cs.map (·.2)) → SqL K H a (ns.map V.int) → sp [.ref a] H (fun v _ => v = .bl true) fun _ _ _ => False) :
    codeAny (model P w) callerA (.call (.ref fa) ⟨[.ref a], []⟩) (fun r s' => r = .ok (.ret (.bool true)) ∧ OldK s₁.heap s'.heap ∧ s'.os = s₁.os ∧ AllBare s'.gens) s₁ := by
  have isT : ∀ {b : Addr}, b ∈ cs.map (·.2) → s₁.heap.get? b = some { cls := .none, data := .fields #[] } := fun {b} hb => by
    obtain ⟨p, hp, e⟩ := List.mem_map.mp hb
    exact e ▸ hT p hp
  have tabK : ∀ {b : Addr}, b ∈ cs.map (·.2) → K.lookup b = none := fun {b} hb => by
    obtain ⟨p, hp, e⟩ := List.mem_map.mp hb
    exact e ▸ nT p hp
  have inT : ∀ {p : Addr × Addr}, p ∈ cs → p.2 ∈ cs.map (·.2) := fun {p} hp => List.mem_map.mpr ⟨p, hp, rfl⟩
  have aT : a ∉ cs.map (·.2) := fun z => by
    have e := (isT z).symm.trans ha
    cases e
  obtain ⟨told, ht⟩ : ∃ told : Bool, told = (K.lookup a).isSome := ⟨_, rfl⟩
  let H : Hp := startH told a { cls := .type "list", data := .seq vs.toArray } ns (cs.map (·.2))
  have hH : ∀ b, H b = none ∨ (b ∈ cs.map (·.2) ∧ H b = some (.tbl #[])) ∨ (b = a ∧ told = false ∧ H b = some (.frz { cls := .type "list", data := .seq vs.toArray } (.lst (ns.map V.int)))) := fun b => startH_cases b
  have nonK : ∀ {b : Addr} {o : Obj}, K.lookup b = some o → H b = none := fun {b o} e => by
    rcases hH b with h | ⟨h, _⟩ | ⟨h, h2, _⟩
    · exact h
    · rw [tabK h] at e; cases e
    · subst h
      rw [h2, e] at ht
      cases ht
  have rv := vals_ints hi
  have seqOk : (ns.map V.int).length ≤ sizeLine := by rw [List.length_map]; exact hl
  have hok : HOk P w H s₁.heap := fun b u e => by
    rcases hH b with h | ⟨h, h2⟩ | ⟨h, _, h2⟩
    · rw [h] at e; cases e
    · rw [h2] at e; cases e; exact isT h
    · rw [h2] at e; cases e
      exact ⟨h ▸ ha, seqOk, vs, _, rv, h ▸ ha⟩
  have hS : SqL K H a (ns.map V.int) := by
    cases e : K.lookup a with
    | none =>
      rcases hH a with h | ⟨h, _⟩ | ⟨_, _, h⟩
      · have h2 : H a = some (.frz { cls := .type "list", data := .seq vs.toArray } (.lst (ns.map V.int))) := if_pos ⟨rfl, by rw [ht, e]; rfl⟩
        exact .inl (.inr ⟨_, h2⟩)
      · exact absurd h aT
      · exact .inl (.inr ⟨_, h⟩)
    | some o =>
      have e2 := (KX a o e).symm.trans ha
      cases e2
      exact .inr ⟨_, vs.toArray, _, e, rfl, rfl, rfl, by rw [List.size_toArray, hi.length]; exact hl, by simpa using rv⟩
  -- what is no list and no table is not tracked
  have free : ∀ {b : Addr} {o : Obj}, s₁.heap.get? b = some o → (∀ us n, o.data ≠ .seq us n) → o.data ≠ .fields #[] → H b = none := fun {b o} e n1 n2 => by
    rcases hH b with h | ⟨h, _⟩ | ⟨h, _, _⟩
    · exact h
    · rw [isT h] at e; cases e; exact absurd rfl n2
    · rw [h, ha] at e; cases e; exact absurd rfl (n1 _ _)
  have dfree : ∀ {b : Addr} {o : Obj} {es : Array DictEntry} {ep : Nat}, s₁.heap.get? b = some o → o.data = .dict es ep → H b = none := fun {b o es ep} e d => free e (fun us n z => by rw [d] at z; cases z) fun z => by rw [d] at z; cases z
  have nsK : ∀ {b : Addr} {m : Str → Option Value}, s₁.heap.Ns b m → (hidT s₁.heap H).Ns b m := fun {b m} ⟨o, es, ep, e, d, r⟩ => ⟨o, es, ep, hidT_get e (dfree e d), d, r⟩
  have baseK : K.In (hidT s₁.heap H) := fun b o e => hidT_get (KX b o e) (nonK e)
  have baseM : L2.Mod K mg (hidT s₁.heap H) := ⟨baseK, nsK hns, ⟨mb, nsK hb, hbb⟩, let ⟨mc, h1, h2⟩ := hlim; ⟨mc, nsK h1, h2⟩⟩
  have TB : ∀ p ∈ cs, TabB (hidT s₁.heap H) mg p.1 p.2 := fun p hp => by
    refine ⟨?_, ?_, fun z => ?_⟩
    · obtain ⟨o, us, file, tf, flags, tg, inF, text, tt, e1, r1, r2, r3, rest⟩ := C p hp
      exact ⟨o, us, file, tf, flags, tg, inF, text, tt, hidT_get e1 (free e1 (fun us n z => by rw [r2] at z; cases z) fun z => by rw [r2] at z; cases z; simp at r3), r1, r2, r3, rest⟩
    · obtain ⟨bm, ob, b1, b2, b3, b4, b5, b6⟩ := hbm
      refine ⟨bm, ob, b1, b2, fun q => ?_, fun q => ?_, hidT_get b3 (free b3 (fun us n z => by rw [b6] at z; cases z) fun z => by rw [b6] at z; cases z), b4, b5, b6⟩
      · obtain ⟨o, es, ep, e, hd, _⟩ := hns
        rw [q, e] at b3
        cases b3
        rw [hd] at b6
        cases b6
      · rw [q, hT p hp] at b3
        cases b3
        cases b6
    · obtain ⟨o, es, ep, e, hd, _⟩ := hns
      rw [z, hT p hp] at e
      cases e
      cases hd
  have e0 : Env0 P w K mg (hidT s₁.heap H) callerA [] s₁ H := ⟨rfl, baseM, fun b o e => of_hidT e, Nat.le_of_eq (hidT_size _ _), trivial, fun b hb => absurd (show b ∈ ([] : List Addr) from hb) (by simp), hok, .of_eq hg⟩
  have run := (F _ baseK (nsK hns) TB).run callerA [] s₁ H ⟨[.ref a], []⟩ [.ref a] [.ref a] _ _ hr (fun _ => rfl) e0 (hbind s₁ (.ref a)) (.cons rfl .nil) (hsp H (fun p hp => startH_tab aT (inT hp)) (fun b ps e => by
    rcases hH b with h | ⟨h, _⟩ | ⟨_, _, h⟩
    · rw [h] at e; cases e
    · exact h
    · rw [h] at e; cases e) hS)
  refine codeAny_mono run fun r s' h => ?_
  match r, h with
  | .error e, h =>
    obtain ⟨_, _, _, _, _, _, _, _, _, _, _, _, hE⟩ := (show L2.CX P w [] H s₁ (fun _ _ _ => False) e s' from h)
    exact hE.elim
  | .ok .next, h => exact False.elim h
  | .ok .brk, h => exact False.elim h
  | .ok .cont, h => exact False.elim h
  | .ok (.ret u), h =>
    obtain ⟨v, H', os, bare, un, hok', r', q⟩ := h
    have q' : v = .bl true := q
    subst q'
    obtain rfl : u = Value.bool true := r'
    have key : ∀ b o, b ∉ cs.map (·.2) → s₁.heap.get? b = some o → s'.heap.get? b = some o := fun b o nb e => by
      rcases hH b with z | ⟨z, _⟩ | ⟨_, _, z⟩
      · exact un.keep b o e z (fun z => absurd (show b ∈ ([] : List Addr) from z) (by simp)) (by simp)
      · exact absurd z nb
      · obtain ⟨e1, _⟩ := hok b _ z
        obtain ⟨e2, _⟩ := hok' b _ (un.frzs b _ _ z)
        rw [e] at e1; cases e1
        exact e2
    have grown : ∀ p ∈ cs, ∃ more : Array Value, s'.heap.get? p.2 = some { cls := .none, data := .fields more } := fun p hp => by
      obtain ⟨more, z⟩ := un.tbls p.2 #[] (startH_tab aT (inT hp))
      exact ⟨_, hok' p.2 _ z⟩
    refine ⟨rfl, ⟨fun b o e => ?_, fun b o e => ?_⟩, os, bare⟩
    · by_cases hb : b ∈ cs.map (·.2)
      · obtain ⟨p, hp, rfl⟩ := List.mem_map.mp hb
        obtain ⟨more, hm⟩ := grown p hp
        rw [hT p hp] at e
        cases e
        exact .inr (.inl ⟨((C p hp).tab (hT p hp)).isCodeTable, rfl, #[], more, rfl, by rw [Array.empty_append]; exact hm⟩)
      · exact .inl (key b o hb e)
    · by_cases hb : b ∈ cs.map (·.2)
      · obtain ⟨p, hp, rfl⟩ := List.mem_map.mp hb
        obtain ⟨more, hm⟩ := grown p hp
        exact ⟨_, hm⟩
      · exact ⟨o, key b o hb e⟩
/-- what is known of the law's promise at the head's heap h -/
def LawAtG (l : PySem.W.OpenLaw) (g : Bool) (w : World) (K : PySem.W.Frag) (k n : Nat) (x : Str) (mg : Str → Option Value) (fa : Addr) (h : Heap) : Prop :=
  ∃ (fd : FuncData) (cs : List (Addr × Addr)) (sp : Sp), (∀ p ∈ cs, h.get? p.2 = some { cls := .none, data := .fields #[] }) ∧ (∀ p ∈ cs, K.lookup p.2 = none) ∧ (∀ p ∈ cs, PySem.W.CodeHd h p.1 p.2) ∧ (∀ (s : Shared) (u : Value), BindsTo s fd ⟨[u], []⟩ [(x, u)]) ∧
    (∀ (H : Hp) (a : Addr) (ns : List Int), ns.length ≤ n → (∀ p ∈ cs, H p.2 = some (.tbl #[])) → (∀ b ps, H b = some (.tbl ps) → b ∈ cs.map (·.2)) → SqL K H a (ns.map V.int) → sp [.ref a] H (fun v _ => v = .bl true) fun _ _ _ => False) ∧
    ∀ base : Heap, K.In base → base.Ns mainGlobals mg → (∀ p ∈ cs, TabB base mg p.1 p.2) → FnG g l.prog w K mg base k fa fd [x] sp
theorem walk_ofG {l : PySem.W.OpenLaw} {g : Bool} {n k : Nat} {q : Program} {loose : List Str} {XP : (Str → Option Value) → Heap → Prop} {YP : World → Heap → Prop} {d : DefRec} {x : Str}
    (hn : l.most = some n) (hn2 : n ≤ sizeLine) (hdf : d.params.defaults = []) (hr : Room k callerA)
    (F : ∀ (w : World) (mg : Str → Option Value) (fa : Addr) (h : Heap), YP w h → h.Ns mainGlobals mg → mg d.name = some (.ref fa) → ∃ K : PySem.W.Frag, K.In h ∧ LawAtG l g w K k n x mg fa h) :
    PySem.W.WalkO q loose XP YP l.row.toRowW d [] (fun f vs => PySem.call f vs) := by
  refine Att.attach_callB hn hdf fun w s₀ s₁ mg mb fa o pm cd doc a vs ns G Y ho hd hcd hmg hobj hints hlen hbits hg => ?_
  obtain ⟨K, KX, fd, cs, sp, hT, nT, C, hb, hsp, hF⟩ := F w mg fa _ Y G.T.g hmg
  exact law_callG KX G.T.g G.T.b G.T.builtins G.T.nolimit hg hT nT C G.T.bmain hobj hints (Nat.le_trans hlen hn2) hr hF hb fun H hH h2 hS => hsp H a ns hlen hH h2 hS
/-- the law's promise -/
theorem law_sp {τ : List (Addr × Str)} {K : PySem.W.Frag} {F : FnSem} {n : Nat} {cs : List (Addr × Addr)} (hi : F.inout = [false]) (hr : ∀ ns : List Int, ns.length ≤ n → F.run [scrD ns] = .ok (.v (.bool true), [])) (ht : ∀ p ∈ τ, p.1 ∈ cs.map (·.2)) (H : Hp) (a : Addr) (ns : List Int) (hl : ns.length ≤ n)
    (h1 : ∀ p ∈ cs, H p.2 = some (.tbl #[])) (h2 : ∀ b ps, H b = some (.tbl ps) → b ∈ cs.map (·.2)) (hS : SqL K H a (ns.map V.int)) :
    spF τ K F [.ref a] H (fun v _ => v = .bl true) fun _ _ _ => False := by
  have tabs : LamX.Tabs τ H := fun p hp => by
    obtain ⟨c, hc, e⟩ := List.mem_map.mp (ht p hp)
    exact LamX.TabS.nil (e ▸ h1 c hc)
  -- the values: all but the tables
  let G : Hp := fun b => match H b with
    | some (.tbl _) => none
    | o => o
  have sG : Sub G H := fun b o e => by
    have e : (match H b with | some (.tbl _) => none | o => o) = some o := e
    split at e
    · cases e
    · exact e
  have nt : NTG G := fun b ps e => by
    have e : (match H b with | some (.tbl _) => none | o => o) = some (.tbl ps) := e
    split at e
    · cases e
    · rename_i hno
      exact hno _ e
  have keep : ∀ {b : Addr} {o : HO}, H b = some o → NoTbl o → G b = some o := fun {b o} e n => by
    show (match H b with | some (.tbl _) => none | o => o) = some o
    rw [e]
    split
    · rename_i z
      exact absurd (Option.some.inj z) (n _)
    · rfl
  have hS' : SqL K G a (ns.map V.int) := by
    rcases hS with (h | ⟨o, h⟩) | h
    · exact .inl (.inl (keep h fun _ z => by cases z))
    · exact .inl (.inr ⟨o, keep h fun _ z => by cases z⟩)
    · exact .inr h
  refine ⟨G, [scrD ns], sG, tabs, nt, by rw [hi]; rfl, by rw [hi]; exact ⟨.scr hS' rfl, trivial⟩, by rw [hi]; exact List.nodup_nil, ?_⟩
  rw [hr ns hl]
  intro v G' H' po rn outs
  have rn : Rp K G' v (.bool true) := rn
  cases rn
  rfl
end Fz

/-! Ev34: an exception that a context bears: isinstance of it, its field, a def that is handed it. -/
namespace PySem.W
open PySem PySem.Spec PySem.Calls PyProof.Rows
section
variable {prog : Program} {w : World} {A : Around} {E : Value → Shared → Prop} {s : Shared} {K : Frag} {x D : Addr} {ox : Obj} {od : Option Obj}
theorem zz_findObj {C : Addr} {name : Str} {a g : Value} (hc : (clsIn K C).isSome = true) (ha : findIn K (.ref C) name = some (some a)) (hg : specialIn K a "__get__" = some (some g)) (ht : takesIn K a = some true) : findObj K C od name = some (.bind g a) := by
  obtain ⟨cd, hc⟩ := Option.isSome_iff_exists.mp hc
  unfold findObj
  rw [hc, Option.bind_some, ha, Option.bind_some]
  simp [hg, ht]
theorem zz_class {Q : Option Value → Shared → Prop} (hga : findIn K (.ref D) "__getattribute__" = some (some (.builtin "BaseException.__getattribute__"))) (hgt : findIn K (.ref D) "__getattr__" = some none) (hsub : subIn K (.ref D) (.type "BaseException") = some true)
    (hdct : hasDictIn K D = true) (ha : findIn K (.ref D) "__class__" = some (some (.builtin "object.__class__")))
    (hn : specialIn K (.builtin "object.__class__") "__get__" = some (some (.builtin "getset_descriptor.__get__"))) (htk : takesIn K (.builtin "object.__class__") = some true) (hm : mroIn K D (.type "object") = some true)
    (X : K.In s.heap) (I : InstAt s.heap x ox D od) (h : Q (some (.ref D)) { s with toks := s.toks + 1 }) : wpAny (model prog w) A (getAttr? (.ref x) "__class__") Q E s := by
  have hf : findObj K D od "__class__" = some (.bind (.builtin "getset_descriptor.__get__") (.builtin "object.__class__")) := zz_findObj (by obtain ⟨cd, hc, _⟩ := any_some hdct; rw [hc]; rfl) ha hn htk
  obtain ⟨hp, g, d, t, os⟩ := s
  have L0 := I.type (M := model prog w)
  have L1 := looks_findIn (M := model prog w) X hga
  have L2 := looks_findIn (M := model prog w) X hgt
  have L3 := looks_find (M := model prog w) X I hf
  have sub : Looks (model prog w) hp (isInstance (.ref x) (.type "BaseException")) true := L0.andThen (looks_subIn X hsub)
  have hx0 : (false && onTheHeap (Value.builtin "BaseException.__getattribute__")) = false := rfl
  have hx2 : (Value.builtin "BaseException.__getattribute__" == Value.builtin "object.__getattribute__") = false := by decide +kernel
  have hx1 : (onTheHeap (Value.ref D) && Value.builtin "BaseException.__getattribute__" == Value.builtin "object.__getattribute__") = false := by rw [hx2]; rfl
  unfold getAttr? getAttrBy? getAttrBy
  refine wpAny_bind (wpAny_mkText (wpAny_bind (wpAny_attempt (wpAny_holding (wpAny_bind (L0.at (wpAny_bind (L1.at ?_))))))))
  show wpAny _ _ (if (onTheHeap (Value.ref D) && Value.builtin "BaseException.__getattribute__" == Value.builtin "object.__getattribute__") = true then _ else _) _ _ _
  rw [hx1, if_neg Bool.false_ne_true]
  unfold getAttrByItsOwn hookBefore
  refine wpAny_bind ?_
  rw [if_pos (show onTheHeap (Value.ref D) = true from rfl)]
  refine L2.at ?_
  refine wpAny_bind (wpAny_attempt (wpAny_holding ?_))
  unfold callGetattribute
  rw [hx0, if_neg Bool.false_ne_true]
  unfold boundAndCalled
  rw [PySem.F.excAttr_ValueError.ga.bind (.ref x)]
  refine wpAny_bind (wpAny_pure ?_)
  show wpAny _ _ (call (.builtin "BaseException.__getattribute__") [.ref x, .str "__class__" t]) _ _ _
  refine wpAny_call (codeAny_call_builtin PySem.F.excAttr_ValueError.ga.plain PySem.F.entry_bexc_ga ?_)
  refine @check_slot (model prog w) _ _ ⟨hp, g, d, t + 1, os⟩ "BaseException.__getattribute__" "BaseException" "__getattribute__" (.ref x) [.str "__class__" t] [] _ (by decide +kernel) (by decide +kernel) sub (PySem.F.args_bexc_ga (.ref x) (.str "__class__" t)) ?_
  unfold Builtin.«object.__getattribute__»
  refine wpAny_bind (wpAny_of_eq (a := ((Value.ref x : Value), [Value.str "__class__" t])) (by first | rfl | (simp only [slotArgs]; rfl)) ?_)
  refine wpAny_bind (wpAny_pure (wpAny_bind (L0.at (wpAny_bind (L3.at ?_)))))
  show wpAny _ _ (holding [Value.builtin "object.__class__"] (call (.builtin "getset_descriptor.__get__") [.builtin "object.__class__", .ref x, .ref D]) >>= ret) _ _ _
  refine wpAny_bind (wpAny_holding (wpAny_call (class_get (s := ⟨hp, g, d, t + 1, os⟩) (ox := ox) (od := od) X I hm ?_)))
  refine wpAny_pure ?_
  show wpAny _ _ (handedOut (.ref D)) _ _ _
  rw [handedOut_of (v := .ref D) rfl]
  first
    | exact wpAny_pure (wpAny_pure h)
    | exact wpAny_pure h
    | exact wpAny_pure (wpAny_bind (wpAny_pure (wpAny_pure h)))
theorem zz_kitx (hga : findIn K (.ref D) "__getattribute__" = some (some (.builtin "BaseException.__getattribute__"))) (hgt : findIn K (.ref D) "__getattr__" = some none) (hsub : subIn K (.ref D) (.type "BaseException") = some true) (hdct : hasDictIn K D = true) (ha : findIn K (.ref D) "__class__" = some (some (.builtin "object.__class__")))
    (hn : specialIn K (.builtin "object.__class__") "__get__" = some (some (.builtin "getset_descriptor.__get__"))) (htk : takesIn K (.builtin "object.__class__") = some true) (hm : mroIn K D (.type "object") = some true) :
    KitX K (.ref x) (.ref D) (fun h => InstAt h x ox D od) where
  ty := fun _ _ _ I => I.type
  it := fun _ _ X _ => by
    obtain ⟨cdD, hcD, _⟩ := any_some hdct
    unfold clsIn at hcD
    split at hcD
    · rename_i c' d' cd' sl' ho
      intro A' Q' E' s' k q
      unfold isType loadHead
      exact wpAny_bind (wpAny_loadPart (k _ _ (X _ _ ho)) (wpAny_pure q))
    · cases hcD
  ne := fun h tp dd its n sl X htp => by
    obtain ⟨cdD, hcD, _⟩ := any_some hdct
    refine Bool.eq_false_iff.mpr fun q => ?_
    have e : D = tp := Value.ref.inj (beq_iff_eq.mp q)
    subst e
    unfold clsIn at hcD
    split at hcD
    · rename_i c' d' cd' sl' ho
      have z := (X _ _ ho).symm.trans htp
      cases z
    · cases hcD
  ca := fun X I k => zz_class hga hgt hsub hdct ha hn htk hm X I k
end
end PySem.W
namespace Fz
open PySem PySem.Spec PyProof.Rows L2
/-- the exception's dict, told -/
def XoAt (d : Option Addr) (xo : Option (Addr × List (Str × V))) : Prop := match d with
  | none => xo = none
  | some dd => ∃ f, xo = some (dd, f)
section
variable {X : Cx} {a D : Addr} {oe : Obj} {d : Option Addr} {xo : Option (Addr × List (Str × V))}
/-- isinstance(e, c), e an exception that the context bears -/
theorem call_isX (C : ExcC X.K D) (hm : (a, oe) ∈ X.pn) (hz : Zc (.ref D) d oe) (hf : ∃ vs, oe.data = .fields vs) (hx : XoAt d xo) : CallR X (.builtin "isinstance") (fun xs H Q => ∃ (c : V) (cv : Value) (b : Bool), xs = [.ref a, c] ∧ (∀ u, RelV c u → u = cv) ∧ PySem.W.kitOne X.K (.ref D) cv = some b ∧ (∀ dd f, xo = some (dd, f) → H dd = some (.xd f)) ∧ Q (.bl b) H) := by
  intro pins s σ H xs us Q I r h
  obtain ⟨c, cv, b, rfl, hcv, e, hxo, q⟩ := h
  cases r with
  | cons rx rr =>
    cases rr with
    | cons rt rr =>
      cases rr
      cases rx
      have ec := hcv _ rt
      subst ec
      obtain ⟨hget, _⟩ := I.pin (a, oe) (List.mem_append.mpr (.inl hm))
      obtain ⟨vs, hv⟩ := hf
      have J : ∃ od, PySem.W.InstAt s.heap a oe D od := by
        cases d with
        | none =>
          obtain ⟨oc, od, oda, osl⟩ := oe
          obtain ⟨h1, h2⟩ := hz
          dsimp only at h1 h2 hv
          subst h1 h2 hv
          exact ⟨none, hget, rfl, rfl, trivial⟩
        | some dd =>
          obtain ⟨f, hxe⟩ := hx
          obtain ⟨mA, hns, _⟩ := I.hok dd _ (hxo dd f hxe)
          obtain ⟨od, ho, _⟩ := lookIn_ns hns
          exact ⟨some od, hget, hz.1, by unfold PySem.W.notCls; rw [hv] <;> rfl, by rw [hz.2]; exact ho⟩
      obtain ⟨od, J⟩ := J
      exact PySem.W.kia_one (PySem.W.zz_kitx C.hg C.hk C.hs C.hd C.ha C.hn C.ht C.hm) I.kIn J e (fun z => nomatch z) fun tk => ⟨.bl b, H, I.kept (t' := tk) fun _ _ z => z, rfl, q⟩
/-- its field -/
theorem pe_xfX {e : Expr} {te : TE} {pos : Pos} {n : Str} {dd : Addr} {fs : List (Str × V)} {v : V} (T : XfC X.K D) (hno : PySem.W.findIn X.K (.ref D) n = some none) (hm : (a, oe) ∈ X.pn) (hz : Zc (.ref D) (some dd) oe) (hf : ∃ vs, oe.data = .fields vs) (hl : fs.lookup n = some v) (he : PE X e te) (hb : attributeBase e n X.env (eval e X.env) = eval e X.env) :
    PE X (.Attribute e n pos) (fun σ H Q => te σ H fun x H1 => x = .ref a ∧ H1 dd = some (.xd fs) ∧ Q v H1) := by
  refine ⟨fun pins s σ H Q I h => ?_⟩
  refine attr_of hb (thn (he.run pins s σ H _ I h) fun u s1 hh => ?_)
  obtain ⟨x, H1, I1, rx, ex, ea, q⟩ := hh
  subst ex
  obtain rfl : u = Value.ref a := rx
  obtain ⟨ha, _⟩ := I1.pin (a, oe) (List.mem_append_left _ hm)
  obtain ⟨vs, hd⟩ := hf
  have hx : ObjOk X.prog X.w H1 s1.heap dd (.xd fs) := I1.hok dd _ ea
  obtain ⟨mA, hns, hr⟩ := hx
  obtain ⟨od, ho, hl2⟩ := lookIn_ns hns
  obtain ⟨u, hu, ru⟩ := RelO.some_of (v := v) (o := mA n) (by rw [← hl]; exact hr n)
  have J : PySem.W.InstAt s1.heap a oe D (some od) := ⟨ha, hz.1, by unfold PySem.W.notCls; rw [hd] <;> rfl, by rw [hz.2]; exact ho⟩
  exact HandSPX.exc_get I1.kIn J T.ga T.gg T.exC (PySem.W.findObj_own T.hdC hno rfl (by rw [hl2, hu])) (handed_of ru) ⟨v, H1, I1.tok _, ru, q⟩
end
/-! ### a def that is handed the exception -/
/-- what it promises, where p is the exception -/
structure FnX (P : Program) (w : World) (K : PySem.W.Frag) (mg : Str → Option Value) (base : Heap) (k : Nat) (f : Addr) (fd : FuncData) (ps : List Str) (p : Addr × Obj) (sp : Sp) : Prop where
  len : ∀ vs H Q E, sp vs H Q E → vs.length = ps.length
  run : ∀ (A : Around) (outer : List Env) (s : Shared) (H : Hp) (args : Args) (us : List Value) (vs : List V) (Q : VK) (E : XK), L2H.RoomH k A → L2H.PinOk outer H s p → Env0 P w K mg base A outer s H → BindsTo s fd args (ps.zip us) → Vals vs us → sp vs H Q E →
    codeAny (model P w) A (.call (.ref f) args) (CR (L2.CX P w) outer P w H s Q E) s
theorem fnX_of {P : Program} {w : World} {K : PySem.W.Frag} {mg : Str → Option Value} {base : Heap} {k : Nat} {f : Addr} {name qual : Str} {params : Arguments} {body : List Stmt} {scope : Scope} {dV kV doc pm cdv ct oc : Value} {an od : Option Addr}
    {osl : Array (Option Value)} {N ps : List Str} {sp : Sp} {p : Addr × Obj} (lk : K.lookup f = some ⟨oc, od, .func (PySem.W.fnOf name qual params body scope dV kV doc pm an cdv ct), osl⟩) (hcd : PySem.W.codeIn K cdv qual = true) (S : FnScope N ps scope)
    (len : ∀ vs H Q E, sp vs H Q E → vs.length = ps.length)
    (hbody : ∀ (A : Around) (outer : List Env) (s : Shared) (H : Hp) (vs : List V) (Q : VK) (E : XK), L2H.RoomH k (A.deeper (envOfC qual scope s.heap.objs.size f cdv)) → sp vs H Q E →
      ∃ t, PSs (L2H.cxH (L2.CX P w) P w K mg base N qual scope f cdv A outer s H E p) body t ∧ t { nx := fun _ H' => Q .non H', rt := Q } (L2.start N vs) H) :
    FnX P w K mg base (k + 1) f (PySem.W.fnOf name qual params body scope dV kV doc pm an cdv ct) ps p sp := by
  refine ⟨len, fun A outer s H args us vs Q E hr hpin e0 hb r hsp => ?_⟩
  have hl := len _ _ _ _ hsp
  have KX : K.In s.heap := e0.mod.kin.keeps fun b o e => (e0.bs b o e).1
  have lim : s.heap.NoLimit := e0.mod.nolimit.keeps fun b o e => (e0.bs b o e).1
  have hkind : ∀ y ∈ ps.zip us, scope.names.lookup y.1 = some .local ∨ (scope.names.lookup y.1 = some .cell ∧ ((cellsFrom (s.heap.objs.size + 1) scope.names []).lookup y.1).isSome = true) := fun ⟨n, v⟩ hy => by
    rcases S.par n (List.of_mem_zip hy).1 with q | q
    · exact .inl q
    · exact .inr ⟨q, PySem.W.cellsFrom_some _ _ _ (.inl q)⟩
  refine codeAny_call_function hr.depth (KX _ _ lk) rfl S.co S.gen rfl (PySem.W.codeRec_of KX hcd) (hb _ _ _ _ ?_)
  refine wpAny_newFunctionEnv_cells S.kind hkind fun env he s1 x => ?_
  subst he
  refine ⟨lim.keeps x.toInCall.keep, codeAny_func ?_⟩
  obtain ⟨t, ht, hq⟩ := hbody A outer s H vs Q E (hr.deeper _) hsp
  have I := L2H.inv_startH (CX := L2.CX P w) (f := f) (cd := cdv) (qual := qual) (E := E) S hpin e0 hl r x
  refine wpAny_mono (ht.run [] s1 (L2.start N vs) H _ I hq) (fun fl s' hs => ?_) fun e s' hs => hs
  have fin : ∀ {σ' : L2.St} {H' : Hp} {v : V} {u : Value}, Inv (L2H.cxH (L2.CX P w) P w K mg base N qual scope f cdv A outer s H E p) [] σ' H' s' → RelV v u → Q v H' → CE outer P w H s Q u s' :=
    fun {σ' H' v u} J rv q => ⟨v, H', J.os, J.bare, J.base, J.hok, rv, q⟩
  cases fl with
  | ret u =>
    obtain ⟨v, σ', H', J, rv, q⟩ := hs
    exact fin J rv q
  | next =>
    obtain ⟨σ', H', J, q⟩ := hs
    exact fin (v := V.non) (u := Value.none) J rfl q
  | brk =>
    obtain ⟨_, _, _, q⟩ := hs
    exact False.elim q
  | cont =>
    obtain ⟨_, _, _, q⟩ := hs
    exact False.elim q
section
variable {X : Cx} {k : Nat} {f : Addr} {fd : FuncData} {ps : List Str} {sp : Sp} {E : L2.St → XK} {x : Str} {q pos : Pos} {e : Expr} {es : List Expr} {t : TA} {p : Addr × Obj}
theorem pe_callX (F : FnX X.prog X.w X.K X.mg X.base k f fd ps p sp) (hr : L2H.RoomH k X.A) (hp : p ∈ X.pn) (hg : Gl X x) (hm : X.mg x = some (.ref f)) (hk : PySem.W.keepIn X.K (.ref f) = true) (hb : Binds X.K fd ps []) (hx : ∀ σ, PassesAt (L2.CX X.prog X.w) X σ (E σ))
    (ha : PA X (e :: es) t) (hdb : (x == ("__debug__" : Str)) = false) (he : starEach (e :: es) X.env = (false, eval e X.env) :: starEach es X.env) (hpl : (backTo pos (starEach es X.env)).any (·.1) = false) :
    PE X (.Call (.Name x q) (e :: es) [] pos) (tCallS sp E t) := by
  refine ⟨fun pins s σ H Q I h => ?_⟩
  refine wpAny_Call_Name_kw (ld_glob I hg hm ?_ hdb)
  refine PySem.W.callWith_K (h₀ := X.base) I.ok.mod.kin hk (thn (ha.run pos pins s σ H _ I h) fun us s1 ⟨vs, H1, I1, r, q⟩ => ⟨I1.kIn, ?_⟩) he hpl
  have hl : us.length = ps.length := by rw [← r.length]; exact F.len _ _ _ _ q
  have b := hb s1 us I1.kIn (by rw [List.append_nil]; exact hl)
  rw [List.append_nil] at b
  have P1 := I1.pin p (List.mem_append_left _ hp)
  have hpin : L2H.PinOk X.stack H1 s1 p := ⟨P1.1, P1.2.1, fun hm => (List.mem_cons.mp (I1.stkSub p.1 hm)).elim P1.2.2.1 P1.2.2.2.1, P1.2.2.2.2⟩
  refine wpAny_call (codeAny_mono (F.run X.A X.stack s1 H1 ⟨us, []⟩ us vs Q (E σ) hr hpin I1.env0 b r q) fun r s' hq => ?_)
  cases r with
  | error e => exact hx σ pins H1 s1 e s' I1 hq
  | ok fl =>
    cases fl with
    | ret u => exact I1.after hq
    | next => exact False.elim hq
    | brk => exact False.elim hq
    | cont => exact False.elim hq
end
end Fz

/-! Ev28: a def that calls what it got and tells which exception left it. -/
namespace Fz
open PySem PySem.Spec PyProof.Rows L2 LamX

/-! ### what it comes to -/
def Slot.quiet : Slot → Bool
  | .no => true
  | .val _ => true
  | _ => false
def Slot.nex : Slot → Bool
  | .exc => false
  | _ => true
/-- a state of n slots, the exception in slot i -/
def excSt (n i : Nat) : Sts := (List.replicate n Slot.no).set i .exc
def catEnd (x : Res (Fl × Sts)) : Res (R × List (List D)) := match x with
  | .ok (.rt (.v r), _) => .ok (.v r, [])
  | _ => .no
/-- what an exception bears, as the class's facts say -/
def asB : List D → List (Str × D) → Bool
  | [], [] => true
  | [.int i], [(_, .int j)] => decide (i = j)
  | [.str i], [(_, .str j)] => decide (i = j)
  | _, _ => false
/-- the slots where the call came to its end: what it gave is kept, or goes -/
def toldSt (tl : Option (Nat × Str)) (σ1 : Sts) (d : D) : Sts := match tl with
  | none => σ1
  | some (i, w) => σ1.set i (.val (.tuple [.str w, d]))
/-- what is wanted of the def's term: σ1 the slots behind its first statement, hs the suite by classes, t1 its last statement -/
noncomputable def catRun (Φ : Fns) (Γ : List D) (n ie : Nat) (tl : Option (Nat × Str)) (σ1 : Sts) (hs : List (Str × XI × T)) (t1 : T) (ds : List D) : Res (R × List (List D)) := match ds with
  | [.tuple [.none, d]] => catEnd (evS Φ Γ t1 (toldSt tl σ1 d))
  | [.tuple (.str c :: as)] => (match hs.lookup c with
      | some (xi, t) => if asB as xi.fld = true then (match evB Φ Γ t (excSt n ie) with
        | .ok (.nx, σ2) => if ((σ2.set ie .no).all Slot.nex) = true then catEnd (evS Φ Γ t1 (σ2.set ie .no)) else .no
        | _ => .no) else .no
      | none => .no)
  | _ => .no

/-! ### what the class of an exception must say -/
structure XFacts (K : PySem.W.Frag) (mg : Str → Option Value) (CS : Addr) (c : Str) (xi : XI) : Prop where
  cl : ExcC K (He.ga K c)
  sky : PySem.W.exmOne K (.ref (He.ga K c)) (.ref CS) = some true
  is : ∀ y b, xi.isx.lookup y = some b → ∃ (v : V) (u : Value), (mg y = some u ∨ (mg y = none ∧ bootBuiltins y = some u ∧ y ≠ "__name__")) ∧ RelV v u ∧ (∀ u', RelV v u' → u' = u) ∧ PySem.W.kitOne K (.ref (He.ga K c)) u = some b
  fl : xi.fld = [] ∨ ∃ d, xi.fld = [(fieldOf c, d)] ∧ PySem.W.findIn K (.ref (He.ga K c)) (fieldOf c) = some none
/-- the dict that an exception bears -/
def xoOf (xi : XI) (d : Option Addr) : Option (Addr × List (Str × V)) := match d, xi.fld with
  | some dd, [(f, x)] => some (dd, [(f, atomV x)])
  | _, _ => none
/-- what a def tells of the exception: a new list of flags -/
def spX (T : Tb) (bs : List Bool) : Sp := fun vs H Q _ => vs = [V.ref T.xa] ∧ LamX.Tabs T.l H ∧ (∀ dd f, T.xo = some (dd, f) → H dd = some (.xd f)) ∧ ∀ a H', (∀ b o, H b = some o → NoTbl o → H' b = some o) → LamX.Tabs T.l H' → ¬ St H a → H' a = some (.lst (bs.map V.bl)) → Q (.ref a) H'
def HelpK (τ : List (Addr × Str)) (P : Program) (w : World) (K : PySem.W.Frag) (mg : Str → Option Value) (base : Heap) (c : Str) (xi : XI) : Prop := ∀ y bs, xi.hlp.lookup y = some bs → ∃ f fd pn k, mg y = some (.ref f) ∧ PySem.W.keepIn K (.ref f) = true ∧ Binds K fd [pn] [] ∧ k ≤ 6 ∧
  ∀ (a : Addr) (oe : Obj) (d : Option Addr), Zc (.ref (He.ga K c)) d oe → (∃ vs, oe.data = .fields vs) → (d = none ↔ xi.fld = []) → FnX P w K mg base k f fd [pn] (a, oe) (spX { l := τ, xa := a, xo := xoOf xi d } bs)
/-- a def that is asked of two ints whether they are equal -/
def spT (τ : List (Addr × Str)) : Sp := fun vs H Q _ => ∃ m n : Int, vs = [V.int m, V.int n] ∧ LamX.Tabs τ H ∧ ∀ H', (∀ b o, H b = some o → NoTbl o → H' b = some o) → LamX.Tabs τ H' → Q (.bl (decide (m = n))) H'
def TestK (τ : List (Addr × Str)) (P : Program) (w : World) (K : PySem.W.Frag) (mg : Str → Option Value) (base : Heap) (xi : XI) : Prop := ∀ y, xi.tst = some y → ∃ f fd ps, mg y = some (.ref f) ∧ PySem.W.keepIn K (.ref f) = true ∧ Binds K fd ps [] ∧ ∀ p : Addr × Obj, FnX P w K mg base 1 f fd ps p (spT τ)
def catC (N : List Str) (sc : Scope) : CC := { N := N, sc := sc, blk := none, fns := [], cst := [], prot := [0] }
def hotC (N : List Str) (sc : Scope) (xi : XI) : CC := { N := N, sc := sc, blk := none, fns := [], cst := [], prot := [0], hot := true, exc := some xi }

section
variable {Φ : Fns} {Γ : List D} {τ : List (Addr × Str)} {X : Cx} {N : List Str} {sc : Scope}
theorem cat_ctx (hN : X.N = N) (nd : N.Nodup) (hsc : X.env.scope = sc) (fn : ∀ x, X.fn x = true) (calm : X.calm = true) (tk : Takes X fun _ _ _ _ => False) (po : PySem.PassesOwn (model X.prog X.w) X.A X.env X.xe) (bi : ∀ x ∈ biNames, X.mg x = none) (hu : X.A.units + 64 < cLine) :
    CtxOk Φ Γ (tbOf τ) W0 (catC N sc) X where
  N := hN
  nd := nd
  sc := hsc
  fn := fun x _ => fn x
  calm := fun _ => calm
  tk := tk.imp fun cls d σ H z => by
    obtain ⟨_, _, _, z⟩ := z
    exact z
  po := po
  fns := fun _ _ h => nomatch h
  cst := fun _ _ h => nomatch h
  tab := fun _ _ h => nomatch h
  bi := bi
  hu := hu
  gd := fun h => nomatch h
  ex := fun _ h => nomatch h
  rm := fun h => absurd rfl h
  exa := fun _ h => nomatch h
  rma := fun h => absurd rfl h
  ct := fun _ _ h => nomatch h
  lm := fun h => absurd rfl h
  lf := fun _ _ h => nomatch h
  fad := fun _ h => by cases h
  xis := fun _ h => nomatch h
  xfl := fun _ h => nomatch h
  xhl := fun _ h => nomatch h
  xts := fun _ h => nomatch h
theorem xoAt_of {xi : XI} {d : Option Addr} (h : xi.fld = [] ∨ ∃ f x, xi.fld = [(f, x)]) (hd : d = none ↔ xi.fld = []) : XoAt d (xoOf xi d) := by
  unfold XoAt xoOf
  cases d with
  | none => rfl
  | some dd =>
    rcases h with h | ⟨f, x, h⟩
    · exact absurd (hd.mpr h) (by simp)
    · rw [h]
      exact ⟨_, rfl⟩
theorem hot_ctx {CS a : Addr} {c : Str} {xi : XI} {oe : Obj} {d : Option Addr} (F : XFacts X.K X.mg CS c xi) (hm : (a, oe) ∈ X.pn) (hz : Zc (.ref (He.ga X.K c)) d oe) (hf : ∃ vs, oe.data = .fields vs) (hd : d = none ↔ xi.fld = []) (tk : Takes X fun _ _ _ _ => False) (po : PySem.PassesOwn (model X.prog X.w) X.A X.env X.xe)
    (hl : ∀ y bs, xi.hlp.lookup y = some bs → ∃ f fd pn k, X.mg y = some (.ref f) ∧ PySem.W.keepIn X.K (.ref f) = true ∧ Binds X.K fd [pn] [] ∧ L2H.RoomH k X.A ∧ FnX X.prog X.w X.K X.mg X.base k f fd [pn] (a, oe) (spX { l := τ, xa := a, xo := xoOf xi d } bs))
    (hts : xi.tst = none ∨ (TestK τ X.prog X.w X.K X.mg X.base xi ∧ L2H.RoomH 1 X.A))
    (hN : X.N = N) (nd : N.Nodup) (hsc : X.env.scope = sc) (fn : ∀ x, X.fn x = true) (bi : ∀ x ∈ biNames, X.mg x = none) (hu : X.A.units + 64 < cLine) :
    CtxOk Φ Γ { l := τ, xa := a, xo := xoOf xi d } W0 (hotC N sc xi) X where
  N := hN
  nd := nd
  sc := hsc
  fn := fun x _ => fn x
  calm := fun h => nomatch h
  tk := tk.imp fun cls d σ H z => by
    obtain ⟨_, _, _, z⟩ := z
    exact z
  po := po
  fns := fun _ _ h => nomatch h
  cst := fun _ _ h => nomatch h
  tab := fun _ _ h => nomatch h
  bi := bi
  hu := hu
  gd := fun h => nomatch h
  ex := fun _ h => nomatch h
  rm := fun h => absurd rfl h
  exa := fun _ h => nomatch h
  rma := fun h => absurd rfl h
  ct := fun _ _ h => nomatch h
  lm := fun h => absurd rfl h
  lf := fun _ _ h => nomatch h
  fad := fun _ h => by cases h
  xis := fun xi' hxi y b i hy hi hv ho hg oy hgi p1 p2 p3 pos => by
    cases hxi
    obtain ⟨v, u, hu, rv, hru, hk⟩ := F.is y b hy
    obtain ⟨o1, o2, o3⟩ := odd_ok ho
    obtain ⟨y1, y2, y3⟩ := odd_ok oy
    have pe : PE X (.Name xi.e p2) (tVar i) := pe_var (by rw [hN]; exact hi) hv o1 o2
    have py : PE X (.Name y p3) (tC v) := by
      rcases hu with h | ⟨h1, h2, h3⟩
      · exact pe_glob hg h rv y1
      · exact pe_bltn hg h1 h2 rv h3 y1
    have hxo : XoAt d (xoOf xi d) := xoAt_of (F.fl.imp id fun ⟨x, h, _⟩ => ⟨_, x, h⟩) hd
    exact pe_imp (pe_callB (call_isX F.cl hm hz hf hxo) hgi (bi _ (by decide)) boot_isi' (pa_cons pe (pa_cons py pa_nil)) (by decide) (by decide)) fun σ H Q ⟨h1, h2, h3⟩ => ⟨.ref a, h1, v, u, b, rfl, hru, hk, h2, h3⟩
  xfl := fun xi' hxi y x t i hy ht hi hv ho p1 pos => by
    cases hxi
    obtain ⟨o1, o2, o3⟩ := odd_ok ho
    have pe : PE X (.Name xi.e p1) (tVar i) := pe_var (by rw [hN]; exact hi) hv o1 o2
    rcases F.fl with h | ⟨x', h, hno⟩
    · rw [h] at hy
      cases hy
    · rw [h] at hy
      have hyx : y = fieldOf c ∧ x' = x := by
        simp only [List.lookup] at hy
        split at hy
        · rename_i q
          exact ⟨eq_of_beq q, Option.some.inj hy⟩
        · cases hy
      obtain ⟨rfl, rfl⟩ := hyx
      cases d with
      | none => exact absurd (hd.mp rfl) (by rw [h]; simp)
      | some dd =>
        have e : xoOf xi (some dd) = some (dd, [(fieldOf c, atomV x')]) := by unfold xoOf; rw [h]
        exact pe_imp (pe_xfX (v := atomV x') ⟨F.cl.hg, F.cl.hk, F.cl.hs, F.cl.hd⟩ hno hm hz hf (by simp [List.lookup]) pe rfl) fun σ H Q ⟨h1, h2, h3⟩ => ⟨.ref a, h1, rfl, h2 dd _ e, h3⟩
  xhl := fun xi' hxi y bs i hy hi hv ho hg oy p1 p2 pos => by
    cases hxi
    obtain ⟨f, fd, pn, k, h1, h2, h3, h4, h5⟩ := hl y bs hy
    obtain ⟨o1, o2, o3⟩ := odd_ok ho
    obtain ⟨y1, y2, y3⟩ := odd_ok oy
    have pe : PE X (.Name xi.e p2) (tVar i) := pe_var (by rw [hN]; exact hi) hv o1 o2
    exact pe_imp (pe_callX (E := fun _ _ _ _ => False) h5 h4 hm hg h1 h2 h3 (fun σ pins H s e s' => passes_call tk (fun _ _ _ _ z => z) pins σ H s e s') (pa_cons pe pa_nil) y1 rfl rfl) fun σ H Q ⟨z1, z2, z3, z4⟩ => ⟨.ref a, z1, rfl, z2, z3, z4⟩
  xts := fun xi' hxi y fl m n i ht hy hi hv ho hg oy p1 p2 p3 j p4 pos => by
    cases hxi
    obtain ⟨o1, o2, o3⟩ := odd_ok ho
    obtain ⟨y1, y2, y3⟩ := odd_ok oy
    rcases hts with hts | ⟨hts, hr⟩
    · have q : xi.tst = none := hts
      rw [q] at ht
      cases ht
    obtain ⟨f, fd, ps, h1, h2, h3, h5⟩ := hts y ht
    have pe : PE X (.Name xi.e p2) (tVar i) := pe_var (by rw [hN]; exact hi) hv o1 o2
    rcases F.fl with h | ⟨x', h, hno⟩
    · rw [h] at hy
      cases hy
    · rw [h] at hy
      have hyx : fl = fieldOf c ∧ x' = .int m := by
        simp only [List.lookup] at hy
        split at hy
        · rename_i q
          exact ⟨eq_of_beq q, Option.some.inj hy⟩
        · cases hy
      obtain ⟨rfl, rfl⟩ := hyx
      cases d with
      | none => exact absurd (hd.mp rfl) (by rw [h]; simp)
      | some dd =>
        have e : xoOf xi (some dd) = some (dd, [(fieldOf c, atomV (.int m))]) := by unfold xoOf; rw [h]
        have pa := pe_xfX (pos := p3) (dd := dd) (fs := [(fieldOf c, atomV (.int m))]) (v := atomV (.int m)) ⟨F.cl.hg, F.cl.hk, F.cl.hs, F.cl.hd⟩ hno hm hz hf (by simp [List.lookup]) pe rfl
        exact pe_imp (pe_callX (p := (a, oe)) (E := fun _ _ _ _ => False) (h5 (a, oe)) hr hm hg h1 h2 h3 (fun σ pins H s e s' => passes_call tk (fun _ _ _ _ z => z) pins σ H s e s') (pa_cons pa (pa_cons pe_int pa_nil)) y1 rfl rfl) fun σ H Q ⟨z1, z2, z3, z4⟩ => ⟨.ref a, z1, rfl, z3 dd _ e, m, n, rfl, z2, z4⟩
end

section
variable {Φ : Fns} {Γ : List D} {τ : List (Addr × Str)} {K : PySem.W.Frag} {G H : Hp} {σD : Sts} {σV : L2.St} {T0 : Tb}
/-- the exception's name goes -/
theorem S2.unset {i : Nat} (S : S2 T0 K G H σD σV) (hl : T0.l = τ) (hn : ((σD.set i .no).all Slot.nex) = true) : S2 (tbOf τ) K G H (σD.set i .no) (σV.set i none) ∧ Step σD σV G H (σD.set i .no) (σV.set i none) G H := by
  have c : ∀ {j : Nat} {s : Slot}, (σD.set i .no)[j]? = some s → s ≠ .no → j ≠ i ∧ σD[j]? = some s := fun {j s} h n => by
    rcases set_cases h with ⟨rfl, _, e1⟩ | ⟨hj, h⟩
    · exact absurd e1 n
    · exact ⟨hj, h⟩
  refine ⟨⟨by rw [List.length_set, List.length_set]; exact S.len, S.sub, fun j d h => ?_, fun j ds h => ?_, fun j k ds es a h1 h2 h3 h4 => ?_, hl ▸ S.tabs, S.nt, fun j h => ?_, fun _ _ z => nomatch z⟩, ⟨Sub.rfl', fun _ h _ _ => h, fun _ _ h _ _ => h, fun _ h => h, fun b o => ?_⟩⟩
  · obtain ⟨h1, h2⟩ := c h (fun z => by cases z)
    rw [List.getElem?_set_ne (Ne.symm h1)]
    exact S.val j d h2
  · obtain ⟨h1, h2⟩ := c h (fun z => by cases z)
    rw [List.getElem?_set_ne (Ne.symm h1)]
    exact S.own j ds h2
  · obtain ⟨k1, k2⟩ := c h1 (fun z => by cases z)
    obtain ⟨k3, k4⟩ := c h2 (fun z => by cases z)
    rw [List.getElem?_set_ne (Ne.symm k1)] at h3
    rw [List.getElem?_set_ne (Ne.symm k3)] at h4
    exact S.sep j k ds es a k2 k4 h3 h4
  · have := List.all_eq_true.mp hn _ (List.mem_of_getElem? h)
    cases this
  · obtain ⟨j, ds, h1, h2⟩ := o
    obtain ⟨k1, k2⟩ := c h1 (fun z => by cases z)
    rw [List.getElem?_set_ne (Ne.symm k1)] at h2
    exact .inl ⟨j, ds, k2, h2⟩
theorem no_own {σD : Sts} {σV : L2.St} (h : σD.all Slot.quiet = true) (b : Addr) : ¬ Own σD σV b := fun ⟨i, ds, h1, _⟩ => by
  have := List.all_eq_true.mp h _ (List.mem_of_getElem? h1)
  cases this
theorem quiet_rep (n : Nat) : (List.replicate n Slot.no).all Slot.quiet = true := by
  rw [List.all_eq_true]
  intro s h
  rw [(List.mem_replicate.mp h).2]
  rfl
theorem rep_no {n i : Nat} {s : Slot} (h : (List.replicate n Slot.no)[i]? = some s) : s = .no := by
  rw [List.getElem?_replicate] at h
  split at h
  · exact (Option.some.inj h).symm
  · cases h
theorem exc_no {n i j : Nat} {s : Slot} (h : (excSt n i)[j]? = some s) : s = .no ∨ (j = i ∧ s = .exc) := by
  unfold excSt at h
  rcases set_cases h with ⟨h1, _, h2⟩ | ⟨_, h⟩
  · exact .inr ⟨h1, h2⟩
  · exact .inl (rep_no h)
theorem s2_none (tb : LamX.Tabs T0.l H) (sG : Sub G H) (nt : NTG G) (hx : T0.xo = none) {σV : L2.St} {n : Nat} (hl : σV.length = n) : S2 T0 K G H (List.replicate n .no) σV :=
  ⟨by rw [List.length_replicate, hl], sG, fun i d h => (nomatch rep_no h), fun i ds h => (nomatch rep_no h), fun i j ds es a h => (nomatch rep_no h), tb, nt, fun i h => (nomatch rep_no h), fun _ _ z => by rw [hx] at z; cases z⟩
theorem s2_exc {a : Addr} {ie : Nat} {xo : Option (Addr × List (Str × V))} (tb : LamX.Tabs τ H) (sG : Sub G H) (nt : NTG G) (hxo : ∀ d f, xo = some (d, f) → H d = some (HO.xd f)) {σV : L2.St} {n : Nat} (hl : σV.length = n) (he : σV[ie]? = some (some (V.ref a))) : S2 { l := τ, xa := a, xo := xo } K G H (excSt n ie) σV := by
  refine ⟨by unfold excSt; rw [List.length_set, List.length_replicate, hl], sG, fun i d h => ?_, fun i ds h => ?_, fun i j ds es b h => ?_, tb, nt, fun i h => ?_, hxo⟩
  · rcases exc_no h with z | ⟨_, z⟩ <;> cases z
  · rcases exc_no h with z | ⟨_, z⟩ <;> cases z
  · rcases exc_no h with z | ⟨_, z⟩ <;> cases z
  · rcases exc_no h with z | ⟨z, _⟩
    · cases z
    · rw [z]; exact he
theorem catEnd_ok {x : Res (Fl × Sts)} {w : R × List (List D)} (h : catEnd x = .ok w) : ∃ r σ, x = .ok (.rt (.v r), σ) ∧ w = (.v r, []) := by
  unfold catEnd at h
  split at h
  · cases h; exact ⟨_, _, rfl, rfl⟩
  · cases h
/-- the def's last statement -/
theorem cat_end {σV : L2.St} {t1 : T} {r : D} {σ' : Sts} {D' : Ends} {G0 H0 : Hp} {σ0 : Sts} {σV0 : L2.St} {Q : VK} (S : S2 (tbOf τ) K G H σD σV) (st : Step σ0 σV0 G0 H0 σD σV G H) (hq : ∀ b, ¬ Own σ0 σV0 b) (e : evS Φ Γ t1 σD = .ok (.rt (.v r), σ')) (hD : D'.rt = Q) {W : EW} {prot : List Nat}
    (hk : ∀ v G'' H'', Grw τ G0 H0 G'' H'' → Rp K G'' v r → Q v H'') : tS Φ Γ (tbOf τ) W K prot t1 D' σV H := by
  refine ⟨σD, G, S, ?_⟩
  unfold NSt
  rw [e]
  intro σV2 G2 H2 S2' st2 l2 p2 v rv
  rw [hD]
  have sa := st.trans st2
  exact hk v G2 H2 ⟨sa.gm, fun b o h n => sa.keep b o h n (hq b), S2'.sub, fun b h1 h2 => sa.gn b h1 h2 (hq b), S2'.nt, S2'.tabs⟩ rv
end
theorem exc_xo {K : PySem.W.Frag} {mg : Str → Option Value} {CS : Addr} {c : Str} {xi : XI} {as : List D} {cls : Value} {d : Option Addr} {H : Hp} (F : XFacts K mg CS c xi) (e : ExcAt K c as cls d H) (ha : asB as xi.fld = true) : (d = none ↔ xi.fld = []) ∧ ∀ dd f, xoOf xi d = some (dd, f) → H dd = some (.xd f) := by
  obtain ⟨_, e⟩ := e
  match as, e with
  | [], e =>
    have e : d = none := e
    subst e
    cases hf : xi.fld with
    | nil => exact ⟨⟨fun _ => rfl, fun _ => rfl⟩, fun dd f z => by unfold xoOf at z; cases z⟩
    | cons _ _ => rw [hf] at ha; cases ha
  | [x], e =>
    obtain ⟨dd, rfl, hd⟩ := e
    rcases F.fl with h | ⟨x', h, _⟩
    · rw [h] at ha
      cases x <;> cases ha
    · have hx : x = x' := by
        rw [h] at ha
        unfold asB at ha
        split at ha
        · rename_i z; cases z
        · rename_i z1 z2
          cases z1
          cases z2
          rw [of_decide_eq_true ha]
        · rename_i z1 z2
          cases z1
          cases z2
          rw [of_decide_eq_true ha]
        · cases ha
      subst hx
      refine ⟨⟨fun z => (by cases z), fun z => (by rw [h] at z; cases z)⟩, fun dd' f z => ?_⟩
      unfold xoOf at z
      rw [h] at z
      cases z
      exact hd
  | _ :: _ :: _, e => exact e.elim
/-- what the call's end leaves to the slots -/
def toldNx (tl : Option (Nat × Str)) (D : Ends) (σ : L2.St) (v : V) (H : Hp) : Prop := match tl with
  | none => D.nx σ H
  | some (j, w) => ∀ p, H p = none → D.nx (σ.set j (some (.ref p))) (upd H p (.tup [.str w, v]))
/-- the body of the try: the call alone, or what it gives kept with a word -/
def CatBody (N : List Str) (sc : Scope) (a : Str) (p1 p2 : Pos) (tl : Option (Nat × Str)) (b : Stmt) : Prop :=
  (∃ p3, b = .Expr (.Call (.Name a p1) [] [] p2) p3 ∧ tl = none) ∨ ∃ fnm q1 c1 q2 c2 q3 p3 j w, b = .Assign [.Name fnm q1] (.Tuple [.Constant (.str w) c1 q2, .Call (.Name a p1) [] [] p2] c2 q3) p3 ∧ N[j]? = some fnm ∧ sc.names.lookup fnm = some .local ∧ tl = some (j, w)
/-- A DEF THAT CATCHES -/
theorem cat_ok {Φ Ψ : Fns} {Γ : List D} {τ : List (Addr × Str)} {P : Program} {w : World} {K : PySem.W.Frag} {mg : Str → Option Value} {base : Heap} {x a n sky : Str} {params : Arguments} {s0 s1 b b₀ : Stmt} {suite : List Stmt} {p1 p2 np pos' pos : Pos} {sc : Scope} {g CS : Addr} {fd : FuncData} {N : List Str} {k m ie : Nat}
    {t0 t1 : T} {tll : Option (Nat × Str)} {σ1 : Sts} {hs : List (Str × XI × T)}
    (F : FunD K x x params [s0, .Try [b] [.ExceptHandler (some (.Name sky np)) (some n) (b₀ :: suite) pos'] [] [] pos, s1] sc [] [] g fd) (hbd : CatBody N sc a p1 p2 tll b) (hm : mg x = some (.ref g)) (hb : Binds K fd [a] []) (S : FnScope N [a] sc) (h0 : N[0]? = some a) (va : visB sc a = true) (oa : oddName a = false)
    (hc0 : cS m (catC N sc) s0 = some t0) (hc1 : cS m (catC N sc) s1 = some t1) (hcs : ∀ z ∈ hs, cB (cS m (hotC N sc z.2.1)) (b₀ :: suite) = some z.2.2 ∧ XFacts K mg CS z.1 z.2.1 ∧ HelpK τ P w K mg base z.1 z.2.1 ∧ z.2.1.tst = none)
    (hie : N[ie]? = some n) (hln : sc.names.lookup n = some .local) (hsky : gloB sc sky = true) (osky : oddName sky = false) (msky : mg sky = some (.ref CS)) (bi : ∀ x ∈ biNames, mg x = none)
    (e0 : evS Φ Γ t0 (List.replicate N.length .no) = .ok (.nx, σ1)) (q1 : σ1.all Slot.quiet = true) (hF : (Ψ k).run = catRun Φ Γ N.length ie tll σ1 hs t1) : CatK Ψ τ P w K mg base x k := by
  intro Y y1 y2 y3 y4 y5
  subst y1 y2 y3 y4 y5
  obtain ⟨oc, od, dV, kV, doc, pm, an, cdv, ct, osl, rfl, lk, hcd, _, _⟩ := F.ex
  obtain ⟨oa1, oa2, oa3⟩ := odd_ok oa
  obtain ⟨os1, os2, os3⟩ := odd_ok osky
  refine ⟨g, params, _, sc, dV, kV, doc, pm, cdv, ct, oc, an, od, osl, N, a, hm, F.kp, lk, hcd, hb, S, h0, vis_of va, oa1, oa2, fun hr => ?_⟩
  intro f c' s H Q tl act hc hT
  obtain ⟨tab, hT⟩ := hT
  obtain ⟨Xc, hXc⟩ : ∃ Xc : Cx, Xc = (cxOf C8.CX0 Y.prog Y.w Y.K Y.mg Y.base N x sc g cdv Y.A Y.stack s H C8.E0).nox := ⟨_, rfl⟩
  have eK : Xc.K = Y.K := by rw [hXc]; rfl
  have eM : Xc.mg = Y.mg := by rw [hXc]; rfl
  have eP : Xc.prog = Y.prog := by rw [hXc]; rfl
  have eW : Xc.w = Y.w := by rw [hXc]; rfl
  have eB : Xc.base = Y.base := by rw [hXc]; rfl
  have rX : Room 7 Xc.A := by rw [hXc]; exact hr.deeper _
  have okc : CtxOk Φ Γ (tbOf τ) W0 (catC N sc) Xc := by
    rw [hXc]
    exact cat_ctx rfl S.nd rfl (fun _ => rfl) rfl takes0 PySem.PassesOwn.never bi (hr.deeper _).units
  have hu : Xc.A.units + 64 < cLine := okc.hu
  let tb : WX → TS := fun W D σ H => ∃ (E : XK) (Kc : VK), (∀ cls d σ' H', E cls d H' → W cls d σ' H') ∧ σ[0]? = some (some (V.ref f)) ∧ H c' = some (CodeO c' (Y.env.qual ++ "<lambda>")) ∧ tl E H Kc ∧ ∀ v H', Kc v H' → toldNx tll D σ v H'
  let ts : Addr → Value → Option Addr → TS := fun a cls d => fun D σ H => ∃ (c : Str) (as : List PyData) (z : XI × T), ExcAt Y.K c as cls d H ∧ asB as z.1.fld = true ∧ (c, z) ∈ hs ∧ (σ.length = N.length → tB Φ Γ { l := τ, xa := a, xo := xoOf z.1 d } W0 Y.K [0] z.2 D σ H)
  have hbody : ∀ (W : WX) (pn : List (Addr × Obj)) (xe : Value → Shared → Prop), Takes (Xc.tr pn xe) W → PassesOwn (model Xc.prog Xc.w) Xc.A Xc.env xe → PSs (Xc.tr pn xe) [b] (tb W) := by
    rw [hXc]
    intro W pn xe tk _
    refine ⟨fun pins s' σ H' D I h' => ?_⟩
    obtain ⟨E, Kc, hW, h1, h2, h3, h4⟩ := h'
    have hp := act W pn xe E p1 p2 tk hW
    have hp2 : PE _ (.Call (.Name a p1) [] [] p2) (fun σ H Q => (σ[0]? = some (some (V.ref f)) ∧ H c' = some (CodeO c' (Y.env.qual ++ "<lambda>")) ∧ tl E H Kc) ∧ ∀ v H', Kc v H' → Q v H') := ⟨fun pins s σ H Q I ⟨h, hk⟩ => thn (hp.run pins s σ H Kc I h) fun v s1 ⟨x, H1, I1, r1, q1⟩ => ⟨x, H1, I1, r1, hk x H1 q1⟩⟩
    rcases hbd with ⟨p3, rfl, rfl⟩ | ⟨fnm, q1, c1, q2, c2, q3, p3, j, wd, rfl, hj, hlf, rfl⟩
    · exact (pss_one (ps_expr (pos := p3) hp2)).run pins s' σ H' D I ⟨⟨h1, h2, h3⟩, h4⟩
    · have hpt := pe_tup (pos := q3) (x1 := c2) (pa_cons (pe_str (x := wd) (j := c1) (pos := q2)) (pa_cons hp2 pa_nil))
      refine (pss_one (ps_set (i := j) (x := fnm) (pos := p3) S.nd hj (.inl hlf) hpt rfl (.inr hlf))).run pins s' σ H' D I ?_
      exact ⟨⟨h1, h2, h3⟩, fun v H1 hk => ⟨by rw [sizeLine_eq]; show 2 ≤ 16777216; decide, fun p np => h4 v H1 hk p np⟩⟩
  have hsu : ∀ (a : Addr) (oe : Obj) (cls : Value) (d : Option Addr) (pn : List (Addr × Obj)), Zc cls d oe → (∃ vs, oe.data = .fields vs) → PSs (Xc.suite a ((a, oe) :: pn)) (b₀ :: suite) (ts a cls d) := by
    intro a oe cls d pn hz hf
    refine ⟨fun pins s' σ H' D I ⟨c, as, z, ea, hab, hmem, h⟩ => ?_⟩
    obtain ⟨hcc, hx, hh, hnt⟩ := hcs _ hmem
    obtain ⟨hd, hxo⟩ := exc_xo hx ea hab
    have e1 := ea.1
    subst e1
    have okh : CtxOk Φ Γ { l := τ, xa := a, xo := xoOf z.1 d } W0 (hotC N sc z.1) (Xc.suite a ((a, oe) :: pn)) := hot_ctx (X := Xc.suite a ((a, oe) :: pn)) (c := c) (CS := CS) (oe := oe) (by
      show XFacts Xc.K Xc.mg CS c z.1
      rw [eK, eM]; exact hx) List.mem_cons_self (by
      show Zc (.ref (He.ga Xc.K c)) d oe
      rw [eK]; exact hz) hf hd takes0 PySem.PassesOwn.never (fun y bs hy => by
      obtain ⟨f', fd', pn', k', h1, h2, h3, h4, h5⟩ := hh y bs hy
      refine ⟨f', fd', pn', k', ?_, ?_, ?_, ?_, ?_⟩
      · show Xc.mg y = _
        rw [eM]; exact h1
      · show PySem.W.keepIn Xc.K _ = _
        rw [eK]; exact h2
      · show Binds Xc.K _ _ _
        rw [eK]; exact h3
      · have r7 := rX.mono (show k' ≤ 7 by omega)
        exact ⟨r7.dp, r7.un⟩
      · show FnX Xc.prog Xc.w Xc.K Xc.mg Xc.base k' f' fd' [pn'] (a, oe) _
        rw [eP, eW, eK, eM, eB]
        exact h5 a oe d hz hf hd) (.inl hnt) okc.N S.nd okc.sc (fun x => okc.fn x rfl) (fun x h => okc.bi x h) hu
    have := sB (Φ := Φ) (Γ := Γ) m okh rfl S.kind hcc
    refine this.run pins s' σ H' D I ?_
    have hl : σ.length = N.length := I.len.trans (congrArg List.length okc.N)
    rw [show (Xc.suite a ((a, oe) :: pn)).K = Y.K from eK]
    exact h hl
  have hsc : Xc.env.scope = sc := okc.sc
  have hgs : Gl Xc sky := by
    unfold Gl Env.kindOf
    rw [hsc]
    exact glo_of hsky
  have hT3 := ps_try_as (X := Xc) (x := sky) (n := n) (c := .ref CS) (i := ie) (np := np) (pos := pos) (pos' := pos') (tb := tb) (ts := ts) (Wout := fun _ _ _ _ => False) (by rw [hXc]; rfl) (by rw [hXc]; rfl) (by rw [okc.N]; exact S.nd) (by rw [okc.N]; exact hie) (by unfold Env.kindOf; rw [hsc]; exact hln) ⟨hgs, os1, .inl (by rw [eM]; exact msky)⟩ (by rw [hXc]; exact takes0) hbody hsu
  rw [eK] at hT3
  have p0 := (sS (Φ := Φ) (Γ := Γ) m) W0 _ Xc s0 t0 hc0 okc rfl S.kind
  have pE := (sS (Φ := Φ) (Γ := Γ) m) W0 _ Xc s1 t1 hc1 okc rfl S.kind
  rw [eK] at p0 pE
  have all := pss_cons p0 (pss_cons hT3 (pss_one pE))
  rw [hXc] at all
  refine ⟨_, all, ?_⟩
  have hN0 : 0 < N.length := (List.getElem?_eq_some_iff.mp h0).1
  have hsl : (L2.start N [V.ref f]).length = N.length := by
    unfold L2.start
    rw [List.length_append, List.length_map, List.length_replicate]
    simp only [List.length_cons, List.length_nil]
    omega
  have S0 : S2 (tbOf τ) Y.K (fun _ => none) H (List.replicate N.length .no) (L2.start N [V.ref f]) := s2_none tab (fun _ _ z => by cases z) (fun _ _ z => by cases z) rfl hsl
  refine ⟨_, _, S0, ?_⟩
  unfold NSt
  rw [e0]
  intro σV1 G1 H1 S1 st1 l1 pr1
  have nq : ∀ b, ¬ Own (List.replicate N.length Slot.no) (L2.start N [V.ref f]) b := fun b => no_own (quiet_rep _) b
  have hT2 := hT G1 H1 (fun b o h n => st1.keep b o h n (nq b)) S1.tabs S1.sub S1.nt (fun b h => st1.gn b rfl h (nq b))
  have q0 : σV1[0]? = some (some (V.ref f)) := by
    rw [pr1 0 List.mem_cons_self]
    rfl
  show tb _ _ σV1 H1
  refine ⟨_, _, ?_, q0, st1.keep c' _ hc (fun _ z => nomatch z) (nq c'), hT2, ?_⟩
  · -- an exception
    intro cls d σ' H' hx
    obtain ⟨c, as, r, ea, tabs, hrun, G', gs, sub, nt, cont⟩ := hx
    rw [hF] at hrun
    have hr2 : (match hs.lookup c with
      | some (xi, t) => if asB as xi.fld = true then (match evB Φ Γ t (excSt N.length ie) with
        | .ok (.nx, σ2) => if ((σ2.set ie .no).all Slot.nex) = true then catEnd (evS Φ Γ t1 (σ2.set ie .no)) else .no
        | _ => .no) else .no
      | none => .no) = Res.ok (R.v r, []) := hrun
    clear hrun
    split at hr2
    case h_2 => cases hr2
    rename_i xi t hlk
    split at hr2
    case isFalse => cases hr2
    rename_i hab
    split at hr2
    case h_2 => cases hr2
    rename_i σ2 eb
    split at hr2
    case isFalse => cases hr2
    rename_i hnex
    obtain ⟨r', σ3, e3, er⟩ := catEnd_ok hr2
    cases er
    have hmem := PySem.mem_of_lookup hlk
    obtain ⟨_, hxf, _⟩ := hcs _ hmem
    obtain ⟨hdd, hxo⟩ := exc_xo hxf ea hab
    have ecls : cls = .ref (He.ga Y.K c) := ea.1
    refine ⟨true, by rw [ecls]; exact hxf.sky, fun _ ae hae => ⟨c, as, (xi, t), ea, hab, hmem, fun hlen => ?_⟩, fun z => nomatch z⟩
    rw [List.length_set] at hlen
    have hie' : ie < σ'.length := by rw [hlen]; exact (List.getElem?_eq_some_iff.mp hie).1
    have Sx : S2 { l := τ, xa := ae, xo := xoOf xi d } Y.K G' H' (excSt N.length ie) (σ'.set ie (some (.ref ae))) := s2_exc tabs sub nt hxo (by rw [List.length_set]; exact hlen) (List.getElem?_set_self hie')
    have nqx : ∀ b, ¬ Own (excSt N.length ie) (σ'.set ie (some (V.ref ae))) b := fun b ⟨i, ds, h1, _⟩ => by
      rcases exc_no h1 with z | ⟨_, z⟩ <;> cases z
    refine ⟨_, _, Sx, ?_⟩
    unfold NSt
    rw [eb]
    intro σV2 G2 H2 S2' st2 l2 p2
    obtain ⟨S3, st3⟩ := S2'.unset (i := ie) rfl hnex
    exact cat_end (G0 := G') (H0 := H') S3 (st2.trans st3) nqx e3 rfl cont
  · -- told
    intro v H' hx
    obtain ⟨G', d, r, gs, sub, nt, tabs, rp, hrun, cont⟩ := hx
    rw [hF] at hrun
    have hrun : catEnd (evS Φ Γ t1 (toldSt tll σ1 d)) = Res.ok (R.v r, []) := hrun
    obtain ⟨r', σ3, e3, er⟩ := catEnd_ok hrun
    cases er
    have nq1 : ∀ b, ¬ Own σ1 σV1 b := fun b => no_own q1 b
    have S4 : S2 (tbOf τ) Y.K G' H' σ1 σV1 := ⟨S1.len, sub, fun i d h => by
      obtain ⟨v, z1, z2⟩ := S1.val i d h
      exact ⟨v, z1, z2.mono gs⟩, fun i ds h => (by
      have := List.all_eq_true.mp q1 _ (List.mem_of_getElem? h)
      cases this), fun i j ds es a h => (by
      have := List.all_eq_true.mp q1 _ (List.mem_of_getElem? h)
      cases this), tabs, nt, S1.exc, fun _ _ z => nomatch z⟩
    rcases hbd with ⟨p3, _, rfl⟩ | ⟨fnm, q1', c1, q2, c2, q3, p3, j, wd, _, hj, hlf, rfl⟩
    · exact cat_end (G0 := G') (H0 := H') S4 Step.rfl' nq1 e3 rfl cont
    · intro p hp
      have hjl : j < σ1.length := by
        rw [S1.len, l1]
        rw [hsl]
        exact (List.getElem?_eq_some_iff.mp hj).1
      obtain ⟨S5, st5⟩ := S4.ext (Ext.laidG (o := .tup [.str wd, v]) S4.sub hp)
      have rp2 : Rp Y.K (upd G' p (.tup [.str wd, v])) (.ref p) (.tuple [.str wd, d]) := .tup (.inl (.inl upd_same)) (.cons (.str wd) (.cons (rp.mono (sub_upd (none_sub sub hp))) .nil))
      obtain ⟨S6, st6⟩ := set_val (i := j) S5 hjl rp2
      exact cat_end (G0 := G') (H0 := H') S6 (st5.trans st6) nq1 e3 rfl cont

/-! ### the shape of such a def's text -/
structure CatSh where
  s0 : Stmt
  s1 : Stmt
  b : Stmt
  a : Str
  p1 : Pos
  p2 : Pos
  told : Option (Str × Str)
  sky : Str
  np : Pos
  n : Str
  b0 : Stmt
  suite : List Stmt
  pos' : Pos
  pos : Pos
def catShape : List Stmt → Option CatSh
  | [s0, .Try [.Expr (.Call (.Name a p1) [] [] p2) p3] [.ExceptHandler (some (.Name sky np)) (some n) (b₀ :: suite) pos'] [] [] pos, s1] => some ⟨s0, s1, .Expr (.Call (.Name a p1) [] [] p2) p3, a, p1, p2, none, sky, np, n, b₀, suite, pos', pos⟩
  | [s0, .Try [.Assign [.Name x q1] (.Tuple [.Constant (.str w) c1 q2, .Call (.Name a p1) [] [] p2] c2 q3) p3] [.ExceptHandler (some (.Name sky np)) (some n) (b₀ :: suite) pos'] [] [] pos, s1] => some ⟨s0, s1, .Assign [.Name x q1] (.Tuple [.Constant (.str w) c1 q2, .Call (.Name a p1) [] [] p2] c2 q3) p3, a, p1, p2, some (x, w), sky, np, n, b₀, suite, pos', pos⟩
  | _ => none
theorem catShape_ok {b : List Stmt} {z : CatSh} (h : catShape b = some z) : b = [z.s0, .Try [z.b] [.ExceptHandler (some (.Name z.sky z.np)) (some z.n) (z.b0 :: z.suite) z.pos'] [] [] z.pos, z.s1] ∧
    ((∃ p3, z.b = .Expr (.Call (.Name z.a z.p1) [] [] z.p2) p3 ∧ z.told = none) ∨ ∃ fnm q1 c1 q2 c2 q3 p3 w, z.b = .Assign [.Name fnm q1] (.Tuple [.Constant (.str w) c1 q2, .Call (.Name z.a z.p1) [] [] z.p2] c2 q3) p3 ∧ z.told = some (fnm, w)) := by
  unfold catShape at h
  split at h
  · cases h; exact ⟨rfl, .inl ⟨_, rfl, rfl⟩⟩
  · cases h; exact ⟨rfl, .inr ⟨_, _, _, _, _, _, _, _, rfl, rfl⟩⟩
  · cases h
/-- where what is told is kept -/
def tellB (N : List Str) (sc : Scope) : Option (Str × Str) → Option (Nat × Str) → Bool
  | none, none => true
  | some (x, w), some (j, v) => decide (N[j]? = some x) && (decide (sc.names.lookup x = some .local) && decide (w = v))
  | _, _ => false
theorem tellB_ok {N : List Str} {sc : Scope} {z : CatSh} {tll : Option (Nat × Str)} (h : tellB N sc z.told tll = true)
    (hb : (∃ p3, z.b = .Expr (.Call (.Name z.a z.p1) [] [] z.p2) p3 ∧ z.told = none) ∨ ∃ fnm q1 c1 q2 c2 q3 p3 w, z.b = .Assign [.Name fnm q1] (.Tuple [.Constant (.str w) c1 q2, .Call (.Name z.a z.p1) [] [] z.p2] c2 q3) p3 ∧ z.told = some (fnm, w)) : CatBody N sc z.a z.p1 z.p2 tll z.b := by
  rcases hb with ⟨p3, h1, h2⟩ | ⟨fnm, q1, c1, q2, c2, q3, p3, w, h1, h2⟩
  · rw [h2] at h
    cases tll with
    | none => exact .inl ⟨p3, h1, rfl⟩
    | some _ => cases h
  · rw [h2] at h
    cases tll with
    | none => cases h
    | some y =>
      obtain ⟨j, v⟩ := y
      obtain ⟨z1, z2⟩ := Bool.and_eq_true_iff.mp (show (decide (N[j]? = some fnm) && (decide (sc.names.lookup fnm = some .local) && decide (w = v))) = true from h)
      obtain ⟨z4, z3⟩ := Bool.and_eq_true_iff.mp z2
      have z4 := of_decide_eq_true z4
      have z3 := of_decide_eq_true z3
      subst z3
      exact .inr ⟨fnm, q1, c1, q2, c2, q3, p3, j, w, h1, of_decide_eq_true z1, z4, rfl⟩
theorem cat_at {Φ Ψ : Fns} {Γ : List D} {τ : List (Addr × Str)} {P : Program} {w : World} {K : PySem.W.Frag} {mg : Str → Option Value} {base : Heap} {x : Str} {params : Arguments} {body : List Stmt} {sc : Scope} {g : Addr} {fd : FuncData} {N : List Str} {k ie : Nat}
    {t0 t1 : T} {tll : Option (Nat × Str)} {σ1 : Sts} {hs : List (Str × XI × T)} (z : CatSh) (hz : catShape body = some z) (htl : tellB N sc z.told tll = true)
    (F : FunD K x x params body sc [] [] g fd) (hm : mg x = some (.ref g)) (hb : Binds K fd [z.a] []) (S : FnScope N [z.a] sc) (h0 : N[0]? = some z.a) (va : visB sc z.a = true) (oa : oddName z.a = false)
    (hc0 : cS 30 (catC N sc) z.s0 = some t0) (hc1 : cS 30 (catC N sc) z.s1 = some t1) (hcs : ∀ q ∈ hs, cB (cS 30 (hotC N sc q.2.1)) (z.b0 :: z.suite) = some q.2.2) (hxs : ∀ q ∈ hs, XFacts K mg (He.ga K z.sky) q.1 q.2.1) (hhs : ∀ q ∈ hs, HelpK τ P w K mg base q.1 q.2.1) (hnt : ∀ q ∈ hs, q.2.1.tst = none)
    (hie : N[ie]? = some z.n) (hln : sc.names.lookup z.n = some .local) (hsky : gloB sc z.sky = true) (osky : oddName z.sky = false) (msky : mg z.sky = some (.ref (He.ga K z.sky))) (bi : ∀ x ∈ biNames, mg x = none)
    (e0 : evS Φ Γ t0 (List.replicate N.length .no) = .ok (.nx, σ1)) (q1 : σ1.all Slot.quiet = true) (hF : (Ψ k).run = catRun Φ Γ N.length ie tll σ1 hs t1) : CatK Ψ τ P w K mg base x k := by
  obtain ⟨e, hbo⟩ := catShape_ok hz
  subst e
  exact cat_ok F (tellB_ok htl hbo) hm hb S h0 va oa hc0 hc1 (fun q hq => ⟨hcs q hq, hxs q hq, hhs q hq, hnt q hq⟩) hie hln hsky osky msky bi e0 q1 hF
theorem lookup1 {α : Type} {x y : Str} {a b : α} (h : List.lookup y [(x, a)] = some b) : y = x ∧ b = a := by
  simp only [List.lookup] at h
  split at h
  · rename_i q
    exact ⟨eq_of_beq q, (Option.some.inj h).symm⟩
  · cases h
/-- no def is asked about the exception -/
theorem help_none {τ : List (Addr × Str)} {P : Program} {w : World} {K : PySem.W.Frag} {mg : Str → Option Value} {base : Heap} {c : Str} {xi : XI} (h : xi.hlp = []) : HelpK τ P w K mg base c xi := fun y bs hy => by rw [h] at hy; cases hy
theorem boolsOf_mp : ∀ bs : List Bool, boolsOf (bs.map PyData.bool) = some bs
  | [] => rfl
  | b :: bs => by
    rw [List.map_cons, boolsOf, boolsOf_mp bs]
    rfl
/-- A DEF THAT TELLS FLAGS OF AN EXCEPTION -/
theorem help_ok {Φ : Fns} {Γ : List D} {τ : List (Addr × Str)} {P : Program} {w : World} {K : PySem.W.Frag} {mg : Str → Option Value} {base : Heap} {x c pn : Str} {params : Arguments} {body : List Stmt} {sc : Scope} {f CS : Addr} {fd : FuncData} {N : List Str} {xi xh : XI} {bs : List Bool} {t : T} {σ' : Sts} {m : Nat}
    (F : FunD K x x params body sc [] [] f fd) (hm : mg x = some (.ref f)) (hb : Binds K fd [pn] []) (S : FnScope N [pn] sc) (h0 : N[0]? = some pn) (hc : cB (cS m (hotC N sc xh)) body = some t) (X0 : XFacts K mg CS c xh) (hh : xh.hlp = []) (hf : xh.fld = xi.fld) (bi : ∀ x ∈ biNames, mg x = none) (hts : xh.tst = none ∨ TestK τ P w K mg base xh)
    (e : evB Φ Γ t (excSt N.length 0) = .ok (.rt (.t (bs.map .bool)), σ')) : ∃ f fd pn k, mg x = some (.ref f) ∧ PySem.W.keepIn K (.ref f) = true ∧ Binds K fd [pn] [] ∧ k ≤ 6 ∧
  ∀ (a : Addr) (oe : Obj) (d : Option Addr), Zc (.ref (He.ga K c)) d oe → (∃ vs, oe.data = .fields vs) → (d = none ↔ xi.fld = []) → FnX P w K mg base k f fd [pn] (a, oe) (spX { l := τ, xa := a, xo := xoOf xi d } bs) := by
  refine ⟨f, fd, pn, 2, hm, F.kp, hb, by decide, fun a oe d hz hfv hd => ?_⟩
  obtain ⟨oc, od, dV, kV, doc, pm, an, cdv, ct, osl, rfl, lk, hcd, _, _⟩ := F.ex
  have exo : xoOf xi d = xoOf xh d := by unfold xoOf; rw [hf]
  refine fnX_of (k := 1) lk hcd S (fun vs H Q E h => by rw [h.1]; rfl) fun A outer s H vs Q E hr hsp => ?_
  obtain ⟨rfl, htb, hxo, hq⟩ := hsp
  have okh : CtxOk Φ Γ { l := τ, xa := a, xo := xoOf xh d } W0 (hotC N sc xh) (L2H.cxH (L2.CX P w) P w K mg base N x sc f cdv A outer s H E (a, oe)) := hot_ctx (c := c) (CS := CS) (oe := oe) X0 List.mem_cons_self hz hfv (by rw [hf]; exact hd) ((takes_of (E := E) rfl rfl rfl rfl).imp fun _ _ _ _ z => z.elim) (passes_of rfl) (fun y bs hy => by rw [hh] at hy; cases hy) (hts.imp id fun z => ⟨z, hr⟩) rfl S.nd rfl (fun _ => rfl) bi (by have := hr.un; show (A.deeper (envOfC x sc s.heap.objs.size f cdv)).units + 64 < _; omega)
  have hps := sB (Φ := Φ) (Γ := Γ) m okh rfl S.kind hc
  refine ⟨_, hps, ?_⟩
  have hN0 : 0 < N.length := (List.getElem?_eq_some_iff.mp h0).1
  have hsl : (L2.start N [V.ref a]).length = N.length := by
    unfold L2.start
    rw [List.length_append, List.length_map, List.length_replicate]
    simp only [List.length_cons, List.length_nil]
    omega
  have S0 : S2 { l := τ, xa := a, xo := xoOf xh d } K (fun _ => none) H (excSt N.length 0) (L2.start N [V.ref a]) := s2_exc htb (fun _ _ z => by cases z) (fun _ _ z => by cases z) (by rw [← exo]; exact hxo) hsl rfl
  refine ⟨_, _, S0, ?_⟩
  unfold NSt
  rw [e]
  intro σV2 G2 H2 S2' st2 l2 p2 v rv
  obtain ⟨b, vs, rfl, z1, z2, z3, z4, z5⟩ := rv
  have nqx : ∀ b, ¬ Own (excSt N.length 0) (L2.start N [V.ref a]) b := fun b ⟨i, ds, h1, _⟩ => by
    rcases exc_no h1 with z | ⟨_, z⟩ <;> cases z
  have hbo := boolsOf_mp bs
  have hvs := z5.boolsOf hbo
  subst hvs
  exact hq b H2 (fun b o h n => st2.keep b o h n (nqx b)) S2'.tabs z4 z1
/-- the facts of a class, for a def that is not handed the exception -/
def hotT (N : List Str) (sc : Scope) : CC := { N := N, sc := sc, blk := none, fns := [], cst := [], prot := [], hot := true }
/-- A DEF THAT IS ASKED OF TWO INTS, while an exception is in hand -/
theorem test_ok {τ : List (Addr × Str)} {P : Program} {w : World} {K : PySem.W.Frag} {mg : Str → Option Value} {base : Heap} {x p1 p2 : Str} {params : Arguments} {body : List Stmt} {sc : Scope} {f : Addr} {fd : FuncData} {N : List Str} {t : T} {m : Nat}
    (F : FunD K x x params body sc [] [] f fd) (hm : mg x = some (.ref f)) (hb : Binds K fd [p1, p2] []) (S : FnScope N [p1, p2] sc) (hc : cB (cS m (hotT N sc)) body = some t) (bi : ∀ x ∈ biNames, mg x = none)
    (hr : ∀ i j : Int, (mkFn (tbl []) [] [false, false] N.length t).run [.int i, .int j] = .ok (.v (.bool (decide (i = j))), [])) {xi : XI} (hx : xi.tst = some x) : TestK τ P w K mg base xi := by
  intro y hy
  rw [hx] at hy
  cases hy
  refine ⟨f, fd, [p1, p2], hm, F.kp, hb, fun p => ?_⟩
  obtain ⟨oc, od, dV, kV, doc, pm, an, cdv, ct, osl, rfl, lk, hcd, _, _⟩ := F.ex
  refine fnX_of (k := 0) lk hcd S (fun vs H Q E h => by obtain ⟨i, j, rfl, _⟩ := h; rfl) fun A outer s H vs Q E hrm hsp => ?_
  obtain ⟨i, j, rfl, htb, hq⟩ := hsp
  have ok : CtxOk (tbl []) [] (tbOf τ) (wOf K E) (hotT N sc) (L2H.cxH (L2.CX P w) P w K mg base N x sc f cdv A outer s H E p) :=
    { N := rfl, nd := S.nd, sc := rfl, fn := fun _ _ => rfl, calm := (fun h => nomatch h),
      tk := (takes_of (E := E) rfl rfl rfl rfl).imp fun cls d σ H z => by
        obtain ⟨c, as, z1, z2⟩ := z
        exact z2 cls d z1
      po := passes_of rfl
      fns := fun _ _ h => nomatch h
      cst := fun _ _ h => nomatch h
      tab := fun _ _ h => nomatch h
      bi := bi
      hu := by have := hrm.un; show (A.deeper (envOfC x sc s.heap.objs.size f cdv)).units + 64 < _; omega
      gd := fun h => nomatch h
      ex := fun _ h => nomatch h
      rm := fun h => absurd rfl h
      exa := fun _ h => nomatch h
      rma := fun h => absurd rfl h
      ct := fun _ _ h => nomatch h
      lm := fun h => absurd rfl h
      lf := fun _ _ h => nomatch h
      fad := fun _ h => by cases h
      xis := fun _ h => nomatch h
      xfl := fun _ h => nomatch h
      xhl := fun _ h => nomatch h
      xts := fun _ h => nomatch h }
  have hps := sB (τ := tbOf τ) (W := wOf K E) m ok rfl S.kind hc
  refine ⟨_, hps, ?_⟩
  refine body_ok (τ := τ) (inout := [false, false]) (K := K) ⟨fun _ => none, [.int i, .int j], (by intro _ _ z; cases z), htb, (by intro _ _ z; cases z), rfl, ⟨.int i, .int j, trivial⟩, (by show ([] : List V).Nodup; exact List.nodup_nil), ?_⟩
  rw [hr i j]
  intro v G' H' po rv _
  have e : v = .bl (decide (i = j)) := by cases rv; rfl
  subst e
  exact hq H' (fun b o h n => po.keep b o h n (fun z => nomatch z)) po.tabs
end Fz

/-! Ev29: an own error class over ValueError, made without arguments; its __init__ says super().__init__() and no more. -/
namespace Fz
open PySem PySem.Spec PyProof.Rows L2

/-! ### the test -/
def supBody : FuncBody → Bool
  | .stmts [.Expr (.Call (.Attribute (.Call (.Name s _) [] [] _) i p2) [] [] p3) _] => decide (s = "super") && (decide (i = "__init__") && decide (p2.endLine = p3.line))
  | _ => false
def supArgs : Arguments → Bool
  | ⟨[], [⟨a, none, _⟩], none, [], [], none, []⟩ => decide (a = "self")
  | _ => false
def supScope (sc : Scope) : Bool := decide (sc.kind = .function) && (!sc.isCoroutine && (!sc.isGenerator && (decide (sc.names.lookup ("self" : Str) = some .local) && (decide (sc.names.lookup ("__class__" : Str) = some .free) && (decide (sc.names.lookup ("super" : Str) = some .globalImplicit) && sc.names.all fun y => decide (y.2 ≠ .cell))))))
def supCell (K : PySem.W.Frag) (C : Addr) : List (Str × Addr) → Bool
  | [(n, cc)] => decide (n = "__class__") && (match K.lookup cc with
    | some ⟨_, _, .cell (some (.ref D)), _⟩ => decide (D = C)
    | _ => false)
  | _ => false
def supCode (K : PySem.W.Frag) (file : Str) : Value → Bool
  | .ref c => (match K.lookup c with
    | some ⟨_, _, .fields vs, _⟩ => (match (vs[2]? : Option Value) with
      | some (Value.str f _) => decide (f = file)
      | _ => false)
    | _ => false)
  | _ => false
def supFn (K : PySem.W.Frag) (file : Str) (C : Addr) (fd : FuncData) : Bool := supBody fd.body && (supArgs fd.params && (supScope fd.scope && (supCell K C fd.closure && (supCode K file fd.code && (PySem.W.codeIn K fd.code fd.qualname && (decide (fd.globals = mainGlobals) && (decide (fd.builtins = builtinsNs) && (decide (fd.defaults = .none) && decide (fd.kwdefaults = .none)))))))))
def supB (file : Str) (x : Str) (K : PySem.W.Frag) : Bool :=
  He.eqO (PySem.W.nsIn K mainGlobals x) (some (some (.ref (He.ga K x)))) && (PySem.W.keepIn K (.ref (He.ga K x)) && (PySem.W.excInitIn K (He.ga K x) He.veBase "ValueError.__new__" && (He.eqO (PySem.W.findIn K (.ref (He.ga K x)) "__init__") (some (some (.ref (He.ma K (He.ga K x) "__init__")))) && (PySem.W.isFn K (.ref (He.ma K (He.ga K x) "__init__")) && ((match K.lookup (He.ma K (He.ga K x) "__init__") with
    | some ⟨_, _, .func fd, _⟩ => supFn K file (He.ga K x) fd
    | _ => false) && (He.eqO (PySem.W.nsIn K mainGlobals "super") (some none) && (He.eqO (PySem.W.nsIn K cStatics "thirdparty.any") (some none) && (He.eqO (PySem.W.ks_superIn K (He.ga K x) (He.ga K x) "__init__") (some (some (.builtin "ValueError.__init__"))) &&
    (decide (PySem.W.subIn K (.ref (He.ga K x)) (.type "ValueError") = some true) && (decide (PySem.W.mroIn K (He.ga K x) (.ref (He.ga K x)) = some true) && (decide (PySem.W.subIn K (.ref (He.ga K x)) (.type "BaseException") = some true) && decide (PySem.W.typeIn K (.ref (He.ga K x)) = some (.type "type")))))))))))))
structure SupFn (K : PySem.W.Frag) (file : Str) (C : Addr) (fd : FuncData) : Prop where
  bd : ∃ p0 p1 p2 p3 p4, fd.body = .stmts [.Expr (.Call (.Attribute (.Call (.Name "super" p0) [] [] p1) "__init__" p2) [] [] p3) p4] ∧ p2.endLine = p3.line
  ps : ∃ p, fd.params = ⟨[], [⟨"self", none, p⟩], none, [], [], none, []⟩
  kd : fd.scope.kind = .function
  co : fd.scope.isCoroutine = false
  ge : fd.scope.isGenerator = false
  sf : fd.scope.names.lookup ("self" : Str) = some .local
  cl : fd.scope.names.lookup ("__class__" : Str) = some .free
  su : fd.scope.names.lookup ("super" : Str) = some .globalImplicit
  nc : ∀ y ∈ fd.scope.names, y.2 ≠ .cell
  ce : ∃ cc c d sl, fd.closure = [(("__class__" : Str), cc)] ∧ K.lookup cc = some ⟨c, d, .cell (some (.ref C)), sl⟩
  cd : ∃ cda c d vs sl t, fd.code = .ref cda ∧ K.lookup cda = some ⟨c, d, .fields vs, sl⟩ ∧ vs[2]? = some (.str file t)
  ci : PySem.W.codeIn K fd.code fd.qualname = true
  gl : fd.globals = mainGlobals
  bu : fd.builtins = builtinsNs
  df : fd.defaults = .none
  kw : fd.kwdefaults = .none
theorem supBody_ok {b : FuncBody} (h : supBody b = true) : ∃ p0 p1 p2 p3 p4, b = .stmts [.Expr (.Call (.Attribute (.Call (.Name "super" p0) [] [] p1) "__init__" p2) [] [] p3) p4] ∧ p2.endLine = p3.line := by
  unfold supBody at h
  split at h
  · obtain ⟨h1, h2⟩ := He.ba h
    obtain ⟨h2, h3⟩ := He.ba h2
    have h1 := of_decide_eq_true h1
    have h2 := of_decide_eq_true h2
    subst h1 h2
    exact ⟨_, _, _, _, _, rfl, of_decide_eq_true h3⟩
  · cases h
theorem supArgs_ok {b : Arguments} (h : supArgs b = true) : ∃ p, b = ⟨[], [⟨"self", none, p⟩], none, [], [], none, []⟩ := by
  unfold supArgs at h
  split at h
  · have h := of_decide_eq_true h
    subst h
    exact ⟨_, rfl⟩
  · cases h
theorem supCell_ok {K : PySem.W.Frag} {C : Addr} {l : List (Str × Addr)} (h : supCell K C l = true) : ∃ cc c d sl, l = [(("__class__" : Str), cc)] ∧ K.lookup cc = some ⟨c, d, .cell (some (.ref C)), sl⟩ := by
  unfold supCell at h
  split at h
  · obtain ⟨h1, h2⟩ := He.ba h
    have h1 := of_decide_eq_true h1
    subst h1
    split at h2
    · rename_i q
      have h2 := of_decide_eq_true h2
      subst h2
      exact ⟨_, _, _, _, rfl, q⟩
    · cases h2
  · cases h
theorem supCode_ok {K : PySem.W.Frag} {file : Str} {v : Value} (h : supCode K file v = true) : ∃ cda c d vs sl t, v = .ref cda ∧ K.lookup cda = some ⟨c, d, .fields vs, sl⟩ ∧ vs[2]? = some (.str file t) := by
  unfold supCode at h
  split at h
  · split at h
    · rename_i q
      split at h
      · rename_i q2
        have h := of_decide_eq_true h
        subst h
        exact ⟨_, _, _, _, _, _, rfl, q, q2⟩
      · cases h
    · cases h
  · cases h
theorem supFn_ok {K : PySem.W.Frag} {file : Str} {C : Addr} {fd : FuncData} (h : supFn K file C fd = true) : SupFn K file C fd := by
  obtain ⟨h1, h⟩ := He.ba h
  obtain ⟨h2, h⟩ := He.ba h
  obtain ⟨h3, h⟩ := He.ba h
  obtain ⟨h4, h⟩ := He.ba h
  obtain ⟨h5, h⟩ := He.ba h
  obtain ⟨h6, h⟩ := He.ba h
  obtain ⟨h7, h⟩ := He.ba h
  obtain ⟨h8, h⟩ := He.ba h
  obtain ⟨h9, h10⟩ := He.ba h
  obtain ⟨s1, s⟩ := He.ba h3
  obtain ⟨s2, s⟩ := He.ba s
  obtain ⟨s3, s⟩ := He.ba s
  obtain ⟨s4, s⟩ := He.ba s
  obtain ⟨s5, s⟩ := He.ba s
  obtain ⟨s6, s7⟩ := He.ba s
  exact ⟨supBody_ok h1, supArgs_ok h2, of_decide_eq_true s1, by simpa using s2, by simpa using s3, of_decide_eq_true s4, of_decide_eq_true s5, of_decide_eq_true s6, fun y hy => of_decide_eq_true (List.all_eq_true.mp s7 y hy), supCell_ok h4, supCode_ok h5, h6, of_decide_eq_true h7, of_decide_eq_true h8, of_decide_eq_true h9, of_decide_eq_true h10⟩
structure SupC (K : PySem.W.Frag) (file : Str) (x : Str) : Prop where
  gx : PySem.W.nsIn K mainGlobals x = some (some (.ref (He.ga K x)))
  kC : PySem.W.keepIn K (.ref (He.ga K x)) = true
  xi : PySem.W.excInitIn K (He.ga K x) He.veBase "ValueError.__new__" = true
  fi : PySem.W.findIn K (.ref (He.ga K x)) "__init__" = some (some (.ref (He.ma K (He.ga K x) "__init__")))
  tf : PySem.W.typeIn K (.ref (He.ma K (He.ga K x) "__init__")) = some (.type "function")
  fn : ∃ oc od fd osl, K.lookup (He.ma K (He.ga K x) "__init__") = some ⟨oc, od, .func fd, osl⟩ ∧ SupFn K file (He.ga K x) fd
  su : PySem.W.nsIn K mainGlobals "super" = some none
  th : PySem.W.nsIn K cStatics "thirdparty.any" = some none
  si : PySem.W.ks_superIn K (He.ga K x) (He.ga K x) "__init__" = some (some (.builtin "ValueError.__init__"))
  sV : PySem.W.subIn K (.ref (He.ga K x)) (.type "ValueError") = some true
  mC : PySem.W.mroIn K (He.ga K x) (.ref (He.ga K x)) = some true
  sB : PySem.W.subIn K (.ref (He.ga K x)) (.type "BaseException") = some true
  tC : PySem.W.typeIn K (.ref (He.ga K x)) = some (.type "type")
theorem supB_ok {K : PySem.W.Frag} {file x : Str} (h : supB file x K = true) : SupC K file x := by
  obtain ⟨h1, h⟩ := He.ba h
  obtain ⟨h2, h⟩ := He.ba h
  obtain ⟨h3, h⟩ := He.ba h
  obtain ⟨h4, h⟩ := He.ba h
  obtain ⟨h5, h⟩ := He.ba h
  obtain ⟨h6, h⟩ := He.ba h
  obtain ⟨h7, h⟩ := He.ba h
  obtain ⟨h8, h⟩ := He.ba h
  obtain ⟨h9, h⟩ := He.ba h
  obtain ⟨h10, h⟩ := He.ba h
  obtain ⟨h11, h⟩ := He.ba h
  obtain ⟨h12, h13⟩ := He.ba h
  refine ⟨He.eqO_ok h1, h2, h3, He.eqO_ok h4, beq_iff_eq.mp h5, ?_, He.eqO_ok h7, He.eqO_ok h8, He.eqO_ok h9, of_decide_eq_true h10, of_decide_eq_true h11, of_decide_eq_true h12, of_decide_eq_true h13⟩
  split at h6
  · rename_i q
    exact ⟨_, _, _, _, q, supFn_ok h6⟩
  · cases h6

/-! ### super().__init__() called -/
section
open PySem.W PySem.Calls
variable {prog : Program} {w : World} {A : Around} {E : Value → Shared → Prop} {h : Heap} {g : Array GenState} {d : Drawn} {t : Nat} {os : OsState}
variable {nm q : Str} {C N : Addr} {bs bm : List Value} {hdct : Bool} {sn : List Str} {sub : List Value} {ab : Bool} {col : Option Bool} {dd : Option Addr} {k0 k1 k2 k3 k5 : Option Value}
theorem call_mw {u e t0 : Addr} {rest : List Value} {Q : Value → Shared → Prop}
    (hC : h.get? C = some (excClassObj nm q C N bs bm hdct sn sub ab col dd k0 k1 k2 k3 k5 "ValueError.__new__")) (he : h.get? e = some (HandSPX.excO C t0)) (hu : h.get? u = some (kxs_mw "ValueError.__init__" e)) (hrest : rest.length ≤ sizeLine)
    (hq : ∀ h' t1, (∀ b o, b ≠ e → h.get? b = some o → h'.get? b = some o) → h'.get? e = some (HandSPX.excO C t1) → Q .none ⟨h', g, d, t, os⟩) :
    wpAny (model prog w) A (call (.ref u) rest) Q E ⟨h, g, d, t, os⟩ := by
  refine wpAny_call (codeAny_of_tree ?_)
  show wpAny _ A.in1 (callAny (.ref u) ⟨rest, []⟩) _ _ _
  simp only [callAny]
  refine wpAny_bind (wpAny_load hu ?_)
  simp only [kxs_mw, show (Value.type "method-wrapper" == Value.type "method" || Value.type "method-wrapper" == Value.type "builtin_function_or_method" || Value.type "method-wrapper" == Value.type "method-wrapper") = true by decide, if_true]
  refine W.KFB.if_so (by decide) ?_
  refine wpAny_bind (ESX.check_bound F.excBase_ValueError hC he rfl ?_)
  refine wpAny_bind (wpAny_pure (wpAny_pure ?_))
  refine ⟨Code.quiet_builtin _ (by decide +kernel), codeAny_builtin F.excBase_ValueError.initEntry ?_⟩
  rw [Around.under_plainId F.excBase_ValueError.init.plain _]
  wp_walk
  refine hq _ h.objs.size (fun b o hb ho => ?_) ?_
  · rw [Heap.get?_update_other _ _ (Ne.symm hb)]
    exact Heap.get?_push_of_some _ ho
  · rw [Heap.get?_update_self _ (Heap.get?_push_of_some _ he) rfl]
    rfl
end

theorem mc_eq {o : Expr} {name : Str} {p2 p3 : Pos} {env : Env} {ov : Value} (h : p2.endLine = p3.line) : methodCall o name p2 p3 env ov 0 [] [] = (do
    let (f, first) ← holding [ov] (getMethod ov name (do return (← importBound o env).getD true))
    callWith p3 f first [] []) := by
  have hb : (p2.endLine == p3.line) = true := by rw [h]; exact beq_self_eq_true _
  have hp : methodCallPos (methodCallForm 0 [] []) o env p2 p3 = pure p3 := by
    unfold methodCallPos
    rw [hb]
    rfl
  unfold methodCall
  simp only [hp, pure_bind]
  rfl
theorem mc_he {o : Expr} {name : Str} {p2 p3 : Pos} {env : Env} (h : p2.endLine = p3.line) : eval (.Call (.Attribute o name p2) [] [] p3) env = (do
      let ov ← attributeBase o name env (eval o env)
      standAt p2.atName
      let (f, first) ← holding [ov] (getMethod ov name (do return (← importBound o env).getD true))
      callWith p3 f first (backTo p3 (starEach [] env)) []) := by
  show (do
    let ov ← attributeBase o name env (eval o env)
    standAt p2.atName
    methodCall o name p2 p3 env ov 0 [] []) = _
  simp only [mc_eq h]
  rfl
section
variable {X : Cx}
/-- C() -/
theorem pmk_sup {file x : Str} {p pos : Pos} (S : SupC X.K file x) (hfile : ((X.prog.main.file : Str) == file) = true) (htop : (X.prog.main.scope.names.lookup ("super" : Str)).isSome = false) (hm : X.mg x = some (.ref (He.ga X.K x))) (hsup : X.mg "super" = none) (hr : Room 1 X.A) (hg : Gl X x)
    (hdb : (x == ("__debug__" : Str)) = false) : PMk X (.Call (.Name x p) [] [] pos) (fun _ H Q => Q (.ref (He.ga X.K x)) none H) := by
  intro pins s σ H Q I h
  refine wpAny_Call_Name_kw (ld_glob I hg hm ?_ hdb)
  refine PySem.W.callWith_K0 I.kIn S.kC ?_
  obtain ⟨hp, g, dr, tk, os⟩ := s
  obtain ⟨nm, N, qn, bs, bm, hdct, sn, sub, ab, col, dd, k0, k1, k2, k3, k5, hC, hT⟩ := PySem.W.excInit_of I.kIn S.xi
  obtain ⟨oc, od, fd, osl, lk, SF⟩ := S.fn
  obtain ⟨p0, p1, p2, p3, p4, hbd, hline⟩ := SF.bd
  obtain ⟨pp, hps⟩ := SF.ps
  obtain ⟨cc, ccl, ccd, csl, hclo, lcc⟩ := SF.ce
  obtain ⟨cda, dcl, dcd, vs, dsl, tf, hcode, lcd, hvs⟩ := SF.cd
  have KX : X.K.In hp := I.kIn
  have hci := SF.ci
  have hkd := SF.kd
  have hco := SF.co
  have hge := SF.ge
  have hsf := SF.sf
  have hcl := SF.cl
  have hsu := SF.su
  have hnc := SF.nc
  have hgl := SF.gl
  have hbu := SF.bu
  have hdf := SF.df
  have hkw := SF.kw
  clear SF
  obtain ⟨fn1, fq, fpar, fbody, fsc, fgl, fclo, fdef, fkw, fdoc, fmod, fan, fcode, fct, fbu⟩ := fd
  obtain ⟨skind, snames, sgen, sco, smore⟩ := fsc
  dsimp only at hbd hps hclo hcode hci hkd hco hge hsf hcl hsu hnc hgl hbu hdf hkw
  subst hbd hps hclo hcode hkd hco hge hgl hbu hdf hkw
  have hsz : hp.objs.size ≤ hp.objs.size + 1 := Nat.le_succ _
  have hn : H (hp.objs.size + 1) = none := I.hok.fresh hsz
  have kk : ∀ b o, hp.get? b = some o → ((hp.push (PySem.W.kdv_tup [])).push (PySem.HandSPX.excO (He.ga X.K x) hp.objs.size)).get? b = some o := fun b o e => Heap.get?_push_of_some _ (Heap.get?_push_of_some _ e)
  have hget : ((hp.push (PySem.W.kdv_tup [])).push (PySem.HandSPX.excO (He.ga X.K x) hp.objs.size)).get? (hp.objs.size + 1) = some (PySem.HandSPX.excO (He.ga X.K x) hp.objs.size) := by heap_get
  have nget : hp.get? (hp.objs.size + 1) = none := by
    cases q : hp.get? (hp.objs.size + 1) with
    | none => rfl
    | some o => exact absurd (Nat.lt_of_le_of_lt hsz (Heap.lt_size q)) (Nat.lt_irrefl _)
  show wpAny _ _ (call (.ref (He.ga X.K x)) []) _ _ _
  refine wpAny_call (PySem.HandSPX.call_own F.excBase_ValueError hT hC (PySem.W.looks_findIn KX S.fi) (fun self => PySem.W.bind_fn KX self S.tf) (Nat.zero_le _) ?_)
  have hroom := (hr.make (He.ga X.K x) [] []).depth
  refine ks_codeAny_call_defAt (binds := [(("self" : Str), .ref (hp.objs.size + 1))]) hroom (kk _ _ (KX _ _ lk)) rfl (I.nolimit.keeps kk) (PySem.W.codeRec_of (KX.keeps kk) hci) rfl (.of_eq rfl) hnc ?_ (fun h₀ hns hk => ?_) rfl rfl rfl
  · intro y hy
    rcases List.mem_singleton.mp hy with rfl
    exact hsf
  · have kh : ∀ b o, hp.get? b = some o → h₀.get? b = some o := fun b o e => hk b o (kk b o e)
    have X0 : X.K.In h₀ := KX.keeps kh
    have he0 : h₀.get? (hp.objs.size + 1) = some (PySem.HandSPX.excO (He.ga X.K x) hp.objs.size) := hk _ _ hget
    obtain ⟨mb, hb1, hb2⟩ := I.mod.blt
    have gl0 : h₀.Ns mainGlobals X.mg := (I.mod.glob.keeps I.bk).keeps kh
    have bl0 : h₀.Ns builtinsNs mb := (hb1.keeps I.bk).keeps kh
    have hC0 := kh _ _ hC
    refine ks_wpAt_execs_cons (ks_wpAt_Expr_any (ks_wpAt_MethodCall ?_ (mc_he hline)))
    refine ks_wpAt_super_base hsu hcl rfl rfl (X0 _ _ lk) rfl rfl rfl (X0 _ _ lcd) rfl hvs hfile htop ?_
    refine PySem.W.ks_loadName_global rfl hsu (Calls.loadGlobal_builtin gl0 hsup bl0 (hb2 _ (by decide)) ⟨rfl, ?_⟩)
    refine wpAny_loadName_free rfl hcl rfl ⟨_, X0 _ _ lcc, rfl⟩ ?_
    refine wpAny_loadName_local rfl hsf hns rfl ?_
    refine ks_wpAny_isType_cls hC0 rfl ⟨rfl, ?_⟩
    refine ks_wpAny_call_super hC0 rfl he0 rfl (fun c e => by cases e) (PySem.W.looks_mroIn X0 S.mC) (fun h1 es k1 => ?_)
    have X1 : X.K.In h1 := X0.keeps k1
    have he1 := k1 _ _ he0
    have I1 : PySem.W.InstAt h1 (hp.objs.size + 1) (PySem.HandSPX.excO (He.ga X.K x) hp.objs.size) (He.ga X.K x) none := ⟨he1, rfl, rfl, trivial⟩
    have hI : PySem.W.Looks (model X.prog X.w) h1 (isInstance (.ref (hp.objs.size + 1)) (.type "ValueError")) true := I1.type.andThen (PySem.W.looks_subIn X1 S.sV)
    have hsi := S.si
    unfold PySem.W.ks_superIn at hsi
    obtain ⟨cd, hcd, hal⟩ := Option.bind_eq_some_iff.mp hsi
    refine PySem.W.kxs_getMethod PySem.W.kxs_ValueError es (PySem.W.looks_opaque X1 S.th) (l₀ := cd.mro) ?_ rfl X1 hal hI (PySem.W.ks_ne X1 I1 hcd) rfl ?_
    · exact fun A Q E s k q => wpAny_bind ((PySem.W.looks_clsIn X1 hcd) A _ E s k (wpAny_pure q))
    · have k2 : ∀ b o, h1.get? b = some o → (h1.push (PySem.W.kxs_mw "ValueError.__init__" (hp.objs.size + 1))).get? b = some o := fun b o e => Heap.get?_push_of_some _ e
      have hu : (h1.push (PySem.W.kxs_mw "ValueError.__init__" (hp.objs.size + 1))).get? h1.objs.size = some (PySem.W.kxs_mw "ValueError.__init__" (hp.objs.size + 1)) := Heap.get?_push_at rfl rfl
      refine PySem.W.kxs_callWith (i := "ValueError.__init__") (x := hp.objs.size + 1) rfl (evalArgs_empty ⟨hu, ?_⟩)
      refine call_mw (k2 _ _ (k1 _ _ hC0)) (k2 _ _ he1) hu (Nat.zero_le _) (fun h' t1 k3 hx => ?_)
      refine wpAt_of_wpAny (wpAny_execs_nil ?_)
      have kall : ∀ b o, hp.get? b = some o → h'.get? b = some o := fun b o e => k3 b o (fun z => by rw [z, nget] at e; cases e) (k2 b o (k1 b o (kh b o e)))
      exact ⟨rfl, _, _, _, ⟨hp, g, dr, tk, os⟩, H, _, none, rfl, I, kall, nget, hx, ⟨rfl, rfl⟩, rfl, rfl, hn, rfl, I.bare, raises_own S.sB S.tC, h⟩
end
end Fz

/-! Ev33: an own error class over ValueError, made with one argument; its __init__ says super().__init__(a); self.f = a. -/
namespace Fz
open PySem PySem.Spec PyProof.Rows L2

/-! ### the test -/
def argBody (f a : Str) : FuncBody → Bool
  | .stmts [.Expr (.Call (.Attribute (.Call (.Name s _) [] [] _) i p2) [.Name b _] [] p3) _, .Assign [.Attribute (.Name e _) g _] (.Name c _) _] => decide (s = "super") && (decide (i = "__init__") && (decide (p2.endLine = p3.line) && (decide (b = a) && (decide (e = "self") && (decide (g = f) && decide (c = a))))))
  | _ => false
def argArgs (a : Str) : Arguments → Bool
  | ⟨[], [⟨x, none, _⟩, ⟨y, none, _⟩], none, [], [], none, []⟩ => decide (x = "self") && decide (y = a)
  | _ => false
def argScope (a : Str) (sc : Scope) : Bool := supScope sc && (decide (sc.names.lookup a = some .local) && (!(a == ("self" : Str)) && !(a == ("__debug__" : Str))))
def argFn (K : PySem.W.Frag) (file : Str) (C : Addr) (f a : Str) (fd : FuncData) : Bool := argBody f a fd.body && (argArgs a fd.params && (argScope a fd.scope && (supCell K C fd.closure && (supCode K file fd.code && (PySem.W.codeIn K fd.code fd.qualname && (decide (fd.globals = mainGlobals) && (decide (fd.builtins = builtinsNs) && (decide (fd.defaults = .none) && decide (fd.kwdefaults = .none)))))))))
def argB (file : Str) (x f a : Str) (K : PySem.W.Frag) : Bool :=
  He.eqO (PySem.W.nsIn K mainGlobals x) (some (some (.ref (He.ga K x)))) && (PySem.W.keepIn K (.ref (He.ga K x)) && (PySem.W.excInitIn K (He.ga K x) He.veBase "ValueError.__new__" && (He.eqO (PySem.W.findIn K (.ref (He.ga K x)) "__init__") (some (some (.ref (He.ma K (He.ga K x) "__init__")))) && (PySem.W.isFn K (.ref (He.ma K (He.ga K x) "__init__")) && ((match K.lookup (He.ma K (He.ga K x) "__init__") with
    | some ⟨_, _, .func fd, _⟩ => argFn K file (He.ga K x) f a fd
    | _ => false) && (He.eqO (PySem.W.nsIn K mainGlobals "super") (some none) && (He.eqO (PySem.W.nsIn K cStatics "thirdparty.any") (some none) && (He.eqO (PySem.W.ks_superIn K (He.ga K x) (He.ga K x) "__init__") (some (some (.builtin "ValueError.__init__"))) &&
    (decide (PySem.W.subIn K (.ref (He.ga K x)) (.type "ValueError") = some true) && (decide (PySem.W.mroIn K (He.ga K x) (.ref (He.ga K x)) = some true) && (decide (PySem.W.subIn K (.ref (He.ga K x)) (.type "BaseException") = some true) && (decide (PySem.W.typeIn K (.ref (He.ga K x)) = some (.type "type")) &&
    (He.eqO (PySem.W.findIn K (.ref (He.ga K x)) "__setattr__") (some (some (.builtin "object.__setattr__"))) && (He.eqO (PySem.W.findIn K (.ref (He.ga K x)) f) (some none) && (match PySem.W.clsIn K (He.ga K x) with
    | some cd => cd.hasDict && PySem.HandSPX.refsVE cd.mro
    | none => false)))))))))))))))
structure ArgFn (K : PySem.W.Frag) (file : Str) (C : Addr) (f a : Str) (fd : FuncData) : Prop where
  bd : ∃ p0 p1 p2 p3 p4 q0 q1 q2 q3 q4, fd.body = .stmts [.Expr (.Call (.Attribute (.Call (.Name "super" p0) [] [] p1) "__init__" p2) [.Name a q0] [] p3) p4, .Assign [.Attribute (.Name "self" q1) f q2] (.Name a q3) q4] ∧ p2.endLine = p3.line
  ps : ∃ p q, fd.params = ⟨[], [⟨"self", none, p⟩, ⟨a, none, q⟩], none, [], [], none, []⟩
  kd : fd.scope.kind = .function
  co : fd.scope.isCoroutine = false
  ge : fd.scope.isGenerator = false
  sf : fd.scope.names.lookup ("self" : Str) = some .local
  cl : fd.scope.names.lookup ("__class__" : Str) = some .free
  su : fd.scope.names.lookup ("super" : Str) = some .globalImplicit
  nc : ∀ y ∈ fd.scope.names, y.2 ≠ .cell
  ar : fd.scope.names.lookup a = some .local
  ne : a ≠ "self"
  db : (a == ("__debug__" : Str)) = false
  ce : ∃ cc c d sl, fd.closure = [(("__class__" : Str), cc)] ∧ K.lookup cc = some ⟨c, d, .cell (some (.ref C)), sl⟩
  cd : ∃ cda c d vs sl t, fd.code = .ref cda ∧ K.lookup cda = some ⟨c, d, .fields vs, sl⟩ ∧ vs[2]? = some (.str file t)
  ci : PySem.W.codeIn K fd.code fd.qualname = true
  gl : fd.globals = mainGlobals
  bu : fd.builtins = builtinsNs
  df : fd.defaults = .none
  kw : fd.kwdefaults = .none
theorem argBody_ok {f a : Str} {b : FuncBody} (h : argBody f a b = true) : ∃ p0 p1 p2 p3 p4 q0 q1 q2 q3 q4, b = .stmts [.Expr (.Call (.Attribute (.Call (.Name "super" p0) [] [] p1) "__init__" p2) [.Name a q0] [] p3) p4, .Assign [.Attribute (.Name "self" q1) f q2] (.Name a q3) q4] ∧ p2.endLine = p3.line := by
  unfold argBody at h
  split at h
  · obtain ⟨h1, h⟩ := He.ba h
    obtain ⟨h2, h⟩ := He.ba h
    obtain ⟨h3, h⟩ := He.ba h
    obtain ⟨h4, h⟩ := He.ba h
    obtain ⟨h5, h⟩ := He.ba h
    obtain ⟨h6, h7⟩ := He.ba h
    have h1 := of_decide_eq_true h1
    have h2 := of_decide_eq_true h2
    have h4 := of_decide_eq_true h4
    have h5 := of_decide_eq_true h5
    have h6 := of_decide_eq_true h6
    have h7 := of_decide_eq_true h7
    subst h1 h2 h4 h5 h6 h7
    exact ⟨_, _, _, _, _, _, _, _, _, _, rfl, of_decide_eq_true h3⟩
  · cases h
theorem argArgs_ok {a : Str} {b : Arguments} (h : argArgs a b = true) : ∃ p q, b = ⟨[], [⟨"self", none, p⟩, ⟨a, none, q⟩], none, [], [], none, []⟩ := by
  unfold argArgs at h
  split at h
  · obtain ⟨h1, h2⟩ := He.ba h
    have h1 := of_decide_eq_true h1
    have h2 := of_decide_eq_true h2
    subst h1 h2
    exact ⟨_, _, rfl⟩
  · cases h
theorem argFn_ok {K : PySem.W.Frag} {file : Str} {C : Addr} {f a : Str} {fd : FuncData} (h : argFn K file C f a fd = true) : ArgFn K file C f a fd := by
  obtain ⟨h1, h⟩ := He.ba h
  obtain ⟨h2, h⟩ := He.ba h
  obtain ⟨h3, h⟩ := He.ba h
  obtain ⟨h4, h⟩ := He.ba h
  obtain ⟨h5, h⟩ := He.ba h
  obtain ⟨h6, h⟩ := He.ba h
  obtain ⟨h7, h⟩ := He.ba h
  obtain ⟨h8, h⟩ := He.ba h
  obtain ⟨h9, h10⟩ := He.ba h
  obtain ⟨h3, a3⟩ := He.ba h3
  obtain ⟨a1, a3⟩ := He.ba a3
  obtain ⟨a2, a3⟩ := He.ba a3
  obtain ⟨s1, s⟩ := He.ba h3
  obtain ⟨s2, s⟩ := He.ba s
  obtain ⟨s3, s⟩ := He.ba s
  obtain ⟨s4, s⟩ := He.ba s
  obtain ⟨s5, s⟩ := He.ba s
  obtain ⟨s6, s7⟩ := He.ba s
  exact ⟨argBody_ok h1, argArgs_ok h2, of_decide_eq_true s1, by simpa using s2, by simpa using s3, of_decide_eq_true s4, of_decide_eq_true s5, of_decide_eq_true s6, fun y hy => of_decide_eq_true (List.all_eq_true.mp s7 y hy), of_decide_eq_true a1, by simpa using a2, by simpa using a3, supCell_ok h4, supCode_ok h5, h6, of_decide_eq_true h7, of_decide_eq_true h8, of_decide_eq_true h9, of_decide_eq_true h10⟩
structure ArgC (K : PySem.W.Frag) (file : Str) (x f a : Str) : Prop where
  gx : PySem.W.nsIn K mainGlobals x = some (some (.ref (He.ga K x)))
  kC : PySem.W.keepIn K (.ref (He.ga K x)) = true
  xi : PySem.W.excInitIn K (He.ga K x) He.veBase "ValueError.__new__" = true
  fi : PySem.W.findIn K (.ref (He.ga K x)) "__init__" = some (some (.ref (He.ma K (He.ga K x) "__init__")))
  tf : PySem.W.typeIn K (.ref (He.ma K (He.ga K x) "__init__")) = some (.type "function")
  fn : ∃ oc od fd osl, K.lookup (He.ma K (He.ga K x) "__init__") = some ⟨oc, od, .func fd, osl⟩ ∧ ArgFn K file (He.ga K x) f a fd
  su : PySem.W.nsIn K mainGlobals "super" = some none
  th : PySem.W.nsIn K cStatics "thirdparty.any" = some none
  si : PySem.W.ks_superIn K (He.ga K x) (He.ga K x) "__init__" = some (some (.builtin "ValueError.__init__"))
  sV : PySem.W.subIn K (.ref (He.ga K x)) (.type "ValueError") = some true
  mC : PySem.W.mroIn K (He.ga K x) (.ref (He.ga K x)) = some true
  sB : PySem.W.subIn K (.ref (He.ga K x)) (.type "BaseException") = some true
  tC : PySem.W.typeIn K (.ref (He.ga K x)) = some (.type "type")
  sa : PySem.W.findIn K (.ref (He.ga K x)) "__setattr__" = some (some (.builtin "object.__setattr__"))
  no : PySem.W.findIn K (.ref (He.ga K x)) f = some none
  cd : ∃ cd, PySem.W.clsIn K (He.ga K x) = some cd ∧ cd.hasDict = true ∧ PySem.HandSPX.refsVE cd.mro = true
theorem argB_ok {file x f a : Str} {K : PySem.W.Frag} (h : argB file x f a K = true) : ArgC K file x f a := by
  obtain ⟨h1, h⟩ := He.ba h
  obtain ⟨h2, h⟩ := He.ba h
  obtain ⟨h3, h⟩ := He.ba h
  obtain ⟨h4, h⟩ := He.ba h
  obtain ⟨h5, h⟩ := He.ba h
  obtain ⟨h6, h⟩ := He.ba h
  obtain ⟨h7, h⟩ := He.ba h
  obtain ⟨h8, h⟩ := He.ba h
  obtain ⟨h9, h⟩ := He.ba h
  obtain ⟨h10, h⟩ := He.ba h
  obtain ⟨h11, h⟩ := He.ba h
  obtain ⟨h12, h⟩ := He.ba h
  obtain ⟨h13, h⟩ := He.ba h
  obtain ⟨h14, h⟩ := He.ba h
  obtain ⟨h15, h16⟩ := He.ba h
  refine ⟨He.eqO_ok h1, h2, h3, He.eqO_ok h4, beq_iff_eq.mp h5, ?_, He.eqO_ok h7, He.eqO_ok h8, He.eqO_ok h9, of_decide_eq_true h10, of_decide_eq_true h11, of_decide_eq_true h12, of_decide_eq_true h13, He.eqO_ok h14, He.eqO_ok h15, ?_⟩
  · split at h6
    · rename_i q
      exact ⟨_, _, _, _, q, argFn_ok h6⟩
    · cases h6
  · split at h16
    · rename_i cd q
      obtain ⟨z1, z2⟩ := He.ba h16
      exact ⟨cd, q, z1, z2⟩
    · cases h16

/-- how the __init__ takes its arguments -/
def BindA (a : Str) : Prop := ∀ (fd : FuncData) (p q : Pos) (r u : Value), fd.params = ⟨[], [⟨"self", none, p⟩, ⟨a, none, q⟩], none, [], [], none, []⟩ → fd.defaults = .none → fd.kwdefaults = .none → bindArgs fd ⟨[r, u], []⟩ = pure [(("self" : Str), r), (a, u)]
theorem bindA_most : BindA "most" := fun fd p q r u h1 h2 h3 => by
  obtain ⟨fn1, fq, fpar, fbody, fsc, fgl, fclo, fdef, fkw, fdoc, fmod, fan, fcode, fct, fbu⟩ := fd
  dsimp only at h1 h2 h3
  subst h1 h2 h3
  rfl

/-! ### super().__init__(a) called -/
theorem mc_eqA {o e : Expr} {name : Str} {p2 p3 : Pos} {env : Env} {ov : Value} {n : Nat} {args : List (Bool × Sem Value)} (h : p2.endLine = p3.line) (hf : methodCallForm n args [] = true) : methodCall o name p2 p3 env ov n args [] = (do
    let (f, first) ← holding [ov] (getMethod ov name (do return (← importBound o env).getD true))
    callWith p3 f first args []) := by
  have hb : (p2.endLine == p3.line) = true := by rw [h]; exact beq_self_eq_true _
  have hp : methodCallPos (methodCallForm n args []) o env p2 p3 = pure p3 := by
    unfold methodCallPos
    rw [hb, Bool.or_true]
    rfl
  rw [hf] at hp
  unfold methodCall
  simp only [hf, hp, pure_bind]
  rfl
theorem mc_heA {o : Expr} {name a : Str} {p2 p3 q0 : Pos} {env : Env} (h : p2.endLine = p3.line) : eval (.Call (.Attribute o name p2) [.Name a q0] [] p3) env = (do
      let ov ← attributeBase o name env (eval o env)
      standAt p2.atName
      let (f, first) ← holding [ov] (getMethod ov name (do return (← importBound o env).getD true))
      callWith p3 f first (backTo p3 (starEach [.Name a q0] env)) []) := by
  show (do
    let ov ← attributeBase o name env (eval o env)
    standAt p2.atName
    methodCall o name p2 p3 env ov 1 (backTo p3 (starEach [.Name a q0] env)) []) = _
  simp only [mc_eqA (o := o) (e := o) (name := name) (env := env) (n := 1) (args := backTo p3 (starEach [.Name a q0] env)) h rfl]
section
variable {X : Cx}
theorem pmk_arg {file x f a : Str} {e : Expr} {ta : TA} {p pos : Pos} (hba : BindA a) (S : ArgC X.K file x f a) (hfile : ((X.prog.main.file : Str) == file) = true) (htop : (X.prog.main.scope.names.lookup ("super" : Str)).isSome = false) (hm : X.mg x = some (.ref (He.ga X.K x))) (hsup : X.mg "super" = none) (hr : Room 1 X.A) (hg : Gl X x)
    (hdb : (x == ("__debug__" : Str)) = false) (ha : PA X [e] ta) (he : starEach [e] X.env = (false, eval e X.env) :: starEach [] X.env) : PMk X (.Call (.Name x p) [e] [] pos) (tMkA X.K x f ta) := by
  intro pins s0 σ H0 Q I0 hw
  refine wpAny_Call_Name_kw (ld_glob I0 hg hm ?_ hdb)
  refine PySem.W.callWith_K (h₀ := X.base) I0.ok.mod.kin S.kC (thn (ha.run pos pins s0 σ H0 _ I0 hw) fun us s ⟨vs0, H, I, r1, v, ev, q1⟩ => ⟨I.kIn, ?_⟩) he rfl
  subst ev
  obtain ⟨u, rfl, ru⟩ := vals1 r1
  obtain ⟨hp, g, dr, tk, os⟩ := s
  obtain ⟨nm, N, qn, bs, bm, hdct, sn, sub, ab, col, dd, k0, k1, k2, k3, k5, hC, hT⟩ := PySem.W.excInit_of I.kIn S.xi
  obtain ⟨oc, od, fd, osl, lk, SF⟩ := S.fn
  obtain ⟨p0, p1, p2, p3, p4, q0, q1', q2, q3, q4, hbd, hline⟩ := SF.bd
  obtain ⟨pp, pq, hps⟩ := SF.ps
  obtain ⟨cc, ccl, ccd, csl, hclo, lcc⟩ := SF.ce
  obtain ⟨cda, dcl, dcd, vs, dsl, tf, hcode, lcd, hvs⟩ := SF.cd
  have KX : X.K.In hp := I.kIn
  have hci := SF.ci
  have hkd := SF.kd
  have hco := SF.co
  have hge := SF.ge
  have hsf := SF.sf
  have hcl := SF.cl
  have hsu := SF.su
  have hnc := SF.nc
  have har := SF.ar
  have hne := SF.ne
  have hadb := SF.db
  have hgl := SF.gl
  have hbu := SF.bu
  have hdf := SF.df
  have hkw := SF.kw
  clear SF
  obtain ⟨fn1, fq, fpar, fbody, fsc, fgl, fclo, fdef, fkw, fdoc, fmod, fan, fcode, fct, fbu⟩ := fd
  obtain ⟨skind, snames, sgen, sco, smore⟩ := fsc
  dsimp only at hbd hps hclo hcode hci hkd hco hge hsf hcl hsu hnc har hgl hbu hdf hkw
  subst hbd hps hclo hcode hkd hco hge hgl hbu hdf hkw
  have hsz : hp.objs.size ≤ hp.objs.size + 1 := Nat.le_succ _
  have hn : H (hp.objs.size + 1) = none := I.hok.fresh hsz
  have kk : ∀ b o, hp.get? b = some o → ((hp.push (PySem.W.kdv_tup [u])).push (PySem.HandSPX.excO (He.ga X.K x) hp.objs.size)).get? b = some o := fun b o e => Heap.get?_push_of_some _ (Heap.get?_push_of_some _ e)
  have hget : ((hp.push (PySem.W.kdv_tup [u])).push (PySem.HandSPX.excO (He.ga X.K x) hp.objs.size)).get? (hp.objs.size + 1) = some (PySem.HandSPX.excO (He.ga X.K x) hp.objs.size) := by heap_get
  have nget : hp.get? (hp.objs.size + 1) = none := by
    cases q : hp.get? (hp.objs.size + 1) with
    | none => rfl
    | some o => exact absurd (Nat.lt_of_le_of_lt hsz (Heap.lt_size q)) (Nat.lt_irrefl _)
  show wpAny _ _ (call (.ref (He.ga X.K x)) [u]) _ _ _
  refine wpAny_call (PySem.HandSPX.call_own F.excBase_ValueError hT hC (PySem.W.looks_findIn KX S.fi) (fun self => PySem.W.bind_fn KX self S.tf) (by rw [sizeLine_eq]; show 1 ≤ _; omega) ?_)
  have hroom := (hr.make (He.ga X.K x) [u] []).depth
  refine ks_codeAny_call_defAt (binds := [(("self" : Str), .ref (hp.objs.size + 1)), (a, u)]) hroom (kk _ _ (KX _ _ lk)) rfl (I.nolimit.keeps kk) (PySem.W.codeRec_of (KX.keeps kk) hci) rfl (.of_eq (hba _ pp pq _ _ rfl rfl rfl)) hnc ?_ (fun h₀ hns hk => ?_) rfl rfl rfl
  · intro y hy
    rcases List.mem_cons.mp hy with rfl | hy
    · exact hsf
    · rcases List.mem_singleton.mp hy with rfl
      exact har
  · have kh : ∀ b o, hp.get? b = some o → h₀.get? b = some o := fun b o e => hk b o (kk b o e)
    have X0 : X.K.In h₀ := KX.keeps kh
    have he0 : h₀.get? (hp.objs.size + 1) = some (PySem.HandSPX.excO (He.ga X.K x) hp.objs.size) := hk _ _ hget
    obtain ⟨mb, hb1, hb2⟩ := I.mod.blt
    have gl0 : h₀.Ns mainGlobals X.mg := (I.mod.glob.keeps I.bk).keeps kh
    have bl0 : h₀.Ns builtinsNs mb := (hb1.keeps I.bk).keeps kh
    have hC0 := kh _ _ hC
    have la : ([(("self" : Str), Value.ref (hp.objs.size + 1)), (a, u)] : List (Str × Value)).reverse.lookup a = some u := by
      show List.lookup a [(a, u), (("self" : Str), Value.ref (hp.objs.size + 1))] = some u
      simp
    have ls : ([(("self" : Str), Value.ref (hp.objs.size + 1)), (a, u)] : List (Str × Value)).reverse.lookup ("self" : Str) = some (Value.ref (hp.objs.size + 1)) := by
      show List.lookup ("self" : Str) [(a, u), (("self" : Str), Value.ref (hp.objs.size + 1))] = some (Value.ref (hp.objs.size + 1))
      have : (("self" : Str) == a) = false := by
        rw [beq_eq_false_iff_ne]
        exact fun z => hne z.symm
      simp [List.lookup, this]
    refine ks_wpAt_execs_cons (ks_wpAt_Expr_any (ks_wpAt_MethodCall ?_ (mc_heA hline)))
    refine ks_wpAt_super_base hsu hcl rfl rfl (X0 _ _ lk) rfl rfl rfl (X0 _ _ lcd) rfl hvs hfile htop ?_
    refine PySem.W.ks_loadName_global rfl hsu (Calls.loadGlobal_builtin gl0 hsup bl0 (hb2 _ (by decide)) ⟨rfl, ?_⟩)
    refine wpAny_loadName_free rfl hcl rfl ⟨_, X0 _ _ lcc, rfl⟩ ?_
    refine wpAny_loadName_local rfl hsf hns ls ?_
    refine ks_wpAny_isType_cls hC0 rfl ⟨rfl, ?_⟩
    refine ks_wpAny_call_super hC0 rfl he0 rfl (fun c e => by cases e) (PySem.W.looks_mroIn X0 S.mC) (fun h1 es k1 => ?_)
    have X1 : X.K.In h1 := X0.keeps k1
    have he1 := k1 _ _ he0
    have I1 : PySem.W.InstAt h1 (hp.objs.size + 1) (PySem.HandSPX.excO (He.ga X.K x) hp.objs.size) (He.ga X.K x) none := ⟨he1, rfl, rfl, trivial⟩
    have hI : PySem.W.Looks (model X.prog X.w) h1 (isInstance (.ref (hp.objs.size + 1)) (.type "ValueError")) true := I1.type.andThen (PySem.W.looks_subIn X1 S.sV)
    have hsi := S.si
    unfold PySem.W.ks_superIn at hsi
    obtain ⟨cd, hcd, hal⟩ := Option.bind_eq_some_iff.mp hsi
    refine PySem.W.kxs_getMethod PySem.W.kxs_ValueError es (PySem.W.looks_opaque X1 S.th) (l₀ := cd.mro) ?_ rfl X1 hal hI (PySem.W.ks_ne X1 I1 hcd) rfl ?_
    · exact fun A Q E s k q => wpAny_bind ((PySem.W.looks_clsIn X1 hcd) A _ E s k (wpAny_pure q))
    · have k2 : ∀ b o, h1.get? b = some o → (h1.push (PySem.W.kxs_mw "ValueError.__init__" (hp.objs.size + 1))).get? b = some o := fun b o e => Heap.get?_push_of_some _ e
      have hu : (h1.push (PySem.W.kxs_mw "ValueError.__init__" (hp.objs.size + 1))).get? h1.objs.size = some (PySem.W.kxs_mw "ValueError.__init__" (hp.objs.size + 1)) := Heap.get?_push_at rfl rfl
      refine PySem.W.kxs_callWith (i := "ValueError.__init__") (x := hp.objs.size + 1) rfl ?_
      refine Calls.evalArgs_plain (Calls.spliced_cons ?_)
      refine wpAny_Name ?_ hadb
      refine wpAny_loadName_local rfl har ((hns.keeps k1).keeps k2) la ?_
      refine Calls.spliced_nil ?_
      refine ⟨hu, ?_⟩
      refine call_mw (k2 _ _ (k1 _ _ hC0)) (k2 _ _ he1) hu (by rw [sizeLine_eq]; show 1 ≤ _; omega) (fun h' t1 k3 hx => ?_)
      have kall : ∀ b o, hp.get? b = some o → h'.get? b = some o := fun b o e => k3 b o (fun z => by rw [z, nget] at e; cases e) (k2 b o (k1 b o (kh b o e)))
      have hL : ((hp.push (PySem.W.kdv_tup [u])).push (PySem.HandSPX.excO (He.ga X.K x) hp.objs.size)).objs.size ≠ hp.objs.size + 1 := by
        have := Heap.lt_size hget
        exact fun z => absurd this (by rw [z]; exact Nat.lt_irrefl _)
      have hns' := ((hns.keeps k1).keeps k2).at fun o y => k3 _ _ hL y
      refine wpAt_of_wpAny (wpAny_execs_cons (plainObj_wpAny_Assign_Attribute ?_ rfl))
      refine wpAny_Name ?_ hadb
      refine wpAny_loadName_local rfl har hns' la ?_
      refine wpAny_Name ?_ (by decide)
      refine wpAny_loadName_local rfl hsf hns' ls ?_
      have X3 : X.K.In h' := KX.keeps kall
      obtain ⟨cd2, hcd2, hhd, hvm⟩ := S.cd
      refine PySem.W.set_plain X3 (ox := PySem.HandSPX.excO (He.ga X.K x) t1) (od := none) ⟨hx, rfl, rfl, trivial⟩ S.sa ?_
      refine PySem.HandSPX.exc_osa X3 hx hcd2 hvm hhd S.no (fun h4 tk4 dx k4 dn dne hx4 hn4 => ?_)
      refine wpAny_execs_nil ?_
      have hgt : ((hp.push (PySem.W.kdv_tup [u])).push (PySem.HandSPX.excO (He.ga X.K x) hp.objs.size)).get? hp.objs.size = some (PySem.W.kdv_tup [u]) := by heap_get
      have hp3 : hp.objs.size ≤ h'.objs.size := Nat.le_of_lt (Heap.lt_size (k3 _ _ (Nat.ne_of_lt (Nat.lt_succ_self _)) (k2 _ _ (k1 _ _ (hk _ _ hgt)))))
      have dn' : hp.objs.size ≤ dx := Nat.le_trans hp3 dn
      have hdx : H dx = none := I.hok.fresh dn'
      have kall4 : ∀ b o, hp.get? b = some o → h4.get? b = some o := fun b o e => k4 b o (fun z => by rw [z, nget] at e; cases e) (kall b o e)
      obtain ⟨G, g1', g2'⟩ := restrict h4 fun b => decide (b ≠ hp.objs.size + 1)
      have gk : ∀ b, b ≠ hp.objs.size + 1 → G.get? b = h4.get? b := fun b hb => g1' b (decide_eq_true hb)
      have ge : G.get? (hp.objs.size + 1) = none := g2' _ (by simp)
      have kG : ∀ b o, hp.get? b = some o → G.get? b = some o := fun b o e => by
        rw [gk b fun z => by rw [z, nget] at e; cases e]
        exact kall4 b o e
      have IG : Inv X pins σ (upd H dx (.xd [(f, v)])) ⟨G, g, dr, tk, os⟩ := I.laid (t' := tk) (a := dx) (o := .xd [(f, v)]) (h' := G) kG dn' ⟨_, hn4.at fun o y => (gk dx dne).trans y, relO_put (fs := []) ru fun g => True.intro⟩
      refine ⟨rfl, _, _, _, ⟨G, g, dr, tk, os⟩, upd H dx (.xd [(f, v)]), .ref (He.ga X.K x), some dx, rfl, IG, fun b o z => ?_, ge, hx4, ⟨rfl, rfl⟩, rfl, rfl, ?_, rfl, I.bare, raises_own S.sB S.tC, q1 dx hdx⟩
      · by_cases hb : b = hp.objs.size + 1
        · rw [hb, ge] at z; cases z
        · rw [← gk b hb]; exact z
      · rw [upd_ne (Ne.symm dne)]; exact hn
end
end Fz

/-! Ev18: tables of functions and constants, error classes, code tables; what the head's heap says of them. -/
namespace Fz
open PySem PySem.Spec PyProof.Rows L2
theorem lk_nil {β : Type} {P : Str → β → Prop} : ∀ x i, ([] : List (Str × β)).lookup x = some i → P x i := fun x i h => by cases h
theorem lk_cons {β : Type} {P : Str → β → Prop} {y : Str} {j : β} {l : List (Str × β)} (h : P y j) (h2 : ∀ x i, l.lookup x = some i → P x i) : ∀ x i, ((y, j) :: l).lookup x = some i → P x i := fun x i e => by
  by_cases hx : x = y
  · subst hx
    rw [List.lookup_cons, beq_self_eq_true] at e
    have e := Option.some.inj e
    subst e
    exact h
  · have hb : (x == y) = false := beq_eq_false_iff_ne.mpr hx
    rw [List.lookup_cons, hb] at e
    exact h2 x i e
section
variable {P : Program} {w : World} {K : PySem.W.Frag} {mg : Str → Option Value} {base h : Heap} {τ : List (Addr × Str)}
/-- one callee's entry -/
theorem fn_at {f : Addr} {fd : FuncData} {ps : List Str} {k k' i : Nat} {g g' : Bool} {Φ : Fns} {F : FnSem} {x : Str} (h1 : mg x = some (.ref f)) (h2 : PySem.W.keepIn K (.ref f) = true) (h3 : Binds K fd ps []) (h4 : FnG g' P w K mg base k' f fd ps (spF τ K F)) (hF : Φ i = F) (hk : k' ≤ k) (hg : g' = true → g = true) (hl : ps.length = F.inout.length) :
    ∃ f fd ps k', mg x = some (.ref f) ∧ PySem.W.keepIn K (.ref f) = true ∧ Binds K fd ps [] ∧ FnG g P w K mg base k' f fd ps (spF τ K (Φ i)) ∧ k' ≤ k ∧ ps.length = (Φ i).inout.length := by
  subst hF
  exact ⟨f, fd, ps, k', h1, h2, h3, h4.mono (Nat.le_refl _) hg, hk, hl⟩
theorem int_at (X : K.In h) (G : h.Ns mainGlobals mg) {x : Str} {i : Int} {j : Nat} {Γ : List D} (c : (He.Fa.int x i).ok K = true) (hj : Γ[j]? = some (.int i)) : ∃ u v d, mg x = some u ∧ RelV v u ∧ Γ[j]? = some d ∧ ∀ G, Rp K G v d := by
  obtain ⟨t, e⟩ := He.int_ok X G c
  exact ⟨_, .int i, _, e, ⟨t, rfl⟩, hj, fun _ => .int i⟩
theorem fnv_at {K : PySem.W.Frag} {mg : Str → Option Value} {x : Str} {j : Nat} {Γ : List D} (m : mg x = some (.ref (He.fAd K (x, none)))) (hj : Γ[j]? = some (fnD x)) : ∃ u v d, mg x = some u ∧ RelV v u ∧ Γ[j]? = some d ∧ ∀ G, Rp K G v d := ⟨_, .ref _, _, m, rfl, hj, fun _ => .fn⟩
theorem str_at (X : K.In h) (G : h.Ns mainGlobals mg) {x : Str} {i : Str} {j : Nat} {Γ : List D} (c : (He.Fa.str x i).ok K = true) (hj : Γ[j]? = some (.str i)) : ∃ u v d, mg x = some u ∧ RelV v u ∧ Γ[j]? = some d ∧ ∀ G, Rp K G v d := by
  obtain ⟨t, e⟩ := He.str_ok X G c
  exact ⟨_, .str i, _, e, ⟨t, rfl⟩, hj, fun _ => .str i⟩
/-- the names that no text binds -/
theorem bi_free (X : K.In h) (G : h.Ns mainGlobals mg) (c : ∀ x ∈ biNames, (He.Fa.free x).ok K = true) : ∀ x ∈ biNames, mg x = none := fun x hx => He.free_ok X G (c x hx)
/-- a copy that comes to nothing -/
theorem fn_bad {g : Bool} {x : Str} {params : Arguments} {stmts : List Stmt} {sc : Scope} {f : Addr} {fd : FuncData} {N ps : List Str} {inout : List Bool} (F : FunD K x x params stmts sc [] [] f fd) (S : FnScope N ps sc) (hl : ps.length = inout.length) :
    FnG g P w K mg base 1 f fd ps (spF τ K ⟨inout, fun _ => .no⟩) :=
  ⟨fun vs H Q E ⟨G, ds, _, _, _, h, _⟩ => h.trans hl.symm, fun A outer s H args us vs Q E hr ha e0 hbd hv ⟨_, _, _, _, _, _, _, _, h⟩ => h.elim⟩
end
def allB (f : Value → D → Bool) : List Value → List D → Bool
  | [], [] => true
  | u :: us, d :: ds => f u d && allB f us ds
  | _, _ => false
def dataB (K : PySem.W.Frag) : Nat → Value → D → Bool
  | 0, _, _ => false
  | n + 1, u, d => match u with
    | .none => (match d with
      | .none => true
      | _ => false)
    | .bool b => (match d with
      | .bool c => decide (b = c)
      | _ => false)
    | .int i _ => (match d with
      | .int j => decide (i = j)
      | _ => false)
    | .str x _ => (match d with
      | .str y => decide (x = y)
      | _ => false)
    | .ref a => (match d with
      | .tuple ds => (match K.lookup a with
        | some o => (match o.data with
          | .seq its _ => decide (o.cls = .type "tuple") && (decide (its.size ≤ sizeLine) && allB (dataB K n) its.toList ds)
          | _ => false)
        | none => false)
      | _ => false)
    | _ => false
def konB (K : PySem.W.Frag) (x : Str) (d : D) : Bool := match PySem.W.nsIn K mainGlobals x with
  | some (some u) => dataB K 9 u d
  | _ => false
section
variable {K : PySem.W.Frag} {h : Heap} {mg : Str → Option Value}
theorem allB_ok {f : Value → D → Bool} (hf : ∀ u d, f u d = true → ∃ v, RelV v u ∧ ∀ G, Rp K G v d) : ∀ us ds, allB f us ds = true → ∃ vs, Vals vs us ∧ ∀ G, RpA K G vs ds
  | [], [], _ => ⟨[], .nil, fun _ => .nil⟩
  | [], _ :: _, e => by cases e
  | _ :: _, [], e => by cases e
  | u :: us, d :: ds, e => by
    obtain ⟨e1, e2⟩ := He.ba (show (f u d && allB f us ds) = true from e)
    obtain ⟨v, h1, h2⟩ := hf u d e1
    obtain ⟨vs, h3, h4⟩ := allB_ok hf us ds e2
    exact ⟨v :: vs, .cons h1 h3, fun G => .cons (h2 G) (h4 G)⟩
theorem dataB_ok : ∀ n u d, dataB K n u d = true → ∃ v, RelV v u ∧ ∀ G, Rp K G v d
  | 0, _, _, e => by cases e
  | n + 1, u, d, e => by
    unfold dataB at e
    cases u with
    | none =>
      cases d with
      | none => exact ⟨.non, rfl, fun _ => .non⟩
      | _ => cases e
    | bool b =>
      cases d with
      | bool c =>
        have hb : b = c := of_decide_eq_true e
        subst hb
        exact ⟨.bl b, rfl, fun _ => .bl b⟩
      | _ => cases e
    | int i t =>
      cases d with
      | int j =>
        have hb : i = j := of_decide_eq_true e
        subst hb
        exact ⟨.int i, ⟨t, rfl⟩, fun _ => .int i⟩
      | _ => cases e
    | str x t =>
      cases d with
      | str y =>
        have hb : x = y := of_decide_eq_true e
        subst hb
        exact ⟨.str x, ⟨t, rfl⟩, fun _ => .str x⟩
      | _ => cases e
    | ref a =>
      cases d with
      | tuple ds =>
        simp only at e
        cases q : K.lookup a with
        | none =>
          rw [q] at e
          cases e
        | some o =>
          rw [q] at e
          simp only at e
          cases qd : o.data with
          | seq its k =>
            rw [qd] at e
            obtain ⟨e1, e2⟩ := He.ba e
            obtain ⟨e3, e4⟩ := He.ba e2
            obtain ⟨vs, h3, h4⟩ := allB_ok (dataB_ok n) its.toList ds e4
            exact ⟨.ref a, rfl, fun G => .tup (.inr ⟨o, its, k, q, of_decide_eq_true e1, qd, of_decide_eq_true e3, h3⟩) (h4 G)⟩
          | _ => rw [qd] at e; cases e
      | _ => cases e
    | _ => cases e
theorem kon_at (X : K.In h) (G : h.Ns mainGlobals mg) {x : Str} {d : D} {j : Nat} {Γ : List D} (c : konB K x d = true) (hj : Γ[j]? = some d) : ∃ u v d, mg x = some u ∧ RelV v u ∧ Γ[j]? = some d ∧ ∀ G, Rp K G v d := by
  unfold konB at c
  cases e : PySem.W.nsIn K mainGlobals x with
  | none =>
    rw [e] at c
    cases c
  | some o =>
    rw [e] at c
    cases o with
    | none => cases c
    | some u =>
      obtain ⟨v, h1, h2⟩ := dataB_ok 9 u d c
      exact ⟨u, v, d, PySem.W.mg_of X G e, h1, hj, h2⟩
end

/-! ### error classes -/
def excCB (K : PySem.W.Frag) (C : Addr) : Bool :=
  He.eqO (PySem.W.findIn K (.ref C) "__getattribute__") (some (some (.builtin "BaseException.__getattribute__"))) && (He.eqO (PySem.W.findIn K (.ref C) "__getattr__") (some none) && (decide (PySem.W.subIn K (.ref C) (.type "BaseException") = some true) && (PySem.W.hasDictIn K C &&
    (He.eqO (PySem.W.findIn K (.ref C) "__class__") (some (some (.builtin "object.__class__"))) && (He.eqO (PySem.W.specialIn K (.builtin "object.__class__") "__get__") (some (some (.builtin "getset_descriptor.__get__"))) && (decide (PySem.W.takesIn K (.builtin "object.__class__") = some true) && decide (PySem.W.mroIn K C (.type "object") = some true)))))))
theorem excCB_ok {K : PySem.W.Frag} {C : Addr} (h : excCB K C = true) : ExcC K C := by
  obtain ⟨h1, h⟩ := He.ba h
  obtain ⟨h2, h⟩ := He.ba h
  obtain ⟨h3, h⟩ := He.ba h
  obtain ⟨h4, h⟩ := He.ba h
  obtain ⟨h5, h⟩ := He.ba h
  obtain ⟨h6, h⟩ := He.ba h
  obtain ⟨h7, h8⟩ := He.ba h
  exact ⟨He.eqO_ok h1, He.eqO_ok h2, of_decide_eq_true h3, h4, He.eqO_ok h5, He.eqO_ok h6, of_decide_eq_true h7, of_decide_eq_true h8⟩
/-- whether an exception of the class c is a y -/
def isB (K : PySem.W.Frag) (c y : Str) (b : Bool) : Bool := match PySem.W.nsIn K mainGlobals y with
  | some (some (.ref a)) => decide (PySem.W.kitOne K (.ref (He.ga K c)) (.ref a) = some b)
  | some none => decide (y = "ValueError") && decide (PySem.W.kitOne K (.ref (He.ga K c)) (.type "ValueError") = some b)
  | _ => false
theorem isB_ok {K : PySem.W.Frag} {h : Heap} {mg : Str → Option Value} (X : K.In h) (G : h.Ns mainGlobals mg) {c y : Str} {b : Bool} (e : isB K c y b = true) :
    ∃ (v : V) (u : Value), (mg y = some u ∨ (mg y = none ∧ bootBuiltins y = some u ∧ y ≠ "__name__")) ∧ RelV v u ∧ (∀ u', RelV v u' → u' = u) ∧ PySem.W.kitOne K (.ref (He.ga K c)) u = some b := by
  unfold isB at e
  split at e
  · rename_i a q
    exact ⟨.ref a, .ref a, .inl (PySem.W.mg_of X G q), rfl, fun _ z => z, of_decide_eq_true e⟩
  · rename_i q
    obtain ⟨e1, e2⟩ := He.ba e
    have e1 := of_decide_eq_true e1
    subst e1
    exact ⟨.ty "ValueError", .type "ValueError", .inr ⟨PySem.W.mg_none_of X G q, PyProof.Rows.Boot.«ValueError», by decide⟩, rfl, fun _ z => z, of_decide_eq_true e2⟩
  · cases e
def xfB (K : PySem.W.Frag) (sky c : Str) (is : List (Str × Bool)) (fl : Bool) : Bool := excCB K (He.ga K c) && (decide (PySem.W.exmOne K (.ref (He.ga K c)) (.ref (He.ga K sky)) = some true) && ((is.all fun y => isB K c y.1 y.2) && (!fl || He.eqO (PySem.W.findIn K (.ref (He.ga K c)) (fieldOf c)) (some none))))
theorem xfB_ok {K : PySem.W.Frag} {h : Heap} {mg : Str → Option Value} (X : K.In h) (G : h.Ns mainGlobals mg) {sky c e : Str} {is : List (Str × Bool)} {fl : Bool} {fld : List (Str × D)} {hlp : List (Str × List Bool)} {tst : Option Str} (b : xfB K sky c is fl = true) (hfl : (fl = false ∧ fld = []) ∨ (fl = true ∧ ∃ f d, fld = [(f, d)] ∧ f = fieldOf c)) : XFacts K mg (He.ga K sky) c ⟨e, is, fld, hlp, tst⟩ := by
  obtain ⟨h1, h2⟩ := He.ba b
  obtain ⟨h2, h3⟩ := He.ba h2
  obtain ⟨h3, h4⟩ := He.ba h3
  refine ⟨excCB_ok h1, of_decide_eq_true h2, fun y v hy => isB_ok X G (List.all_eq_true.mp h3 (y, v) (PySem.mem_of_lookup hy)), ?_⟩
  rcases hfl with ⟨_, z⟩ | ⟨rfl, f, d, z, zf⟩
  · exact .inl z
  subst zf
  · exact .inr ⟨d, z, He.eqO_ok (by simpa using h4)⟩
theorem exK_of {P : Program} {w : World} {K : PySem.W.Frag} {h : Heap} {mg : Str → Option Value} {base : Heap} {file x : Str} (X : K.In h) (G : h.Ns mainGlobals mg) (b : supB file x K = true) (hfile : ((P.main.file : Str) == file) = true) (htop : (P.main.scope.names.lookup ("super" : Str)).isSome = false)
    (hdb : (x == ("__debug__" : Str)) = false) : ExK P w K mg base x := by
  intro p pos Y y1 y2 y3 y4 y5 hr hg
  subst y1 y2 y3 y4 y5
  have S := supB_ok b
  exact pmk_sup S hfile htop (PySem.W.mg_of X G S.gx) (PySem.W.mg_none_of X G S.su) hr hg hdb

theorem fld_TooMany : ("most" : Str) = fieldOf "TooMany" := by decide +kernel
theorem fld_BadText : ("line" : Str) = fieldOf "BadText" := by decide +kernel
theorem fld_NoName : ("name" : Str) = fieldOf "NoName" := by decide +kernel
theorem bindA_line : BindA "line" := fun fd p q r u h1 h2 h3 => by
  obtain ⟨fn1, fq, fpar, fbody, fsc, fgl, fclo, fdef, fkw, fdoc, fmod, fan, fcode, fct, fbu⟩ := fd
  dsimp only at h1 h2 h3
  subst h1 h2 h3
  rfl
theorem bindA_name : BindA "name" := fun fd p q r u h1 h2 h3 => by
  obtain ⟨fn1, fq, fpar, fbody, fsc, fgl, fclo, fdef, fkw, fdoc, fmod, fan, fcode, fct, fbu⟩ := fd
  dsimp only at h1 h2 h3
  subst h1 h2 h3
  rfl
theorem bindA_fld (x : Str) : BindA (fieldOf x) := by
  unfold fieldOf
  split
  · exact bindA_most
  · split
    · exact bindA_line
    · exact bindA_name
theorem exKA_of {P : Program} {w : World} {K : PySem.W.Frag} {h : Heap} {mg : Str → Option Value} {base : Heap} {file x : Str} (X : K.In h) (G : h.Ns mainGlobals mg) (b : argB file x (fieldOf x) (fieldOf x) K = true) (hfile : ((P.main.file : Str) == file) = true) (htop : (P.main.scope.names.lookup ("super" : Str)).isSome = false)
    (hdb : (x == ("__debug__" : Str)) = false) : ExKA P w K mg base x := by
  intro p pos e ta Y y1 y2 y3 y4 y5 ha he hr hg
  subst y1 y2 y3 y4 y5
  have S := argB_ok b
  exact pmk_arg (bindA_fld x) S hfile htop (PySem.W.mg_of X G S.gx) (PySem.W.mg_none_of X G S.su) hr hg hdb ha he

/-! ### code tables -/
def tbs (K : PySem.W.Frag) (tf : List He.Defn) : List (Addr × Addr) := tf.map (He.cT K)
/-- the lambdas' tables -/
def tau (K : PySem.W.Frag) (tf : List He.Defn) : List (Addr × Str) := tf.map fun p => ((He.cT K p).2, (p.1 ++ ".<locals>.") ++ "<lambda>")
def apartB (K : PySem.W.Frag) (tf : List He.Defn) : Bool := decide ((tf.map fun p => (He.cT K p).2).Nodup)
theorem tau_in {K : PySem.W.Frag} {tf : List He.Defn} : ∀ p ∈ tau K tf, p.1 ∈ (tbs K tf).map (·.2) := fun p hp => by
  obtain ⟨d, hd, rfl⟩ := List.mem_map.mp hp
  exact List.mem_map.mpr ⟨_, List.mem_map.mpr ⟨d, hd, rfl⟩, rfl⟩
theorem nodup_map_inj {α β : Type} {f : α → β} : ∀ {l : List α}, (l.map f).Nodup → ∀ a ∈ l, ∀ b ∈ l, f a = f b → a = b
  | [], _, a, h, _, _, _ => by cases h
  | x :: l, n, a, ha, b, hb, e => by
    rw [List.map_cons, List.nodup_cons] at n
    rcases List.mem_cons.mp ha with ea | ha2
    · rcases List.mem_cons.mp hb with eb | hb2
      · rw [ea, eb]
      · exact absurd (by rw [← ea, e]; exact List.mem_map.mpr ⟨b, hb2, rfl⟩) n.1
    · rcases List.mem_cons.mp hb with eb | hb2
      · exact absurd (by rw [← eb, ← e]; exact List.mem_map.mpr ⟨a, ha2, rfl⟩) n.1
      · exact nodup_map_inj n.2 a ha2 b hb2 e
theorem lamK_of {K : PySem.W.Frag} {mg : Str → Option Value} {base : Heap} {tf : List He.Defn} {x : Str} {params : Arguments} {stmts : List Stmt} {sc : Scope} {fd : FuncData} (F : FunD K x x params stmts sc [] [] (He.fAd K (x, none)) fd) (hx : (x, none) ∈ tf) (ap : apartB K tf = true)
    (TB : ∀ p ∈ tbs K tf, LamX.TabB base mg p.1 p.2) : LamK (tau K tf) K mg base fd ((x ++ ".<locals>.") ++ "<lambda>") := by
  obtain ⟨oc, od, dV, kV, doc, pm, an, cdv, ct, osl, rfl, lk, hcd, _, _⟩ := F.ex
  obtain ⟨c, hc⟩ := He.codeIn_ref hcd
  have hcT : He.codeOf K (x, none) = c := He.codeOf_eq lk hc
  refine ⟨c, (He.cT K (x, none)).2, ?_, hc, List.mem_map.mpr ⟨(x, none), hx, rfl⟩, fun p hp e => ?_⟩
  · have := TB (He.cT K (x, none)) (List.mem_map_of_mem hx)
    rw [show (He.cT K (x, none)).1 = c from hcT] at this
    exact this
  · obtain ⟨d, hd, rfl⟩ := List.mem_map.mp hp
    have := nodup_map_inj (of_decide_eq_true ap) d hd (x, none) hx e
    subst this
    rfl

/-! ### the hook -/
def konsB (K : PySem.W.Frag) (cs : List (Str × D)) : Bool := cs.all fun c => konB K c.1 c.2
theorem kons_fact {cs : List (Str × D)} {K : PySem.W.Frag} (c : konsB K cs = true) (i : Nat) {x : Str} {d : D} (h : cs[i]? = some (x, d) := by rfl) : konB K x d = true :=
  List.all_eq_true.mp c (x, d) (List.mem_of_getElem? h)
/-- what more is wanted of the head: constants, error classes with what a catcher asks of them -/
structure More where
  cs : List (Str × D)
  sky : Str
  file : Str
  exs : List Str
  xs : List (Str × List (Str × Bool) × Bool)
  exa : List Str := []
  ds : List (Str × List (Str × D)) := []
/-- a dict of the module -/
def tabB (K : PySem.W.Frag) (x : Str) (kvs : List (Str × D)) : Bool := kvs.all fun q => match PySem.W.nsIn K (He.ga K x) q.1 with
  | some (some u) => dataB K 9 u q.2
  | _ => false
def tabsOf (ds : List (Str × List (Str × D))) : List He.Tab := ds.map fun t => (fun K => He.ga K t.1, t.2.map Prod.fst)
def tabD (kvs : List (Str × D)) : D := .dict (kvs.map fun q => (.str q.1, q.2))
theorem tab_lkI (i : Int) : ∀ kvs : List (Str × D), lkI i (kvs.map fun q => (PyData.str q.1, q.2)) = none
  | [] => rfl
  | q :: r => tab_lkI i r
theorem tab_lkS {s : Str} {d : D} : ∀ {kvs : List (Str × D)}, lkS s (kvs.map fun q => (PyData.str q.1, q.2)) = some d → (s, d) ∈ kvs
  | [], h => by cases h
  | q :: r, h => by
    have h' : (if q.1 = s then some q.2 else lkS s (r.map fun q => (PyData.str q.1, q.2))) = some d := h
    by_cases z : q.1 = s
    · rw [if_pos z] at h'
      cases h'
      subst z
      exact List.mem_cons_self
    · rw [if_neg z] at h'
      exact List.mem_cons_of_mem _ (tab_lkS h')
theorem tab_at {K : PySem.W.Frag} {w : World} {mg : Str → Option Value} {Γ : List D} {x : Str} {kvs : List (Str × D)} {j : Nat} (hg : mg x = some (.ref (He.ga K x))) (D : ∃ es n, KDict K w (He.ga K x) es n) (hv : tabB K x kvs = true) (hj : Γ[j]? = some (tabD kvs)) : TabK Γ w K mg x j := by
  obtain ⟨es, n, D⟩ := D
  refine ⟨_, es, n, _, hg, D, hj, fun i => tab_lkI i kvs, fun s d h => ?_⟩
  have m := List.all_eq_true.mp hv (s, d) (tab_lkS h)
  simp only at m
  split at m
  · rename_i u hu
    obtain ⟨v, z1, z2⟩ := dataB_ok 9 u d m
    exact ⟨u, v, hu, z1, z2⟩
  · cases m
def moreB (m : More) (tf : List He.Defn) (K : PySem.W.Frag) : Bool := konsB K m.cs && (m.exs.all (fun x => supB m.file x K) && (m.xs.all (fun y => xfB K m.sky y.1 y.2.1 y.2.2) && (m.exa.all (fun x => argB m.file x (fieldOf x) (fieldOf x) K) && (m.ds.all (fun t => tabB K t.1 t.2) && apartB K tf))))
structure MoreOk (m : More) (tf : List He.Defn) (K : PySem.W.Frag) : Prop where
  cs : konsB K m.cs = true
  exs : ∀ x ∈ m.exs, supB m.file x K = true
  xs : ∀ y ∈ m.xs, xfB K m.sky y.1 y.2.1 y.2.2 = true
  exa : ∀ x ∈ m.exa, argB m.file x (fieldOf x) (fieldOf x) K = true
  ds : ∀ t ∈ m.ds, tabB K t.1 t.2 = true
  ap : apartB K tf = true
theorem moreB_ok {m : More} {tf : List He.Defn} {K : PySem.W.Frag} (h : moreB m tf K = true) : MoreOk m tf K := by
  obtain ⟨h1, h⟩ := He.ba h
  obtain ⟨h2, h⟩ := He.ba h
  obtain ⟨h3, h⟩ := He.ba h
  obtain ⟨h5, h⟩ := He.ba h
  obtain ⟨h6, h4⟩ := He.ba h
  exact ⟨h1, fun x hx => List.all_eq_true.mp h2 x hx, fun y hy => List.all_eq_true.mp h3 y hy, fun x hx => List.all_eq_true.mp h5 x hx, fun x hx => List.all_eq_true.mp h6 x hx, h4⟩
def asZ (g : Addr → Option Obj) (n : Nat) : List Addr := cStatics :: He.asD g n
def obsZ (n : Nat) (fa : List He.Fa) (fn : List He.DefD) (tf : List He.Defn) (ex : PySem.W.Frag → Bool) (ts : List He.Tab) (g : Addr → Option Obj) : He.AlX := (He.obsT fa fn ts (He.frT g (asZ g n)), ex (He.frT g (asZ g n)) && He.tabsB g tf (He.frT g (asZ g n)))
theorem saysZ_of {n : Nat} {fa : List He.Fa} {fn : List He.DefD} {tf : List He.Defn} {ex : PySem.W.Frag → Bool} {ts : List He.Tab} {w : World} {h : Heap} (e : obsZ n fa fn tf ex ts h.get? = He.valX fn ts w) : He.SaysX fa fn ts tf ex w h (He.frT h.get? (asZ h.get? n)) := by
  generalize hK : He.frT h.get? (asZ h.get? n) = K
  have nn : ∀ {a : Addr} {o : Obj}, h.get? a = some o → He.emptyTab o = true → K.lookup a = none := fun {a o} z t => hK ▸ He.frT_none z t
  have e1 : He.obsT fa fn ts K = He.valT fn ts w := hK ▸ congrArg (fun z : He.AlX => z.1) e
  have e2 : (ex K && He.tabsB h.get? tf K) = true := hK ▸ congrArg (fun z : He.AlX => z.2) e
  obtain ⟨h1, h2⟩ := He.ba e2
  have key : ∀ p ∈ tf, PySem.W.codeHdIn K (He.cT K p).1 (He.cT K p).2 = true ∧ ∃ o, h.get? (He.cT K p).2 = some o ∧ He.emptyTab o = true := fun p hp => by
    obtain ⟨h3, h4⟩ := He.ba (List.all_eq_true.mp h2 p hp)
    refine ⟨h3, ?_⟩
    cases q : h.get? (He.cT K p).2 with
    | none =>
      rw [q] at h4
      cases h4
    | some o =>
      rw [q] at h4
      exact ⟨o, rfl, h4⟩
  exact ⟨e1, h1, fun p hp => (key p hp).1, fun p hp => by
    obtain ⟨_, o, q, z⟩ := key p hp
    exact nn q z, fun p hp => by
    obtain ⟨_, o, q, z⟩ := key p hp
    rw [q, He.emptyTab_eq z]⟩
def hookZ (n : Nat) (fa : List He.Fa) (fn : List He.DefD) (tf : List He.Defn) (ex : PySem.W.Frag → Bool) (ts : List He.Tab) : PySem.W.Hook where
  α := He.AlX
  obs := fun s => obsZ n fa fn tf ex ts s.heap.get?
  val := fun w => He.valX fn ts w
  says := fun w h => ∃ K : PySem.W.Frag, K.In h ∧ He.SaysX fa fn ts tf ex w h K
  of := fun _ _ e => ⟨_, He.frT_in, saysZ_of e⟩
  keeps := fun _ _ _ ⟨K, hK, c⟩ k => ⟨K, PySem.W.Frag.In.keeps hK k, ⟨c.t, c.more, c.hd, c.out, fun p hp => k _ _ (c.empty p hp)⟩⟩
theorem obsZ_eq {n : Nat} {fa : List He.Fa} {fn : List He.DefD} {tf : List He.Defn} {ex : PySem.W.Frag → Bool} {ts : List He.Tab} {g : Addr → Option Obj} {s : Shared} (h : ∀ a, g a = s.heap.get? a) : obsZ n fa fn tf ex ts g = (hookZ n fa fn tf ex ts).obs s := by
  have e : g = s.heap.get? := funext h
  rw [e] <;> rfl
/-- the law's promise at the head -/
theorem lawAt_of {l : PySem.W.OpenLaw} {g : Bool} {w : World} {K : PySem.W.Frag} {k : Nat} {x : Str} {mg : Str → Option Value} {f : Addr} {h : Heap} {F : FnSem} {fd : FuncData} {fa : List He.Fa} {fn : List He.DefD} {tf : List He.Defn} {ex : PySem.W.Frag → Bool} {ts : List He.Tab} (c : He.SaysX fa fn ts tf ex w h K) (KX : K.In h)
    (hb : ∀ (s : Shared) (u : Value), BindsTo s fd ⟨[u], []⟩ [(x, u)]) (hi : F.inout = [false]) (hr : ∀ ns : List Int, ns.length ≤ 63 → F.run [scrD ns] = .ok (.v (.bool true), []))
    (hF : ∀ base : Heap, K.In base → base.Ns mainGlobals mg → (∀ p ∈ tbs K tf, LamX.TabB base mg p.1 p.2) → FnG g l.prog w K mg base k f fd [x] (spF (tau K tf) K F)) : LawAtG l g w K k 63 x mg f h := by
  have key : ∀ p ∈ tbs K tf, ∃ d ∈ tf, He.cT K d = p := fun p hp => List.mem_map.mp hp
  refine ⟨fd, tbs K tf, spF (tau K tf) K F, fun p hp => ?_, fun p hp => ?_, fun p hp => ?_, hb, fun H a ns hl h1 h2 hS => law_sp hi hr tau_in H a ns hl h1 h2 hS, hF⟩
  · obtain ⟨d, hd, rfl⟩ := key p hp
    exact c.empty d hd
  · obtain ⟨d, hd, rfl⟩ := key p hp
    exact c.out d hd
  · obtain ⟨d, hd, rfl⟩ := key p hp
    exact PySem.W.codeHd_of_K KX (c.hd d hd)
end Fz

/-! Ev19: how terms are worked out by simp. -/
namespace Fz
open PySem
section
variable {α β : Type}
@[simp] theorem bind_ok' (a : α) (f : α → Res β) : (Res.ok a).bind f = f a := rfl
@[simp] theorem bind_ex' (c : Str) (as : List D) (f : α → Res β) : (Res.ex c as).bind f = .ex c as := rfl
@[simp] theorem bind_no' (f : α → Res β) : (Res.no).bind f = .no := rfl
@[simp] theorem map_ok' (a : α) (f : α → β) : (Res.ok a).map f = .ok (f a) := rfl
@[simp] theorem map_ex' (c : Str) (as : List D) (f : α → β) : (Res.ex c as).map f = .ex c as := rfl
@[simp] theorem map_no' (f : α → β) : (Res.no).map f = .no := rfl
@[simp] theorem bindN_ok' (a : α) (f : α → Res β) : (Res.ok a).bindN f = f a := rfl
@[simp] theorem bindN_ex' (c : Str) (as : List D) (f : α → Res β) : (Res.ex c as).bindN f = .no := rfl
@[simp] theorem bindN_no' (f : α → Res β) : (Res.no).bindN f = .no := rfl
@[simp] theorem exOk_ok' (io : List Bool) (a : α) : exOk io (.ok a) = .ok a := rfl
@[simp] theorem exOk_ex' (io : List Bool) (c : Str) (as : List D) : exOk io (.ex c as : Res α) = if (io.all fun b => !b) = true then .ex c as else .no := rfl
@[simp] theorem exOk_no' (io : List Bool) : exOk io (.no : Res α) = .no := rfl
end
section
variable (σ : Sts) (d : D) (ds : List D) (i : Nat)
@[simp] theorem nt_v : (R.v d).nt = .v d := rfl
@[simp] theorem nt_t : (R.t ds).nt = .v (.list ds) := rfl
@[simp] theorem nt_p : (R.p i).nt = .p i := rfl
@[simp] theorem cont_v : cont σ (.v d) = d := rfl
@[simp] theorem cont_t : cont σ (.t ds) = .list ds := rfl
@[simp] theorem cont_p0o : cont (.own ds :: σ) (.p 0) = .list ds := rfl
@[simp] theorem cont_p0v : cont (.val d :: σ) (.p 0) = d := rfl
@[simp] theorem cont_p1 (s : Slot) : cont (s :: σ) (.p (i + 1)) = cont σ (.p i) := by simp [cont]
@[simp] theorem frz_v : frz σ (.v d) = (d, σ) := rfl
@[simp] theorem frz_t : frz σ (.t ds) = (.list ds, σ) := rfl
@[simp] theorem frz_p0o : frz (.own ds :: σ) (.p 0) = (.list ds, .val (.list ds) :: σ) := rfl
@[simp] theorem frz_p0v : frz (.val d :: σ) (.p 0) = (d, .val d :: σ) := rfl
@[simp] theorem frz_p1 (s : Slot) : frz (s :: σ) (.p (i + 1)) = ((frz σ (.p i)).1, s :: (frz σ (.p i)).2) := by
  simp only [frz, List.getElem?_cons_succ]
  rcases σ[i]? with _ | s
  · rfl
  · cases s <;> rfl
@[simp] theorem quar_v : quar σ (.v d) = (.val d, σ) := rfl
@[simp] theorem quar_t : quar σ (.t ds) = (.own ds, σ) := rfl
@[simp] theorem quar_p : quar σ (.p i) = (.val (frz σ (.p i)).1, (frz σ (.p i)).2) := rfl
@[simp] theorem storeR_v : storeR σ i (.v d) = σ.set i (.val d) := rfl
@[simp] theorem storeR_t : storeR σ i (.t ds) = σ.set i (.own ds) := rfl
@[simp] theorem storeR_p (j : Nat) : storeR σ i (.p j) = (frz σ (.p j)).2.set i (.val (frz σ (.p j)).1) := rfl
@[simp] theorem stR_gn (r : R) : stR (.gn i) r σ = if i < σ.length then .ok (storeR σ i r) else .no := rfl
@[simp] theorem stR_gt (g : T) (r : R) : stR (.gt g) r σ = stD (.gt g) (frz σ r).1 (frz σ r).2 := rfl
@[simp] theorem boolOf_b (b : Bool) : boolOf (.v (.bool b), σ) = .ok (b, σ) := rfl
end
section
variable (Φ : Fns) (Γ : List D) (σ : Sts)
@[simp] theorem evE_var (i : Nat) : evE Φ Γ (.var i) σ = match σ[i]? with
    | some (.val d) => .ok (.v d, σ)
    | some (.own _) => .ok (.p i, σ)
    | _ => .no := by rw [evE] <;> rfl
@[simp] theorem evE_int (n : Int) : evE Φ Γ (.int n) σ = .ok (.v (.int n), σ) := by rw [evE] <;> rfl
@[simp] theorem evE_bl (b : Bool) : evE Φ Γ (.bl b) σ = .ok (.v (.bool b), σ) := by rw [evE] <;> rfl
@[simp] theorem evE_non  : evE Φ Γ (.non) σ = .ok (.v .none, σ) := by rw [evE] <;> rfl
@[simp] theorem evE_str (s : Str) : evE Φ Γ (.str s) σ = .ok (.v (.str s), σ) := by rw [evE] <;> rfl
@[simp] theorem evE_glb (k : Nat) : evE Φ Γ (.glb k) σ = match Γ[k]? with
    | some d => .ok (.v d, σ)
    | none => .no := by rw [evE] <;> rfl
@[simp] theorem evE_bin (o : BinK) (a : T) (b : T) : evE Φ Γ (.bin o a b) σ = (evE Φ Γ a σ).bind fun x => (evE Φ Γ b x.2).bind fun y => (binD o (cont y.2 x.1) (cont y.2 y.1)).bind fun r => .ok (r, y.2) := by rw [evE] <;> rfl
@[simp] theorem evE_neg (a : T) : evE Φ Γ (.neg a) σ = (evE Φ Γ a σ).bind fun x => match x.1 with
    | .v (.int i) => .ok (.v (.int (-i)), x.2)
    | _ => .no := by rw [evE] <;> rfl
@[simp] theorem evE_cmp (o : CmpK) (a : T) (b : T) : evE Φ Γ (.cmp o a b) σ = (evE Φ Γ a σ).bind fun x => (evE Φ Γ b x.2).bind fun y => (cmpD o (cont y.2 x.1) (cont y.2 y.1)).bind fun r => .ok (r, y.2) := by rw [evE] <;> rfl
@[simp] theorem evE_chn (o : CmpK) (p : CmpK) (a : T) (b : T) (c : T) : evE Φ Γ (.chn o p a b c) σ = (evE Φ Γ a σ).bind fun x => (evE Φ Γ b x.2).bind fun y => (cmpB o (cont y.2 x.1) (cont y.2 y.1)).bind fun k =>
      match k with
      | true => (evE Φ Γ c y.2).bind fun z => (cmpD p (cont z.2 y.1) (cont z.2 z.1)).bind fun r => .ok (r, z.2)
      | false => .ok (.v (.bool false), y.2) := by rw [evE] <;> rfl
@[simp] theorem evE_not (a : T) : evE Φ Γ (.not a) σ = (evE Φ Γ a σ).bind fun x => (boolOf x).bind fun q => .ok (.v (.bool (!q.1)), q.2) := by rw [evE] <;> rfl
@[simp] theorem evE_and (a : T) (b : T) : evE Φ Γ (.and a b) σ = (evE Φ Γ a σ).bind fun x => (boolOf x).bind fun q => match q.1 with
    | true => evE Φ Γ b q.2
    | false => .ok (.v (.bool false), q.2) := by rw [evE] <;> rfl
@[simp] theorem evE_or (a : T) (b : T) : evE Φ Γ (.or a b) σ = (evE Φ Γ a σ).bind fun x => (boolOf x).bind fun q => match q.1 with
    | true => .ok (.v (.bool true), q.2)
    | false => evE Φ Γ b q.2 := by rw [evE] <;> rfl
@[simp] theorem evE_ifx (c : T) (a : T) (b : T) : evE Φ Γ (.ifx c a b) σ = (evE Φ Γ c σ).bind fun x => (boolOf x).bind fun q => match q.1 with
    | true => evE Φ Γ a q.2
    | false => evE Φ Γ b q.2 := by rw [evE] <;> rfl
@[simp] theorem evE_tup (as : T) : evE Φ Γ (.tup as) σ = (evV Φ Γ as σ).bind fun q => if q.1.length ≤ sizeL then .ok (.v (.tuple q.1), q.2) else .no := by rw [evE] <;> rfl
@[simp] theorem evE_lst (as : T) : evE Φ Γ (.lst as) σ = (evV Φ Γ as σ).bind fun q => if q.1.length ≤ sizeL then .ok (.t q.1, q.2) else .no := by rw [evE] <;> rfl
@[simp] theorem evE_ix (a : T) (i : T) : evE Φ Γ (.ix a i) σ = (evE Φ Γ a σ).bind fun x => (evE Φ Γ i x.2).bind fun y => (ixD (cont y.2 x.1) (cont y.2 y.1)).bind fun r => .ok (r, y.2) := by rw [evE] <;> rfl
@[simp] theorem evE_slc (a : T) (lo : T) (hi : T) : evE Φ Γ (.slc a lo hi) σ = (evE Φ Γ a σ).bind fun x => (evP Φ Γ lo x.2).bind fun l => (evP Φ Γ hi l.2).bind fun h => (slcD (cont h.2 x.1) l.1 h.1).bind fun r => .ok (r, h.2) := by rw [evE] <;> rfl
theorem evE_lc (g : T) (it : T) (c : T) (e : T) (own : List Nat) : evE Φ Γ (.lc g it c e own) σ = (evI Φ Γ it σ).bind fun q =>
      (lcLoop (fun d σ => (stD g d σ).bind fun σ => (evC Φ Γ c σ).bind fun k => match k.1 with
        | true => (evE Φ Γ e k.2).bind fun x => let z := frz x.2 x.1; .ok (some z.1, wipeD z.2 own)
        | false => .ok (none, wipeD k.2 own)) q.1 (wipeD q.2 own) []).bind fun w =>
      if w.1.length ≤ sizeL then .ok (.t w.1, unwipe q.2 own w.2) else .no := by rw [evE] <;> rfl
@[simp] theorem evE_rgl (as : T) : evE Φ Γ (.rgl as) σ = (evA Φ Γ as σ).bind fun q => (rngD (q.1.map (cont q.2))).bind fun ds => if ds.length ≤ sizeL then .ok (.t ds, q.2) else .no := by rw [evE] <;> rfl
@[simp] theorem evE_rgt (as : T) : evE Φ Γ (.rgt as) σ = (evA Φ Γ as σ).bind fun q => (rngD (q.1.map (cont q.2))).bind fun ds => if ds.length ≤ sizeL then .ok (.v (.tuple ds), q.2) else .no := by rw [evE] <;> rfl
@[simp] theorem evE_bi (k : BiK) (as : T) : evE Φ Γ (.bi k as) σ = (evA Φ Γ as σ).bind fun q => (biD k (q.1.map (cont q.2))).bind fun r => .ok (r, q.2) := by rw [evE] <;> rfl
@[simp] theorem evE_mt (k : MtK) (a : T) (b : T) : evE Φ Γ (.mt k a b) σ = (evE Φ Γ a σ).bind fun x => if isListD (cont x.2 x.1) = false then .no else (evE Φ Γ b x.2).bind fun y => (mtD k (cont y.2 x.1) (cont y.2 y.1)).bind fun r => .ok (r, y.2) := by rw [evE] <;> rfl
@[simp] theorem evE_pop (i : Nat) : evE Φ Γ (.pop i) σ = match σ[i]? with
    | some (.own ds) => match ds.getLast? with
      | some d => .ok (.v d, σ.set i (.own ds.dropLast))
      | none => .no
    | _ => .no := by rw [evE] <;> rfl
@[simp] theorem evE_popa (i : Nat) (e : T) : evE Φ Γ (.popa i e) σ = match σ[i]? with
    | some (.own _) => (evE Φ Γ e σ).bind fun x => match x.1, x.2[i]? with
      | .v (.int k), some (.own ds) => if 0 ≤ k ∧ k < (sizeL : Int) then (match ds[k.toNat]? with
        | some d => .ok (.v d, x.2.set i (.own (ds.eraseIdx k.toNat)))
        | none => .no) else .no
      | _, _ => .no
    | _ => .no := by rw [evE] <;> rfl
@[simp] theorem evE_call (f : Nat) (as : T) : evE Φ Γ (.call f as) σ = (evA Φ Γ as σ).bind fun q => callF (Φ f) q.1 q.2 := by rw [evE] <;> rfl
@[simp] theorem evE_lamv (k i : Nat) (tb : List (Str × Nat)) (as : T) : evE Φ Γ (.lamv k i tb as) σ = match fnvOf tb σ[i]? with
    | some f => (evA Φ Γ as σ).bindN fun q => (caught (Φ f) q.1 q.2).bindN fun z => ((Φ k).run [z.1]).bindN fun w => lamEnd w z.2
    | none => .no := by rw [evE] <;> rfl
@[simp] theorem fnvOf_fn (tb : List (Str × Nat)) (x : Str) : fnvOf tb (some (.val (fnD x))) = tb.lookup x := rfl
@[simp] theorem evE_lam (k f : Nat) (as : T) : evE Φ Γ (.lam k f as) σ = (evA Φ Γ as σ).bindN fun q => (caught (Φ f) q.1 q.2).bindN fun z => ((Φ k).run [z.1]).bindN fun w => lamEnd w z.2 := by rw [evE] <;> rfl
@[simp] theorem evE_dic (ks vs : T) : evE Φ Γ (.dic ks vs) σ = (evV Φ Γ vs σ).bind fun q => match keysOf ks with
    | some ds => if ds.length = q.1.length ∧ ds.length ≤ 1000 ∧ ds.Nodup then .ok (.v (.dict ((ds.map keyD).zip q.1)), q.2) else .no
    | none => .no := by rw [evE] <;> rfl
@[simp] theorem evE_xc (i : Nat) (e : T) : evE Φ Γ (.xc i e) σ = match σ[i]? with
    | some .exc => evE Φ Γ e σ
    | _ => .no := by rw [evE] <;> rfl
@[simp] theorem evS_asg (g : T) (e : T) : evS Φ Γ (.asg g e) σ = (evE Φ Γ e σ).bind fun x => (stR g x.1 x.2).bind fun σ => .ok (.nx, σ) := by rw [evS] <;> rfl
@[simp] theorem evS_par (is : List Nat) (es : T) : evS Φ Γ (.par is es) σ = (evQ Φ Γ es σ).bind fun q => (setQ is.reverse q.1.reverse q.2).bind fun σ => .ok (.nx, σ) := by rw [evS] <;> rfl
@[simp] theorem evS_unp (is : List Nat) (es : T) : evS Φ Γ (.unp is es) σ = (evQ Φ Γ es σ).bind fun q => (setQ is q.1 q.2).bind fun σ => .ok (.nx, σ) := by rw [evS] <;> rfl
@[simp] theorem evS_sti (i : Nat) (ix : T) (e : T) : evS Φ Γ (.sti i ix e) σ = (evE Φ Γ e σ).bind fun x => let z := frz x.2 x.1; match z.2[i]? with
    | some (.own _) => (evE Φ Γ ix z.2).bind fun y => match y.1 with
      | .v (.int k) => match y.2[i]? with
        | some (.own ds) => if 0 ≤ k ∧ k < (ds.length : Int) then .ok (.nx, y.2.set i (.own (ds.set k.toNat z.1))) else if k < 0 ∧ -(ds.length : Int) ≤ k then .ok (.nx, y.2.set i (.own (ds.set (k + ds.length).toNat z.1))) else .no
        | _ => .no
      | _ => .no
    | _ => .no := by rw [evS] <;> rfl
@[simp] theorem evS_ret (e : T) : evS Φ Γ (.ret e) σ = (evE Φ Γ e σ).bind fun x => .ok (.rt x.1, x.2) := by rw [evS] <;> rfl
@[simp] theorem evS_iff (c : T) (a : T) (b : T) : evS Φ Γ (.iff c a b) σ = (evT Φ Γ c σ).bind fun q => match q.1 with
    | true => evB Φ Γ a q.2
    | false => evB Φ Γ b q.2 := by rw [evS] <;> rfl
theorem evS_forr (g : T) (it : T) (b : T) : evS Φ Γ (.forr g it b) σ = (evI Φ Γ it σ).bind fun q => forLoop (fun d σ => (stD g d σ).bind fun σ => evB Φ Γ b σ) q.1 q.2 := by rw [evS] <;> rfl
theorem evS_whl (c : T) (b : T) : evS Φ Γ (.whl c b) σ = whlLoop (fun σ => evT Φ Γ c σ) (fun σ => evB Φ Γ b σ) whlMost σ := by rw [evS] <;> rfl
@[simp] theorem evS_app (i : Nat) (e : T) : evS Φ Γ (.app i e) σ = match σ[i]? with
    | some (.own _) => (evE Φ Γ e σ).bind fun x => let z := frz x.2 x.1; match z.2[i]? with
      | some (.own ds) => if ds.length < sizeL then .ok (.nx, z.2.set i (.own (ds ++ [z.1]))) else .no
      | _ => .no
    | _ => .no := by rw [evS] <;> rfl
@[simp] theorem evS_ext (i : Nat) (e : T) : evS Φ Γ (.ext i e) σ = match σ[i]? with
    | some (.own _) => (evE Φ Γ e σ).bind fun x => match cont x.2 x.1, x.2[i]? with
      | .list es, some (.own ds) => if ds.length + es.length ≤ sizeL then .ok (.nx, x.2.set i (.own (ds ++ es))) else .no
      | _, _ => .no
    | _ => .no := by rw [evS] <;> rfl
@[simp] theorem evS_drp (e : T) : evS Φ Γ (.drp e) σ = (evE Φ Γ e σ).bind fun x => .ok (.nx, x.2) := by rw [evS] <;> rfl
@[simp] theorem evS_rse (c : Str) : evS Φ Γ (.rse c .nil) σ = .ex c [] := by rw [evS] <;> rfl
end
section
variable (Φ : Fns) (Γ : List D) (σ : Sts)
@[simp] theorem evT_def (e : T) : evT Φ Γ e σ = (evE Φ Γ e σ).bind boolOf := rfl
@[simp] theorem tbl0 (F : FnSem) (l : List FnSem) : tbl (F :: l) 0 = F := rfl
@[simp] theorem tbl1 (F : FnSem) (l : List FnSem) (i : Nat) : tbl (F :: l) (i + 1) = tbl l i := rfl
/-- a call whose arguments are values -/
theorem callF_vals {F : FnSem} {rs : List R} {ds : List D} {r : R} (hi : F.inout = List.replicate ds.length false) (hr : rs = ds.map .v) (h : F.run ds = .ok (r, [])) : callF F rs σ = .ok (r, σ) := by
  subst hr
  have h1 : ∀ (ds : List D), inoutIx (List.replicate ds.length false) (ds.map R.v) = [] := fun ds => by
    induction ds with
    | nil => rfl
    | cons d ds ih => exact ih
  have h2 : ∀ (ds : List D), passArgs (List.replicate ds.length false) (ds.map R.v) σ = .ok (ds, σ) := fun ds => by
    induction ds with
    | nil => rfl
    | cons d ds ih => simp only [List.length_cons, List.replicate_succ, List.map_cons, passArgs, frz_v, ih, bind_ok']
  have h3 : ∀ (ds : List D), backArgs (List.replicate ds.length false) (ds.map R.v) [] σ = .ok σ := fun ds => by
    induction ds with
    | nil => rfl
    | cons d ds ih => simp only [List.length_cons, List.replicate_succ, List.map_cons, backArgs, ih]
  simp only [callF, hi, h1, h2, List.nodup_nil, if_true, bind_ok', exOk_ok', h, h3]
theorem mkFn_run (io : List Bool) (n : Nat) (b : T) (as : List D) : (mkFn Φ Γ io n b).run as = if as.length = io.length then
    (evB Φ Γ b (startD io as ++ List.replicate (n - io.length) .no)).bind fun q =>
      (match q.1 with | .nx => Res.ok (R.v .none) | .rt r => retR (protOf 0 io) q.2 r).bind fun r => (outsOf (protOf 0 io) q.2).bind fun os => Res.ok (r, os)
    else .no := rfl
@[simp] theorem retR_v (p : List Nat) (d : D) : retR p σ (.v d) = .ok (.v d) := rfl
@[simp] theorem retR_t (p : List Nat) (d : List D) : retR p σ (.t d) = .ok (.t d) := rfl
@[simp] theorem retR_p0o (d : List D) (p : List Nat) : retR p (.own d :: σ) (.p 0) = if 0 ∈ p then .no else .ok (.t d) := rfl
@[simp] theorem retR_p0v (d : D) (p : List Nat) : retR p (.val d :: σ) (.p 0) = if 0 ∈ p then .no else .ok (.v d) := rfl
@[simp] theorem retR_p1 (s : Slot) (i : Nat) : retR [] (s :: σ) (.p (i + 1)) = retR [] σ (.p i) := by simp [retR]
@[simp] theorem retR_q1 (s : Slot) (i : Nat) : retR [0] (s :: σ) (.p (i + 1)) = retR [] σ (.p i) := by simp [retR]
end
def absI (x : Int) : Int := if x < 0 then -x else x
def mxI (a b : Int) : Int := if b > a then b else a
def mnI (a b : Int) : Int := if b < a then b else a
theorem absI_le {x m : Int} : absI x ≤ m ↔ -m ≤ x ∧ x ≤ m := by unfold absI; split <;> omega
theorem mxI_le {a b m : Int} : mxI a b ≤ m ↔ a ≤ m ∧ b ≤ m := by unfold mxI; split <;> omega
theorem absI_nonneg (x : Int) : 0 ≤ absI x := by unfold absI; split <;> omega
section
variable (a b : Int) (p q : Bool) (x y : D) (xs ys : List D)
@[simp] theorem cmpD_def (o : CmpK) : cmpD o x y = (cmpB o x y).map fun k => .v (.bool k) := rfl
@[simp] theorem cmp_lt : cmpB .lt (.int a) (.int b) = .ok (decide (a < b)) := rfl
@[simp] theorem cmp_le : cmpB .le (.int a) (.int b) = .ok (decide (a ≤ b)) := rfl
@[simp] theorem cmp_gt : cmpB .gt (.int a) (.int b) = .ok (decide (b < a)) := rfl
@[simp] theorem cmp_ge : cmpB .ge (.int a) (.int b) = .ok (decide (b ≤ a)) := rfl
@[simp] theorem cmp_eq : cmpB .eq x y = eqD x y := by cases x <;> cases y <;> rfl
@[simp] theorem cmp_ne : cmpB .ne x y = (eqD x y).map (!·) := by cases x <;> cases y <;> rfl
@[simp] theorem cmp_is : cmpB .is x y = isD x y := by cases x <;> cases y <;> rfl
@[simp] theorem cmp_isnot : cmpB .isnot x y = (isD x y).map (!·) := by cases x <;> cases y <;> rfl
@[simp] theorem cmp_in : cmpB .inn x y = inD x y := by cases x <;> cases y <;> rfl
@[simp] theorem cmp_notin : cmpB .notin x y = (inD x y).map (!·) := by cases x <;> cases y <;> rfl
theorem eqv_int (a b : Int) : PyData.eqv (.int a) (.int b) = decide (a = b) := by
  unfold PyData.eqv
  by_cases h : a = b <;> simp [h]
@[simp] theorem eqD_int : eqD (.int a) (.int b) = .ok (decide (a = b)) := by
  unfold eqD
  rw [if_pos ⟨rfl, rfl⟩, eqv_int]
@[simp] theorem isD_nn : isD .none .none = .ok true := rfl
@[simp] theorem isD_in : isD (.int a) .none = .ok false := rfl
@[simp] theorem isD_tn : isD (.tuple xs) .none = .ok false := rfl
@[simp] theorem isD_ln : isD (.list xs) .none = .ok false := rfl
@[simp] theorem bin_add : binD .add (.int a) (.int b) = .ok (.v (.int (a + b))) := rfl
@[simp] theorem bin_sub : binD .sub (.int a) (.int b) = .ok (.v (.int (a - b))) := rfl
@[simp] theorem bin_mul : binD .mul (.int a) (.int b) = if MulOk a b then .ok (.v (.int (a * b))) else .no := rfl
@[simp] theorem bin_div : binD .fdiv (.int a) (.int b) = if DivOk b then .ok (.v (.int (a.fdiv b))) else .no := rfl
@[simp] theorem bin_mod : binD .mod (.int a) (.int b) = if b ≠ 0 then .ok (.v (.int (a.fmod b))) else .no := rfl
@[simp] theorem bin_pow : binD .pow (.int a) (.int b) = if PowOk a b then .ok (.v (.int (a ^ b.toNat))) else .no := rfl
@[simp] theorem bin_repT {k : Int} : binD .mul (.tuple xs) (.int k) = if TRepOk xs.length k then .ok (.v (.tuple (List.replicate k.toNat xs).flatten)) else if k = 1 then .ok (.v (.tuple xs)) else .no := rfl
@[simp] theorem bin_addL : binD .add (.list xs) (.list ys) = if xs.length + ys.length ≤ sizeL then .ok (.t (xs ++ ys)) else .no := rfl
@[simp] theorem bin_addT : binD .add (.tuple xs) (.tuple ys) = if xs.length + ys.length ≤ sizeL then .ok (.v (.tuple (xs ++ ys))) else .no := rfl
@[simp] theorem ix_dS {kvs : List (D × D)} {s : Str} : ixD (.dict kvs) (.str s) = match lkS s kvs with | some d => .ok (.v d) | none => .no := rfl
@[simp] theorem ix_dI {kvs : List (D × D)} {s : Int} : ixD (.dict kvs) (.int s) = match lkI s kvs with | some d => .ok (.v d) | none => .no := rfl
@[simp] theorem lkS_nil {s : Str} : lkS s [] = none := rfl
@[simp] theorem lkS_cons {s t : Str} {d : D} {r : List (D × D)} : lkS s ((.str t, d) :: r) = if t = s then some d else lkS s r := rfl
@[simp] theorem lkI_nil {s : Int} : lkI s [] = none := rfl
@[simp] theorem lkI_cons {s t : Int} {d : D} {r : List (D × D)} : lkI s ((.int t, d) :: r) = if t = s then some d else lkI s r := rfl
@[simp] theorem ix_list : ixD (.list xs) (.int a) = match atD xs a with | some d => .ok (.v d) | none => .no := rfl
@[simp] theorem ix_tup : ixD (.tuple xs) (.int a) = match atD xs a with | some d => .ok (.v d) | none => .no := rfl
@[simp] theorem at_0 (d : D) : atD (d :: xs) 0 = some d := rfl
theorem at_nat {α : Type} (xs : List α) (n : Nat) : atD xs (n : Int) = xs[n]? := by
  unfold atD
  rw [if_pos (Int.natCast_nonneg n), Int.toNat_natCast]
theorem at_of {α : Type} (xs : List α) {a : Int} (h : 0 ≤ a) : atD xs a = xs[a.toNat]? := by
  unfold atD
  rw [if_pos h]
@[simp] theorem at_2 {α : Type} (xs : List α) : atD xs (2 : Int) = xs[2]? := rfl
@[simp] theorem at_3 {α : Type} (xs : List α) : atD xs (3 : Int) = xs[3]? := rfl
@[simp] theorem at_4 {α : Type} (xs : List α) : atD xs (4 : Int) = xs[4]? := rfl
@[simp] theorem at_5 {α : Type} (xs : List α) : atD xs (5 : Int) = xs[5]? := rfl
@[simp] theorem at_6 {α : Type} (xs : List α) : atD xs (6 : Int) = xs[6]? := rfl
@[simp] theorem at_one {α : Type} (xs : List α) : atD xs (1 : Int) = xs[1]? := rfl
@[simp] theorem at_neg1 {α : Type} (x : α) (xs : List α) : atD (x :: xs) (-1) = (x :: xs).getLast? := by
  unfold atD
  have h : (-1 + ((x :: xs).length : Int)).toNat = xs.length := by simp only [List.length_cons]; omega
  rw [if_neg (by decide), if_pos (by simp only [List.length_cons]; omega), h, List.getLast?_eq_getElem?]
  simp
@[simp] theorem bi_lenL : biD .len [.list xs] = .ok (.v (.int xs.length)) := rfl
@[simp] theorem bi_lenT : biD .len [.tuple xs] = .ok (.v (.int xs.length)) := rfl
@[simp] theorem bi_int : biD .int [.int a] = .ok (.v (.int a)) := rfl
@[simp] theorem bi_intb : biD .int [.bool p] = .ok (.v (.int (if p then 1 else 0))) := rfl
@[simp] theorem bi_abs : biD .abs [.int a] = .ok (.v (.int (absI a))) := rfl
@[simp] theorem bi_tupL : biD .tuple [.list xs] = .ok (.v (.tuple xs)) := rfl
@[simp] theorem bi_tupT : biD .tuple [.tuple xs] = .ok (.v (.tuple xs)) := rfl
@[simp] theorem bi_lisL : biD .list [.list xs] = .ok (.t xs) := rfl
@[simp] theorem bi_lisT : biD .list [.tuple xs] = .ok (.t xs) := rfl
@[simp] theorem bi_max2 : biD .max2 [.int a, .int b] = .ok (.v (.int (mxI a b))) := rfl
@[simp] theorem bi_max4 (c d : Int) : biD .max4 [.int a, .int b, .int c, .int d] = .ok (.v (.int (mx4 a b c d))) := rfl
theorem bi_min2_t (h : AlikeB [.tuple xs, .tuple ys] = true) : biD .min2 [.tuple xs, .tuple ys] = .ok (.v (PySem.W.minD (.tuple xs) [.tuple ys])) := by simp only [biD, h, if_true]
theorem bi_max2_t (h : AlikeB [.tuple xs, .tuple ys] = true) : biD .max2 [.tuple xs, .tuple ys] = .ok (.v (PySem.W.maxD (.tuple xs) [.tuple ys])) := by simp only [biD, h, if_true]
@[simp] theorem bi_repr_b (b : Bool) : biD .repr [.bool b] = .ok (.v (.str (if b then "True" else "False"))) := rfl
@[simp] theorem bi_repr_n : biD .repr [.none] = .ok (.v (.str "None")) := rfl
theorem bi_repr_i (h : ReprOk a) : biD .repr [.int a] = .ok (.v (.str (toString a))) := by simp only [biD, reprD, h, if_true]
theorem bi_lenset_l {xs : List D} {ns : List Int} (h : intsOf xs = some ns) (hl : ns.length ≤ 1000) : biD .lenset [.list xs] = .ok (.v (.int (dd ns).length)) := by
  simp only [biD, intsIn]
  rw [h]; exact if_pos hl
theorem bi_lenset_t {xs : List D} {ns : List Int} (h : intsOf xs = some ns) (hl : ns.length ≤ 1000) : biD .lenset [.tuple xs] = .ok (.v (.int (dd ns).length)) := by
  simp only [biD, intsIn]
  rw [h]; exact if_pos hl
theorem bi_sortset_l {xs : List D} {ns : List Int} (h : intsOf xs = some ns) (hl : ns.length ≤ 1000) (h64 : (dd ns).length < 64) : biD .sortset [.list xs] = .ok (.t ((sd ns).map .int)) := by
  simp only [biD, intsIn]
  rw [h]; exact if_pos ⟨hl, h64⟩
theorem bi_show_d : biD .show [.dict []] = .ok (.v (.str (PyData.shown (.dict [])))) := rfl
theorem bi_show_s {x : Str} (h : ShowOk (.str x)) : biD .show [.str x] = .ok (.v (.str (PyData.shown (.str x)))) := if_pos h
@[simp] theorem bi_rev_l : biD .rev [.list xs] = .ok (.t xs.reverse) := rfl
@[simp] theorem bi_rev_t : biD .rev [.tuple xs] = .ok (.v (.tuple xs.reverse)) := rfl
@[simp] theorem bi_min2 : biD .min2 [.int a, .int b] = .ok (.v (.int (mnI a b))) := rfl
@[simp] theorem bi_isInt_i : biD .isInt [.int a] = .ok (.v (.bool true)) := rfl
@[simp] theorem bi_isBool_i : biD .isBool [.int a] = .ok (.v (.bool false)) := rfl
@[simp] theorem bi_isTuple_t : biD .isTuple [.tuple xs] = .ok (.v (.bool true)) := rfl
@[simp] theorem bi_isList_l : biD .isList [.list xs] = .ok (.v (.bool true)) := rfl
theorem boolsOf_map {α : Type} (f : α → Bool) (l : List α) : boolsOf (l.map fun x => .bool (f x)) = some (l.map f) := by
  induction l with
  | nil => rfl
  | cons x l ih => simp only [List.map_cons, boolsOf, ih, Option.map_some]
theorem bi_all_map {α : Type} (f : α → Bool) (l : List α) : biD .all [.list (l.map fun x => .bool (f x))] = .ok (.v (.bool (l.all f))) := by
  simp only [biD, boolsOf_map]
  simp [Function.comp_def]
theorem bi_any_map {α : Type} (f : α → Bool) (l : List α) : biD .any [.list (l.map fun x => .bool (f x))] = .ok (.v (.bool (l.any f))) := by
  simp only [biD, boolsOf_map]
  simp [Function.comp_def]
theorem intsOf_map {α : Type} (f : α → Int) (l : List α) : intsOf (l.map fun x => .int (f x)) = some (l.map f) := by
  induction l with
  | nil => rfl
  | cons x l ih => simp only [List.map_cons, intsOf, ih, Option.map_some]
theorem bi_sum_map {α : Type} (f : α → Int) (l : List α) : biD .sum [.list (l.map fun x => .int (f x))] = .ok (.v (.int (l.map f).sum)) := by
  simp only [biD, intsOf_map]
@[simp] theorem bi_all_def : biD .all [.list xs] = match boolsOf xs with | some bs => .ok (.v (.bool (bs.all id))) | none => .no := rfl
@[simp] theorem bi_any_def : biD .any [.list xs] = match boolsOf xs with | some bs => .ok (.v (.bool (bs.any id))) | none => .no := rfl
@[simp] theorem bi_sum_def : biD .sum [.list xs] = match intsOf xs with | some bs => .ok (.v (.int bs.sum)) | none => .no := rfl
@[simp] theorem sizeL_def : sizeL = 16777216 := rfl
@[simp] theorem slc_list (l h : Option Int) : slcD (.list xs) l h = .ok (.t (cutD xs l h)) := rfl
@[simp] theorem slc_tup (l h : Option Int) : slcD (.tuple xs) l h = .ok (.v (.tuple (cutD xs l h))) := rfl
@[simp] theorem slc_scr (l h : Option Int) (ns : List Int) : slcD (scrD ns) l h = .ok (.t (cutD (ns.map .int) l h)) := rfl
@[simp] theorem items_l : items (.list xs) = some xs := rfl
@[simp] theorem items_t : items (.tuple xs) = some xs := rfl
@[simp] theorem itemsI_l : itemsI (.list xs) = some xs := rfl
@[simp] theorem itemsI_t : itemsI (.tuple xs) = some xs := rfl
@[simp] theorem itemsI_s {x : Str} : itemsI (.str x) = some (x.cps.toList.map fun c => .str ⟨#[c]⟩) := rfl
@[simp] theorem inD_s {c : Nat} {z : Str} : inD (.str ⟨#[c]⟩) (.str z) = .ok (decide (c ∈ z.cps.toList)) := rfl
@[simp] theorem rngD1 : rngD [.int a] = if rngOk a then .ok (rng 0 a.toNat) else .no := rfl
theorem rngD3 {a b c : Int} (h : RngC a b c) : rngD [.int a, .int b, .int c] = .ok (rngC a c (PySem.Builtin.Range.rangeSize a b c).toNat) := if_pos h
@[simp] theorem rngD2 : rngD [.int a, .int b] = if rngOk a ∧ rngOk b then .ok (rng a (b - a).toNat) else .no := rfl
end
/-! ### loops -/
/-- a comprehension whose turns leave the rest as it is -/
theorem lcLoop_map {body : D → Sts → Res (Option D × Sts)} {σ : Sts} (f : D → Option D) : ∀ (ds : List D) (acc : List D), (∀ d ∈ ds, body d σ = .ok (f d, σ)) → lcLoop body ds σ acc = .ok (acc ++ ds.filterMap f, σ)
  | [], acc, _ => by simp [lcLoop]
  | d :: ds, acc, h => by
    have h1 := h d List.mem_cons_self
    have h2 := fun acc => lcLoop_map f ds acc fun d hd => h d (List.mem_cons_of_mem _ hd)
    simp only [lcLoop, h1, bind_ok', List.filterMap_cons]
    cases f d with
    | none => exact h2 acc
    | some x => exact (h2 (acc ++ [x])).trans (by simp)
/-- every turn keeps P and goes on -/
theorem forLoop_inv {body : D → Sts → Res (Fl × Sts)} (P : Nat → Sts → Prop) (ds : List D) (h : ∀ i d σ, ds[i]? = some d → P i σ → ∃ σ', body d σ = .ok (.nx, σ') ∧ P (i + 1) σ') :
    ∀ (n : Nat) (σ : Sts), P n σ → n ≤ ds.length → ∃ σ', forLoop body (ds.drop n) σ = .ok (.nx, σ') ∧ P ds.length σ' := by
  intro n
  induction hk : ds.length - n generalizing n with
  | zero =>
    intro σ hp hn
    have e : n = ds.length := by omega
    subst e
    rw [List.drop_length]
    exact ⟨σ, rfl, hp⟩
  | succ k ih =>
    intro σ hp hn
    have hlt : n < ds.length := by omega
    obtain ⟨σ1, e1, p1⟩ := h n ds[n] σ (List.getElem?_eq_getElem hlt) hp
    obtain ⟨σ2, e2, p2⟩ := ih (n + 1) (by omega) σ1 p1 (by omega)
    rw [List.drop_eq_getElem_cons hlt]
    exact ⟨σ2, by simp only [forLoop, e1, bind_ok']; exact e2, p2⟩
theorem forLoop_all {body : D → Sts → Res (Fl × Sts)} (P : Nat → Sts → Prop) (ds : List D) {σ : Sts} (h0 : P 0 σ) (h : ∀ i d σ, ds[i]? = some d → P i σ → ∃ σ', body d σ = .ok (.nx, σ') ∧ P (i + 1) σ') :
    ∃ σ', forLoop body ds σ = .ok (.nx, σ') ∧ P ds.length σ' := by
  have := forLoop_inv P ds h 0 σ h0 (Nat.zero_le _)
  rwa [List.drop_zero] at this
/-- one turn of a comprehension -/
noncomputable def lcTurn (Φ : Fns) (Γ : List D) (g c e : T) (own : List Nat) (d : D) (σ : Sts) : Res (Option D × Sts) := (stD g d σ).bind fun σ => (evC Φ Γ c σ).bind fun k => match k.1 with
        | true => (evE Φ Γ e k.2).bind fun x => .ok (some (frz x.2 x.1).1, wipeD (frz x.2 x.1).2 own)
        | false => .ok (none, wipeD k.2 own)
theorem evE_lc' (Φ : Fns) (Γ : List D) (σ : Sts) (g it c e : T) (own : List Nat) : evE Φ Γ (.lc g it c e own) σ = (evI Φ Γ it σ).bind fun q => (lcLoop (lcTurn Φ Γ g c e own) q.1 (wipeD q.2 own) []).bind fun w =>
      if w.1.length ≤ sizeL then .ok (.t w.1, unwipe q.2 own w.2) else .no := by rw [evE] <;> rfl
/-- a comprehension whose turns leave the rest as it is -/
theorem evLc {Φ : Fns} {Γ : List D} {σ σ1 : Sts} {g it c e : T} {own : List Nat} {ds : List D} (f : D → Option D) (hi : evI Φ Γ it σ = .ok (ds, σ1)) (hb : ∀ d ∈ ds, lcTurn Φ Γ g c e own d (wipeD σ1 own) = .ok (f d, wipeD σ1 own)) (hl : (ds.filterMap f).length ≤ 16777216)
    (hu : unwipe σ1 own (wipeD σ1 own) = σ1) : evE Φ Γ (.lc g it c e own) σ = .ok (.t (ds.filterMap f), σ1) := by
  have hl' : (ds.filterMap f).length ≤ sizeL := hl
  simp only [evE_lc', hi, bind_ok', lcLoop_map f ds [] hb, List.nil_append, hl', if_true, hu]
/-- .. and keep every item -/
theorem evLcM {Φ : Fns} {Γ : List D} {σ σ1 : Sts} {g it c e : T} {own : List Nat} {ds : List D} (f : D → D) (hi : evI Φ Γ it σ = .ok (ds, σ1)) (hb : ∀ d ∈ ds, lcTurn Φ Γ g c e own d (wipeD σ1 own) = .ok (some (f d), wipeD σ1 own)) (hl : ds.length ≤ 16777216)
    (hu : unwipe σ1 own (wipeD σ1 own) = σ1) : evE Φ Γ (.lc g it c e own) σ = .ok (.t (ds.map f), σ1) := by
  have := evLc (fun d => some (f d)) hi hb (by simpa using hl) hu
  simpa using this
/-- one turn of a for -/
noncomputable def forTurn (Φ : Fns) (Γ : List D) (g b : T) (d : D) (σ : Sts) : Res (Fl × Sts) := (stD g d σ).bind fun σ => evB Φ Γ b σ
theorem evS_forr' (Φ : Fns) (Γ : List D) (σ : Sts) (g it b : T) : evS Φ Γ (.forr g it b) σ = (evI Φ Γ it σ).bind fun q => forLoop (forTurn Φ Γ g b) q.1 q.2 := by rw [evS] <;> rfl
theorem evFor {Φ : Fns} {Γ : List D} {σ σ1 : Sts} {g it b : T} {ds : List D} (P : Nat → Sts → Prop) (hi : evI Φ Γ it σ = .ok (ds, σ1)) (h0 : P 0 σ1) (h : ∀ i d σ, ds[i]? = some d → P i σ → ∃ σ', forTurn Φ Γ g b d σ = .ok (.nx, σ') ∧ P (i + 1) σ') :
    ∃ σ', evS Φ Γ (.forr g it b) σ = .ok (.nx, σ') ∧ P ds.length σ' := by
  obtain ⟨σ', e, p⟩ := forLoop_all P ds h0 h
  exact ⟨σ', by simp only [evS_forr', hi, bind_ok', e], p⟩
theorem bind_assoc' {α β γ : Type} (x : Res α) (f : α → Res β) (g : β → Res γ) : (x.bind f).bind g = x.bind fun a => (f a).bind g := by cases x <;> rfl
/-- a for at the head of what is left -/
theorem for_step {Φ : Fns} {Γ : List D} {σ σ1 : Sts} {g it b : T} {α : Type} {f : Fl × Sts → Res α} {r : Res α} {ds : List D} (P : Nat → Sts → Prop) (hi : evI Φ Γ it σ = .ok (ds, σ1)) (h0 : P 0 σ1) (h : ∀ i d σ, ds[i]? = some d → P i σ → ∃ σ', forTurn Φ Γ g b d σ = .ok (.nx, σ') ∧ P (i + 1) σ')
    (k : ∀ σ', P ds.length σ' → f (.nx, σ') = r) : (evS Φ Γ (.forr g it b) σ).bind f = r := by
  obtain ⟨σ', e, p⟩ := evFor (g := g) (b := b) P hi h0 h
  rw [e]
  exact k σ' p
theorem rng_at {lo : Int} {n i : Nat} {d : D} (h : (rng lo n)[i]? = some d) : i < n ∧ d = .int (lo + i) := by
  unfold rng at h
  rw [List.getElem?_map] at h
  by_cases hi : i < n
  · rw [List.getElem?_range hi] at h
    exact ⟨hi, (Option.some.inj h).symm⟩
  · rw [List.getElem?_eq_none (by rw [List.length_range]; omega)] at h
    cases h
@[simp] theorem rng_length (lo : Int) (n : Nat) : (rng lo n).length = n := by simp [rng]
/-! ### equal data -/
theorem shp_plain0 : ∀ (n : Nat) (d : D), shp n d = true → d.plain = true := by
  intro n
  induction n with
  | zero => intro d h; cases d <;> first | rfl | cases h
  | succ n ih =>
    have all : ∀ xs : List D, xs.all (shp n) = true → PyData.plainAll xs = true := by
      intro xs
      induction xs with
      | nil => intro _; rfl
      | cons x xs ihx =>
        intro h
        rw [List.all_cons, Bool.and_eq_true] at h
        rw [PyData.plainAll, ih x h.1, ihx h.2]
        rfl
    intro d h
    cases d with
    | list xs => rw [PyData.plain]; exact all xs h
    | tuple xs => rw [PyData.plain]; exact all xs h
    | dict kvs => cases h
    | _ => rfl
theorem eqD_self {d : D} (h : shp 40 d = true) : eqD d d = .ok true := by
  unfold eqD
  rw [if_pos ⟨h, h⟩, PySem.SeqAt.eqv_refl_plain d (shp_plain0 40 d h)]
theorem shp_ints {n : Nat} {α : Type} (f : α → Int) (l : List α) : (l.map fun x => PyData.int (f x)).all (shp n) = true := by
  rw [List.all_map, List.all_eq_true]
  intro x _
  cases n <;> rfl
theorem eqD_ints {α : Type} (f : α → Int) (l : List α) : eqD (.list (l.map fun x => PyData.int (f x))) (.list (l.map fun x => PyData.int (f x))) = .ok true := eqD_self (shp_ints (n := 39) f l)
theorem eqD_tints {α : Type} (f : α → Int) (l : List α) : eqD (.tuple (l.map fun x => PyData.int (f x))) (.tuple (l.map fun x => PyData.int (f x))) = .ok true := eqD_self (shp_ints (n := 39) f l)
@[simp] theorem eqD_nn : eqD .none .none = .ok true := rfl
@[simp] theorem eqD_tt (a b c d : Int) : eqD (.tuple [.int a, .int b]) (.tuple [.int c, .int d]) = .ok (decide (a = c) && decide (b = d)) := by
  unfold eqD
  rw [if_pos ⟨rfl, rfl⟩]
  simp [PyData.eqv, PyData.eqvAll]
  rfl
/-- a comprehension at the head of what is left -/
theorem lc_step {Φ : Fns} {Γ : List D} {σ σ1 : Sts} {g it c e : T} {own : List Nat} {α : Type} {F : R × Sts → Res α} {r : Res α} {ds : List D} (f : D → Option D) (hi : evI Φ Γ it σ = .ok (ds, σ1)) (hb : ∀ d ∈ ds, lcTurn Φ Γ g c e own d (wipeD σ1 own) = .ok (f d, wipeD σ1 own)) (hl : (ds.filterMap f).length ≤ 16777216)
    (hu : unwipe σ1 own (wipeD σ1 own) = σ1) (k : F (.t (ds.filterMap f), σ1) = r) : (evE Φ Γ (.lc g it c e own) σ).bind F = r := by
  rw [evLc f hi hb hl hu]
  exact k
theorem rng_mem {lo : Int} {n : Nat} {d : D} (h : d ∈ rng lo n) : ∃ i : Nat, i < n ∧ d = .int (lo + i) := by
  unfold rng at h
  obtain ⟨i, hi, rfl⟩ := List.mem_map.mp h
  exact ⟨i, List.mem_range.mp hi, rfl⟩
@[simp] theorem rng_zero (lo : Int) : rng lo 0 = [] := rfl
/-! ### statement by statement -/
section
variable {Φ : Fns} {Γ : List D} {σ σ1 σ' : Sts} {s r g b it c e : T} {res : Res (Fl × Sts)} {d : D} {own : List Nat} {ds : List D}
theorem seq_step (h : evS Φ Γ s σ = .ok (.nx, σ')) (k : evB Φ Γ r σ' = res) : evB Φ Γ (.cons s r) σ = res := by
  rw [evB, h]
  exact k
theorem seq_ret {v : R} (h : evS Φ Γ s σ = .ok (.rt v, σ')) : evB Φ Γ (.cons s r) σ = .ok (.rt v, σ') := by
  rw [evB, h]
  rfl
theorem seq_nil : evB Φ Γ .nil σ = .ok (.nx, σ) := by rw [evB]
theorem turn_step (h : stD g d σ = .ok σ') (k : evB Φ Γ b σ' = res) : Fz.forTurn Φ Γ g b d σ = res := by
  unfold Fz.forTurn
  rw [h]
  exact k
theorem asg_lc {i : Nat} (f : D → Option D) (hi : evI Φ Γ it σ = .ok (ds, σ1)) (hb : ∀ d ∈ ds, lcTurn Φ Γ g c e own d (wipeD σ1 own) = .ok (f d, wipeD σ1 own)) (hl : (ds.filterMap f).length ≤ 16777216)
    (hu : unwipe σ1 own (wipeD σ1 own) = σ1) (hs : i < σ1.length) : evS Φ Γ (.asg (.gn i) (.lc g it c e own)) σ = .ok (.nx, σ1.set i (.own (ds.filterMap f))) := by
  rw [evS_asg, evLc f hi hb hl hu]
  simp only [bind_ok', stR_gn, hs, if_true, storeR_t]
theorem fn_step {io : List Bool} {n : Nat} {as : List D} {res : Res (R × List (List D))} (hl : as.length = io.length) {q : Fl × Sts} (h : evB Φ Γ b (startD io as ++ List.replicate (n - io.length) .no) = .ok q)
    (k : ((match q.1 with | .nx => Res.ok (R.v .none) | .rt r => retR (protOf 0 io) q.2 r).bind fun r => (outsOf (protOf 0 io) q.2).bind fun os => Res.ok (r, os)) = res) : (mkFn Φ Γ io n b).run as = res := by
  rw [mkFn_run, if_pos hl, h]
  exact k
end
/-- a while that comes to its end within n turns -/
theorem whlLoop_run {c : Sts → Res (Bool × Sts)} {body : Sts → Res (Fl × Sts)} (P : Nat → Sts → Prop) (Q : Sts → Prop)
    (step : ∀ n σ, P n σ → (∃ σ1, c σ = .ok (false, σ1) ∧ Q σ1) ∨ ∃ σ1 σ2 m, c σ = .ok (true, σ1) ∧ body σ1 = .ok (.nx, σ2) ∧ m < n ∧ P m σ2) :
    ∀ (fuel n : Nat) (σ : Sts), n < fuel → P n σ → ∃ σ', whlLoop c body fuel σ = .ok (.nx, σ') ∧ Q σ' := by
  intro fuel
  induction fuel with
  | zero => intro n σ h; omega
  | succ fuel ih =>
    intro n σ h p
    rcases step n σ p with ⟨σ1, e, q⟩ | ⟨σ1, σ2, m, e1, e2, hm, p2⟩
    · exact ⟨σ1, by simp only [whlLoop, e, bind_ok'], q⟩
    · obtain ⟨σ', e3, q⟩ := ih m σ2 (by omega) p2
      exact ⟨σ', by simp only [whlLoop, e1, e2, bind_ok']; exact e3, q⟩
theorem evWhl {Φ : Fns} {Γ : List D} {σ : Sts} {c b : T} (P : Nat → Sts → Prop) (Q : Sts → Prop) {n : Nat} (hn : n < 1000000000000) (h0 : P n σ)
    (step : ∀ n σ, P n σ → (∃ σ1, evT Φ Γ c σ = .ok (false, σ1) ∧ Q σ1) ∨ ∃ σ1 σ2 m, evT Φ Γ c σ = .ok (true, σ1) ∧ evB Φ Γ b σ1 = .ok (.nx, σ2) ∧ m < n ∧ P m σ2) :
    ∃ σ', evS Φ Γ (.whl c b) σ = .ok (.nx, σ') ∧ Q σ' := by
  obtain ⟨σ', e, q⟩ := whlLoop_run P Q step whlMost n σ hn h0
  exact ⟨σ', by rw [evS]; exact e, q⟩
theorem lcLoop_inv {body : D → Sts → Res (Option D × Sts)} (P : Nat → List D → Sts → Prop) (ds : List D) (h : ∀ i d acc σ, ds[i]? = some d → P i acc σ → ∃ o σ', body d σ = .ok (o, σ') ∧ P (i + 1) (acc ++ o.toList) σ') :
    ∀ (n : Nat) (acc : List D) (σ : Sts), P n acc σ → n ≤ ds.length → ∃ acc' σ', lcLoop body (ds.drop n) σ acc = .ok (acc', σ') ∧ P ds.length acc' σ' := by
  intro n
  induction hk : ds.length - n generalizing n with
  | zero =>
    intro acc σ hp hn
    have e : n = ds.length := by omega
    subst e
    rw [List.drop_length]
    exact ⟨acc, σ, rfl, hp⟩
  | succ k ih =>
    intro acc σ hp hn
    have hlt : n < ds.length := by omega
    obtain ⟨o, σ1, e1, p1⟩ := h n ds[n] acc σ (List.getElem?_eq_getElem hlt) hp
    obtain ⟨acc2, σ2, e2, p2⟩ := ih (n + 1) (by omega) _ σ1 p1 (by omega)
    rw [List.drop_eq_getElem_cons hlt]
    refine ⟨acc2, σ2, ?_, p2⟩
    simp only [lcLoop, e1, bindN_ok']
    cases o with
    | none => simpa using e2
    | some x => simpa using e2
/-- a comprehension whose turns change the rest -/
theorem evLcInv {Φ : Fns} {Γ : List D} {σ σ1 : Sts} {g it c e : T} {own : List Nat} {ds : List D} (P : Nat → List D → Sts → Prop) (hi : evI Φ Γ it σ = .ok (ds, σ1)) (h0 : P 0 [] (wipeD σ1 own))
    (h : ∀ i d acc σ, ds[i]? = some d → P i acc σ → ∃ o σ', lcTurn Φ Γ g c e own d σ = .ok (o, σ') ∧ P (i + 1) (acc ++ o.toList) σ') (hl : ∀ acc σ, P ds.length acc σ → acc.length ≤ 16777216) :
    ∃ acc σ', evE Φ Γ (.lc g it c e own) σ = .ok (.t acc, unwipe σ1 own σ') ∧ P ds.length acc σ' := by
  obtain ⟨acc, σ', e1, p⟩ := lcLoop_inv P ds h 0 [] _ h0 (Nat.zero_le _)
  rw [List.drop_zero] at e1
  have hl' : acc.length ≤ sizeL := hl acc σ' p
  exact ⟨acc, σ', by simp only [evE_lc', hi, bind_ok', e1, hl', if_true], p⟩
@[simp] theorem isD_bb (a b : Bool) : isD (.bool a) (.bool b) = .ok (a == b) := rfl
@[simp] theorem eqD_bb (a b : Bool) : eqD (.bool a) (.bool b) = .ok (a == b) := by cases a <;> cases b <;> rfl
@[simp] theorem bi_isBool_b (a : Bool) : biD .isBool [.bool a] = .ok (.v (.bool true)) := rfl
/-! ### a block that comes to its end -/
def RunsTo (Φ : Fns) (Γ : List D) (b : T) (σ : Sts) (Q : Sts → Prop) : Prop := ∃ σ', evB Φ Γ b σ = .ok (.nx, σ') ∧ Q σ'
section
variable {Φ : Fns} {Γ : List D} {σ σ1 : Sts} {s r g b it : T} {Q : Sts → Prop} {d : D} {ds : List D}
theorem rt_nil (h : Q σ) : RunsTo Φ Γ .nil σ Q := ⟨σ, seq_nil, h⟩
theorem rt_step (h : evS Φ Γ s σ = .ok (.nx, σ1)) (k : RunsTo Φ Γ r σ1 Q) : RunsTo Φ Γ (.cons s r) σ Q := by
  obtain ⟨σ', e, q⟩ := k
  exact ⟨σ', seq_step h e, q⟩
theorem rt_for (P : Nat → Sts → Prop) (hi : evI Φ Γ it σ = .ok (ds, σ1)) (h0 : P 0 σ1) (h : ∀ i d σ, ds[i]? = some d → P i σ → ∃ σ', Fz.forTurn Φ Γ g b d σ = .ok (.nx, σ') ∧ P (i + 1) σ')
    (k : ∀ σ', P ds.length σ' → RunsTo Φ Γ r σ' Q) : RunsTo Φ Γ (.cons (.forr g it b) r) σ Q := by
  obtain ⟨σ', e, p⟩ := evFor (g := g) (b := b) P hi h0 h
  exact rt_step e (k σ' p)
theorem rt_turn (h : stD g d σ = .ok σ1) (k : RunsTo Φ Γ b σ1 Q) : ∃ σ', Fz.forTurn Φ Γ g b d σ = .ok (.nx, σ') ∧ Q σ' := by
  obtain ⟨σ', e, q⟩ := k
  exact ⟨σ', turn_step h e, q⟩
end
end Fz

/-! Ev20: the script's hand and what is drawn from it: the two forms of every law's first defs. -/
namespace Fz
open PySem
def HandOk (ds : List D) : Prop := ∃ (cells : List Int) (a b c e : Int), ds = [.list (cells.map .int), .int a, .int b, .int c, .int e] ∧ 0 ≤ a
theorem cut_script (ns : List Int) : cutD (ns.map PyData.int) none (some 63) = (ns.take 63).map PyData.int := by
  unfold cutD sEnd
  simp only [List.drop_zero, Nat.sub_zero, List.length_map]
  rw [if_pos (by decide), ← List.map_take]
  congr 1
  show List.take (min 63 ns.length) ns = _
  rw [List.take_eq_take_iff]
  omega
theorem lcLoop_pure {body : D → Sts → Res (Option D × Sts)} {σ : Sts} (f : D → D) (ds : List D) (h : ∀ d ∈ ds, body d σ = .ok (some (f d), σ)) : lcLoop body ds σ [] = .ok (ds.map f, σ) := by
  rw [lcLoop_map (fun d => some (f d)) ds [] h]
  simp
def handT (e : T) : T := (.cons (.asg (.gn 1) (.lc (.gn 2) (.itv (.slc (.var 0) .nil (.cons (.int 63) .nil))) .nil (.bi .abs (.cons (.bi .int (.cons (.var 2) .nil)) .nil)) [2])) (.cons (.ret (.lst (.cons (.var 1) (.cons (.int 0) (.cons (.int 0) (.cons e (.cons (.int 0) .nil))))))) .nil))
theorem handT_r {e : T} (he : ∀ (d : D) (cells : List Int), ∃ c, evE (tbl []) [] e [.val d, .val (.list (cells.map .int)), .no] = .ok (.v (.int c), [.val d, .val (.list (cells.map .int)), .no])) (ns : List Int) :
    ∃ ds, (mkFn (tbl []) [] [false] 3 (handT e)).run [scrD ns] = .ok (.t ds, []) ∧ HandOk ds := by
  have hl : (ns.take 63).length ≤ 63 := by rw [List.length_take]; omega
  obtain ⟨c, hc⟩ := he (scrD ns) ((ns.take 63).map absI)
  refine ⟨[.list (((ns.take 63).map absI).map .int), .int 0, .int 0, .int c, .int 0], ?_, _, 0, 0, c, 0, rfl, by decide⟩
  have e1 : evE (tbl []) [] (.lc (.gn 2) (.itv (.slc (.var 0) .nil (.cons (.int 63) .nil))) .nil (.bi .abs (.cons (.bi .int (.cons (.var 2) .nil)) .nil)) [2]) [.val (scrD ns), .no, .no] = .ok (.t (((ns.take 63).map absI).map .int), [.val (scrD ns), .no, .no]) := by
    rw [evLcM (ds := (ns.take 63).map PyData.int) (fun d => match d with | .int x => .int (absI x) | d => d) (σ1 := [.val (scrD ns), .no, .no])]
    · rw [List.map_map, List.map_map]
      rfl
    · simp [cut_script]
    · intro d hd
      obtain ⟨x, hx, rfl⟩ := List.mem_map.mp hd
      simp [absI, lcTurn]
    · rw [List.length_map]; omega
    · rfl
  simp only [handT, mkFn_run]
  generalize (ns.take 63).map absI = cells at e1 hc
  simp [e1, hc]
def drawTail (a1 a2 m1 d2 c2 m2 d3 c3 m3 : Int) : T := (.cons (.iff (.cmp .gt (.ix (.var 0) (.int 2)) (.int 0)) (.cons (.asg (.gn 4) (.bin .mod (.bi .int (.cons (.ix (.var 0) (.int 2)) .nil)) (.var 1))) (.cons (.sti 0 (.int 2) (.bin .fdiv (.ix (.var 0) (.int 2)) (.var 1))) (.cons (.ret (.var 4)) .nil))) .nil) (.cons (.sti 0 (.int 4) (.bin .add (.ix (.var 0) (.int 4)) (.int 1))) (.cons (.asg (.gn 2) (.bin .mod (.bi .int (.cons (.bin .mul (.bi .int (.cons (.bin .add (.ix (.var 0) (.int 3)) (.bin .mul (.int a1) (.ix (.var 0) (.int 4)))) .nil)) (.int a2)) .nil)) (.int m1))) (.cons (.asg (.gn 2) (.bin .mod (.bi .int (.cons (.bin .mul (.var 2) (.bin .add (.bin .fdiv (.var 2) (.int d2)) (.int c2))) .nil)) (.int m2))) (.cons (.asg (.gn 2) (.bin .mod (.bi .int (.cons (.bin .mul (.var 2) (.bin .add (.bin .fdiv (.var 2) (.int d3)) (.int c3))) .nil)) (.int m3))) (.cons (.ret (.bin .mod (.bi .int (.cons (.bin .fdiv (.var 2) (.int 16)) .nil)) (.var 1))) .nil))))))
theorem mul_l {a b : Int} (h : -18446744073709551616 < a ∧ a < 18446744073709551616) : Fz.MulOk a b := .inl (.inl h)
theorem mul_r {a b : Int} (h : -18446744073709551616 < b ∧ b < 18446744073709551616) : Fz.MulOk a b := .inl (.inr h)
theorem mul_w {a b : Int} (h : -2037035976334486086268445688409378161051468393665936250636140449354381299763336706183397376 < a ∧ a < 2037035976334486086268445688409378161051468393665936250636140449354381299763336706183397376) (h' : -2037035976334486086268445688409378161051468393665936250636140449354381299763336706183397376 < b ∧ b < 2037035976334486086268445688409378161051468393665936250636140449354381299763336706183397376) : Fz.MulOk a b := .inr ⟨h, h'⟩
theorem fmod_r {a m : Int} (h : 0 < m) : 0 ≤ a.fmod m ∧ a.fmod m < m := ⟨Int.fmod_nonneg_of_pos a h, Int.fmod_lt_of_pos a h⟩
structure DrawC (a1 a2 m1 d2 c2 m2 d3 c3 m3 : Int) : Prop where
  a1 : -18446744073709551616 < a1 ∧ a1 < 18446744073709551616
  a2 : -18446744073709551616 < a2 ∧ a2 < 18446744073709551616
  m1 : 0 < m1 ∧ m1 < 18446744073709551616
  m2 : 0 < m2 ∧ m2 < 18446744073709551616
  m3 : 0 < m3 ∧ m3 < 18446744073709551616
  d2 : DivOk d2
  d3 : DivOk d3
theorem tail_r {a1 a2 m1 d2 c2 m2 d3 c3 m3 : Int} (C : DrawC a1 a2 m1 d2 c2 m2 d3 c3 m3) (L : D) (a b c e m : Int) (hm : 0 < m) (hm2 : m < 1073741824) (s2 s3 s4 : Slot) :
    ∃ r b' e' rest, evB (tbl []) [] (drawTail a1 a2 m1 d2 c2 m2 d3 c3 m3) [.own [L, .int a, .int b, .int c, .int e], .val (.int m), s2, s3, s4] = .ok (.rt (.v (.int r)), .own [L, .int a, .int b', .int c, .int e'] :: rest) ∧ 0 ≤ r ∧ r < m := by
  have hd : DivOk m := ⟨by omega, by omega, by omega⟩
  have hm0 : m ≠ 0 := by omega
  by_cases hb : 0 < b
  · refine ⟨b.fmod m, b.fdiv m, e, [.val (.int m), s2, s3, .val (.int (b.fmod m))], ?_, fmod_r hm⟩
    simp [drawTail, hb, hd, hm0]
  · obtain ⟨n1, n2⟩ := fmod_r (a := (c + a1 * (e + 1)) * a2) C.m1.1
    have k1 := C.m1.2
    have k2 := C.m2.2
    generalize hx1 : ((c + a1 * (e + 1)) * a2).fmod m1 = x1 at n1 n2
    obtain ⟨n3, n4⟩ := fmod_r (a := x1 * (x1.fdiv d2 + c2)) C.m2.1
    generalize hx2 : (x1 * (x1.fdiv d2 + c2)).fmod m2 = x2 at n3 n4
    have z1 := C.m1.1
    have z2 := C.m2.1
    have z3 := C.m3.1
    have q1 : m1 ≠ 0 := by omega
    have q2 : m2 ≠ 0 := by omega
    have q3 : m3 ≠ 0 := by omega
    have w1 : Fz.MulOk a1 (e + 1) := mul_l C.a1
    have w2 : Fz.MulOk (c + a1 * (e + 1)) a2 := mul_r C.a2
    have w3 : Fz.MulOk x1 (x1.fdiv d2 + c2) := mul_l ⟨by omega, by omega⟩
    have w4 : Fz.MulOk x2 (x2.fdiv d3 + c3) := mul_l ⟨by omega, by omega⟩
    have w5 : DivOk 16 := ⟨by decide, by decide, by decide⟩
    refine ⟨(((x2 * (x2.fdiv d3 + c3)).fmod m3).fdiv 16).fmod m, b, e + 1, [.val (.int m), .val (.int ((x2 * (x2.fdiv d3 + c3)).fmod m3)), s3, s4], ?_, fmod_r hm⟩
    simp [drawTail, hb, hm0, q1, q2, q3, w1, w2, hx1, w3, hx2, w4, w5, C.d2, C.d3]
def drawT1 (h1 h2 h3 : Int) (t : T) : T := (.cons (.iff (.and (.cmp .eq (.ix (.var 0) (.int 2)) (.int 0)) (.cmp .lt (.ix (.var 0) (.int 1)) (.bi .len (.cons (.ix (.var 0) (.int 0)) .nil)))) (.cons (.asg (.gn 3) (.ix (.ix (.var 0) (.int 0)) (.ix (.var 0) (.int 1)))) (.cons (.sti 0 (.int 1) (.bin .add (.ix (.var 0) (.int 1)) (.int 1))) (.cons (.sti 0 (.int 3) (.bin .mod (.bi .int (.cons (.bin .add (.bin .add (.bin .mul (.ix (.var 0) (.int 3)) (.int h1)) (.var 3)) (.int h2)) .nil)) (.int h3))) (.cons (.iff (.cmp .ge (.var 3) (.bin .pow (.int 10) (.int 18))) (.cons (.sti 0 (.int 2) (.var 3)) .nil) .nil) .nil)))) .nil) t)
def drawT2 (h1 h2 h3 : Int) (t : T) : T := (.cons (.iff (.and (.cmp .eq (.ix (.var 0) (.int 2)) (.int 0)) (.cmp .lt (.ix (.var 0) (.int 1)) (.bi .len (.cons (.ix (.var 0) (.int 0)) .nil)))) (.cons (.asg (.gn 3) (.ix (.ix (.var 0) (.int 0)) (.ix (.var 0) (.int 1)))) (.cons (.sti 0 (.int 1) (.bin .add (.ix (.var 0) (.int 1)) (.int 1))) (.cons (.sti 0 (.int 3) (.bin .mod (.bi .int (.cons (.bin .add (.bin .add (.bin .mul (.ix (.var 0) (.int 3)) (.int h1)) (.bin .mul (.var 3) (.int 5))) (.int h2)) .nil)) (.int h3))) (.cons (.sti 0 (.int 2) (.ifx (.cmp .ge (.var 3) (.bin .pow (.int 10) (.int 18))) (.var 3) (.int 0))) .nil)))) .nil) t)
theorem cell_at {cells : List Int} {a : Int} (h0 : 0 ≤ a) (h1 : a < cells.length) : ∃ x, atD (cells.map PyData.int) a = some (.int x) := by
  rw [at_of _ h0]
  have : a.toNat < cells.length := by omega
  exact ⟨cells[a.toNat], by rw [List.getElem?_map, List.getElem?_eq_getElem this]; rfl⟩
theorem head1_r {h1 h2 h3 : Int} (t : T) (w : -18446744073709551616 < h1 ∧ h1 < 18446744073709551616) (w3 : h3 ≠ 0) (cells : List Int) (a b c e m : Int) (ha : 0 ≤ a) :
    ∃ a' b' c' s3, 0 ≤ a' ∧ evB (tbl []) [] (drawT1 h1 h2 h3 t) [.own [.list (cells.map .int), .int a, .int b, .int c, .int e], .val (.int m), .no, .no, .no] = evB (tbl []) [] t [.own [.list (cells.map .int), .int a', .int b', .int c', .int e], .val (.int m), .no, s3, .no] := by
  have w1 : ∀ c, Fz.MulOk c h1 := fun c => mul_r w
  have pw : PowOk 10 18 := ⟨by decide, by decide, by decide, by decide⟩
  by_cases hb : b = 0
  · by_cases hl : a < cells.length
    · obtain ⟨x, hx⟩ := cell_at ha hl
      by_cases hc : (1000000000000000000 : Int) ≤ x
      · refine ⟨a + 1, x, (c * h1 + x + h2).fmod h3, .val (.int x), by omega, ?_⟩
        simp [drawT1, hb, hl, hx, hc, w1, w3, pw]
      · refine ⟨a + 1, 0, (c * h1 + x + h2).fmod h3, .val (.int x), by omega, ?_⟩
        simp [drawT1, hb, hl, hx, hc, w1, w3, pw]
    · refine ⟨a, b, c, .no, ha, ?_⟩
      simp [drawT1, hb, hl]
  · refine ⟨a, b, c, .no, ha, ?_⟩
    simp [drawT1, hb]
theorem head2_r {h1 h2 h3 : Int} (t : T) (w : -18446744073709551616 < h1 ∧ h1 < 18446744073709551616) (w3 : h3 ≠ 0) (cells : List Int) (a b c e m : Int) (ha : 0 ≤ a) :
    ∃ a' b' c' s3, 0 ≤ a' ∧ evB (tbl []) [] (drawT2 h1 h2 h3 t) [.own [.list (cells.map .int), .int a, .int b, .int c, .int e], .val (.int m), .no, .no, .no] = evB (tbl []) [] t [.own [.list (cells.map .int), .int a', .int b', .int c', .int e], .val (.int m), .no, s3, .no] := by
  have w1 : ∀ c, Fz.MulOk c h1 := fun c => mul_r w
  have w5 : ∀ c, Fz.MulOk c 5 := fun c => mul_r (by decide)
  have pw : PowOk 10 18 := ⟨by decide, by decide, by decide, by decide⟩
  by_cases hb : b = 0
  · by_cases hl : a < cells.length
    · obtain ⟨x, hx⟩ := cell_at ha hl
      by_cases hc : (1000000000000000000 : Int) ≤ x
      · refine ⟨a + 1, x, (c * h1 + x * 5 + h2).fmod h3, .val (.int x), by omega, ?_⟩
        simp [drawT2, hb, hl, hx, hc, w1, w3, w5, pw]
      · refine ⟨a + 1, 0, (c * h1 + x * 5 + h2).fmod h3, .val (.int x), by omega, ?_⟩
        simp [drawT2, hb, hl, hx, hc, w1, w3, w5, pw]
    · refine ⟨a, b, c, .no, ha, ?_⟩
      simp [drawT2, hb, hl]
  · refine ⟨a, b, c, .no, ha, ?_⟩
    simp [drawT2, hb]
/-- what a draw promises -/
def DrawOk (F : FnSem) : Prop := ∀ {ds : List D}, HandOk ds → ∀ {m : Int}, 0 < m → m < 1073741824 → ∃ r ds', F.run [.list ds, .int m] = .ok (.v (.int r), [ds']) ∧ 0 ≤ r ∧ r < m ∧ HandOk ds'
theorem drawOk1 {h1 h2 h3 a1 a2 m1 d2 c2 m2 d3 c3 m3 : Int} (C : DrawC a1 a2 m1 d2 c2 m2 d3 c3 m3) (w : -18446744073709551616 < h1 ∧ h1 < 18446744073709551616) (w3 : h3 ≠ 0) : DrawOk (mkFn (tbl []) [] [true, false] 5 (drawT1 h1 h2 h3 (drawTail a1 a2 m1 d2 c2 m2 d3 c3 m3))) := by
  intro ds h m hm hm2
  obtain ⟨cells, a, b, c, e, rfl, ha⟩ := h
  obtain ⟨a', b', c', s3, ha', e1⟩ := head1_r (h2 := h2) (drawTail a1 a2 m1 d2 c2 m2 d3 c3 m3) w w3 cells a b c e m ha
  obtain ⟨r, b2, e2, rest, e3, r1, r2⟩ := tail_r C (.list (cells.map .int)) a' b' c' e m hm hm2 .no s3 .no
  refine ⟨r, _, ?_, r1, r2, cells, a', b2, c', e2, rfl, ha'⟩
  simp only [mkFn_run]
  simp [e1, e3]
theorem drawOk2 {h1 h2 h3 a1 a2 m1 d2 c2 m2 d3 c3 m3 : Int} (C : DrawC a1 a2 m1 d2 c2 m2 d3 c3 m3) (w : -18446744073709551616 < h1 ∧ h1 < 18446744073709551616) (w3 : h3 ≠ 0) : DrawOk (mkFn (tbl []) [] [true, false] 5 (drawT2 h1 h2 h3 (drawTail a1 a2 m1 d2 c2 m2 d3 c3 m3))) := by
  intro ds h m hm hm2
  obtain ⟨cells, a, b, c, e, rfl, ha⟩ := h
  obtain ⟨a', b', c', s3, ha', e1⟩ := head2_r (h2 := h2) (drawTail a1 a2 m1 d2 c2 m2 d3 c3 m3) w w3 cells a b c e m ha
  obtain ⟨r, b2, e2, rest, e3, r1, r2⟩ := tail_r C (.list (cells.map .int)) a' b' c' e m hm hm2 .no s3 .no
  refine ⟨r, _, ?_, r1, r2, cells, a', b2, c', e2, rfl, ha'⟩
  simp only [mkFn_run]
  simp [e1, e3]
theorem hand1_r {k : Int} (ns : List Int) : ∃ ds, (mkFn (tbl []) [] [false] 3 (handT (.bin .add (.int k) (.bi .len (.cons (.var 1) .nil))))).run [scrD ns] = .ok (.t ds, []) ∧ HandOk ds :=
  handT_r (fun d cells => ⟨k + cells.length, by simp⟩) ns
theorem hand2_r {k j : Int} (w : -18446744073709551616 < j ∧ j < 18446744073709551616) (ns : List Int) : ∃ ds, (mkFn (tbl []) [] [false] 3 (handT (.bin .add (.int k) (.bin .mul (.int j) (.bi .len (.cons (.var 1) .nil)))))).run [scrD ns] = .ok (.t ds, []) ∧ HandOk ds :=
  handT_r (fun d cells => ⟨k + j * cells.length, by
    have : Fz.MulOk j (cells.length : Int) := mul_l w
    simp [this]⟩) ns
end Fz

/-! LibGcd: the texts' own greatest common divisors. -/
namespace Fz
open PySem
def divisorT : T := (.cons (.par [0, 1] (.cons (.bi .abs (.cons (.var 0) .nil)) (.cons (.bi .abs (.cons (.var 1) .nil)) .nil))) (.cons (.whl (.cmp .ne (.var 1) (.int 0)) (.cons (.par [0, 1] (.cons (.var 1) (.cons (.bin .mod (.var 0) (.var 1)) .nil))) .nil)) (.cons (.ret (.var 0)) .nil)))
theorem absI_nat (x : Int) : absI x = (x.natAbs : Int) := by unfold absI; split <;> omega
theorem fmod_nat (a b : Nat) : (a : Int).fmod (b : Int) = ((a % b : Nat) : Int) := by
  rw [Int.fmod_eq_emod_of_nonneg _ (by omega)]
  omega
theorem divisorT_r (x y : Int) (hy : y.natAbs < 1000000000000) : (mkFn (tbl []) [] [false, false] 2 divisorT).run [.int x, .int y] = .ok (.v (.int (Nat.gcd x.natAbs y.natAbs : Nat)), []) := by
  obtain ⟨σ', e, rfl⟩ := evWhl (Φ := tbl []) (Γ := []) (c := .cmp .ne (.var 1) (.int 0)) (b := .cons (.par [0, 1] (.cons (.var 1) (.cons (.bin .mod (.var 0) (.var 1)) .nil))) .nil) (σ := [.val (.int (x.natAbs : Int)), .val (.int (y.natAbs : Int))])
    (fun n σ => ∃ a b : Nat, b ≤ n ∧ Nat.gcd a b = Nat.gcd x.natAbs y.natAbs ∧ σ = [.val (.int (a : Int)), .val (.int (b : Int))]) (fun σ => σ = [.val (.int (Nat.gcd x.natAbs y.natAbs : Nat)), .val (.int 0)]) hy ⟨_, _, Nat.le_refl _, rfl, rfl⟩ (by
      rintro n σ ⟨a, b, hb, hg, rfl⟩
      by_cases h : b = 0
      · subst h
        left
        rw [Nat.gcd_zero_right] at hg
        subst hg
        exact ⟨_, by simp -dsimp, rfl⟩
      · right
        have l : a % b < b := Nat.mod_lt _ (by omega)
        refine ⟨[.val (.int (a : Int)), .val (.int (b : Int))], [.val (.int (b : Int)), .val (.int ((a % b : Nat) : Int))], a % b, by simp -dsimp [h], ?_, by omega, b, a % b, Nat.le_refl _, by rw [← hg, Nat.gcd_comm a b]; exact (Nat.gcd_rec b a).symm ▸ Nat.gcd_comm _ _, rfl⟩
        simp -dsimp [h, fmod_nat])
  simp -dsimp [divisorT, mkFn_run, absI_nat, e]
def reducedT : T := (.cons (.asg (.gn 2) (.call 0 (.cons (.var 0) (.cons (.var 1) .nil)))) (.cons (.asg (.gn 3) (.ifx (.cmp .gt (.var 1) (.int 0)) (.int 1) (.neg (.int 1)))) (.cons (.ret (.tup (.cons (.bin .fdiv (.bin .mul (.var 3) (.var 0)) (.var 2)) (.cons (.bin .fdiv (.bin .mul (.var 3) (.var 1)) (.var 2)) .nil)))) .nil)))
theorem reducedT_r {x y : Int} (hy : 0 < y) (h2 : y < 1073741824) : (mkFn (tbl [mkFn (tbl []) [] [false, false] 2 divisorT]) [] [false, false] 4 reducedT).run [.int x, .int y] = .ok (.v (.tuple [.int (x.fdiv (Nat.gcd x.natAbs y.natAbs : Nat)), .int (y.fdiv (Nat.gcd x.natAbs y.natAbs : Nat))]), []) := by
  have hg : 0 < Nat.gcd x.natAbs y.natAbs := Nat.gcd_pos_of_pos_right _ (by omega)
  have hg2 : Nat.gcd x.natAbs y.natAbs ≤ y.natAbs := Nat.le_of_dvd (by omega) (Nat.gcd_dvd_right _ _)
  have e := divisorT_r x y (by omega)
  have hd : DivOk (Nat.gcd x.natAbs y.natAbs : Nat) := ⟨by omega, by omega, by omega⟩
  have m : ∀ z : Int, Fz.MulOk 1 z := fun z => mul_l (by decide)
  have io : (mkFn (tbl []) [] [false, false] 2 divisorT).inout = [false, false] := rfl
  generalize Nat.gcd x.natAbs y.natAbs = g at *
  generalize mkFn (tbl []) [] [false, false] 2 divisorT = F at *
  simp -dsimp [reducedT, mkFn_run, callF, io, e, hy, hd, m]
def lowT : T := (.cons (.par [2, 3] (.cons (.bi .abs (.cons (.var 0) .nil)) (.cons (.var 1) .nil))) (.cons (.whl (.cmp .gt (.var 3) (.int 0)) (.cons (.par [2, 3] (.cons (.var 3) (.cons (.bin .mod (.bi .int (.cons (.var 2) .nil)) (.var 3)) .nil))) .nil)) (.cons (.ret (.tup (.cons (.bin .fdiv (.var 0) (.var 2)) (.cons (.bin .fdiv (.var 1) (.var 2)) .nil)))) .nil)))
theorem lowT_r {x y : Int} (hy : 0 < y) (h2 : y < 1073741824) : (mkFn (tbl []) [] [false, false] 4 lowT).run [.int x, .int y] = .ok (.v (.tuple [.int (x.fdiv (Nat.gcd x.natAbs y.natAbs : Nat)), .int (y.fdiv (Nat.gcd x.natAbs y.natAbs : Nat))]), []) := by
  have hg : 0 < Nat.gcd x.natAbs y.natAbs := Nat.gcd_pos_of_pos_right _ (by omega)
  have hg2 : Nat.gcd x.natAbs y.natAbs ≤ y.natAbs := Nat.le_of_dvd (by omega) (Nat.gcd_dvd_right _ _)
  have hd : DivOk (Nat.gcd x.natAbs y.natAbs : Nat) := ⟨by omega, by omega, by omega⟩
  have ya : (y.natAbs : Int) = y := by omega
  obtain ⟨σ', e, rfl⟩ := evWhl (Φ := tbl []) (Γ := []) (c := .cmp .gt (.var 3) (.int 0)) (b := .cons (.par [2, 3] (.cons (.var 3) (.cons (.bin .mod (.bi .int (.cons (.var 2) .nil)) (.var 3)) .nil))) .nil) (σ := [.val (.int x), .val (.int y), .val (.int (x.natAbs : Int)), .val (.int y)])
    (fun n σ => ∃ a b : Nat, b ≤ n ∧ Nat.gcd a b = Nat.gcd x.natAbs y.natAbs ∧ σ = [.val (.int x), .val (.int y), .val (.int (a : Int)), .val (.int (b : Int))]) (fun σ => σ = [.val (.int x), .val (.int y), .val (.int (Nat.gcd x.natAbs y.natAbs : Nat)), .val (.int 0)]) (show y.natAbs < 1000000000000 by omega) ⟨_, _, Nat.le_refl _, rfl, by rw [ya]⟩ (by
      rintro n σ ⟨a, b, hb, hg, rfl⟩
      by_cases h : b = 0
      · subst h
        left
        rw [Nat.gcd_zero_right] at hg
        subst hg
        exact ⟨_, by simp -dsimp, rfl⟩
      · right
        have l : a % b < b := Nat.mod_lt _ (by omega)
        have hb0 : 0 < b := by omega
        refine ⟨[.val (.int x), .val (.int y), .val (.int (a : Int)), .val (.int (b : Int))], [.val (.int x), .val (.int y), .val (.int (b : Int)), .val (.int ((a % b : Nat) : Int))], a % b, by simp -dsimp [hb0], ?_, by omega, b, a % b, Nat.le_refl _, by rw [← hg, Nat.gcd_comm a b]; exact (Nat.gcd_rec b a).symm ▸ Nat.gcd_comm _ _, rfl⟩
        simp -dsimp [h, fmod_nat])
  generalize Nat.gcd x.natAbs y.natAbs = g at *
  simp -dsimp [lowT, mkFn_run, absI_nat, e, hd]
end Fz

/-! LibB: lemmas for many laws: equal data, what is drawn from a lot, likeness through and through, loops that end early. -/
namespace Fz
open PySem
noncomputable instance decD : DecidableEq D := fun a b => Classical.propDecidable _
/-- data of few levels without flags and dicts -/
def pl : Nat → D → Bool
  | _, .none => true
  | _, .int _ => true
  | _, .str _ => true
  | n + 1, .list xs => xs.all (pl n)
  | n + 1, .tuple xs => xs.all (pl n)
  | _, _ => false
@[simp] theorem pl_int (n : Nat) (a : Int) : pl n (.int a) = true := by cases n <;> rfl
@[simp] theorem pl_str (n : Nat) (a : Str) : pl n (.str a) = true := by cases n <;> rfl
@[simp] theorem pl_non (n : Nat) : pl n .none = true := by cases n <;> rfl
@[simp] theorem pl_tup (n : Nat) (xs : List D) : pl (n + 1) (.tuple xs) = xs.all (pl n) := rfl
@[simp] theorem pl_lst (n : Nat) (xs : List D) : pl (n + 1) (.list xs) = xs.all (pl n) := rfl
@[simp] theorem shp_int (n : Nat) (a : Int) : shp n (.int a) = true := by cases n <;> rfl
@[simp] theorem shp_bool (n : Nat) (a : Bool) : shp n (.bool a) = true := by cases n <;> rfl
@[simp] theorem shp_str (n : Nat) (a : Str) : shp n (.str a) = true := by cases n <;> rfl
@[simp] theorem shp_non (n : Nat) : shp n .none = true := by cases n <;> rfl
@[simp] theorem shp_tup (n : Nat) (xs : List D) : shp (n + 1) (.tuple xs) = xs.all (shp n) := rfl
@[simp] theorem shp_lst (n : Nat) (xs : List D) : shp (n + 1) (.list xs) = xs.all (shp n) := rfl
theorem pl_shp : ∀ (n : Nat) (d : D), pl n d = true → shp n d = true := by
  intro n
  induction n with
  | zero => intro d h; cases d <;> first | rfl | cases h
  | succ n ih =>
    have all : ∀ xs : List D, xs.all (pl n) = true → xs.all (shp n) = true := fun xs h => by
      rw [List.all_eq_true] at h ⊢
      exact fun x hx => ih x (h x hx)
    intro d h
    cases d with
    | list xs => exact all xs h
    | tuple xs => exact all xs h
    | bool b => cases h
    | dict kvs => cases h
    | _ => rfl
theorem eqv_pl : ∀ (n : Nat) (a b : D), pl n a = true → pl n b = true → PyData.eqv a b = decide (a = b) := by
  intro n
  induction n with
  | zero =>
    intro a b ha hb
    cases a <;> first | (cases ha; done) | skip
    all_goals (cases b <;> first | (cases hb; done) | skip)
    all_goals (unfold PyData.eqv; simp)
    all_goals (rw [Bool.eq_iff_iff]; simp)
  | succ n ih =>
    have all : ∀ xs ys : List D, xs.all (pl n) = true → ys.all (pl n) = true → PyData.eqvAll xs ys = decide (xs = ys) := by
      intro xs
      induction xs with
      | nil => intro ys _ _; cases ys <;> (unfold PyData.eqvAll; simp)
      | cons x xs ihx =>
        intro ys hx hy
        cases ys with
        | nil => unfold PyData.eqvAll; simp
        | cons y ys =>
          rw [List.all_cons, Bool.and_eq_true] at hx hy
          unfold PyData.eqvAll
          rw [ih x y hx.1 hy.1, ihx ys hx.2 hy.2]
          simp
    intro a b ha hb
    cases a <;> first | (cases ha; done) | skip
    all_goals (cases b <;> first | (cases hb; done) | skip)
    all_goals (unfold PyData.eqv; first | (rw [all _ _ ha hb]; simp; done) | simp)
    all_goals (rw [Bool.eq_iff_iff]; simp)
theorem eqD_pl {a b : D} (ha : pl 40 a = true) (hb : pl 40 b = true) : eqD a b = .ok (decide (a = b)) := by
  unfold eqD
  rw [if_pos ⟨pl_shp 40 a ha, pl_shp 40 b hb⟩, eqv_pl 40 a b ha hb]
theorem eqD_self' {d : D} (h : pl 40 d = true) : eqD d d = .ok true := eqD_self (pl_shp 40 d h)
theorem pl_mapInt {n : Nat} {α : Type} (f : α → Int) (l : List α) : (l.map fun x => PyData.int (f x)).all (pl n) = true := by
  rw [List.all_map, List.all_eq_true]
  intro x _
  exact pl_int n _
/-! ### draws -/
theorem draw_nat {F : FnSem} (hF : DrawOk F) {ds : List D} (h : HandOk ds) {m : Int} (h0 : 0 < m) (h1 : m < 1073741824) : ∃ (r : Nat) (ds' : List D), F.run [.list ds, .int m] = .ok (.v (.int (r : Int)), [ds']) ∧ (r : Int) < m ∧ HandOk ds' := by
  obtain ⟨r, ds', e, r1, r2, h'⟩ := hF h h0 h1
  refine ⟨r.toNat, ds', ?_, by omega, h'⟩
  rw [e, show ((r.toNat : Nat) : Int) = r by omega]
def someT : T := (.cons (.ret (.ix (.var 1) (.call 0 (.cons (.var 0) (.cons (.bi .len (.cons (.var 1) .nil)) .nil))))) .nil)
/-- what a draw from a lot promises -/
def SomeOk (G : FnSem) : Prop := ∀ {ds : List D}, HandOk ds → ∀ {x : D} {xs : List D}, (x :: xs).length < 1000000 → ∃ d ds', G.run [.list ds, .list (x :: xs)] = .ok (.v d, [ds']) ∧ d ∈ x :: xs ∧ HandOk ds'
theorem some_ok {F : FnSem} (hF : DrawOk F) (io : F.inout = [true, false]) : SomeOk (mkFn (tbl [F]) [] [true, false] 2 someT) := by
  intro ds h x xs hl
  obtain ⟨r, ds', e, r1, r2, h'⟩ := hF h (m := (x :: xs).length) (by simp only [List.length_cons]; omega) (by omega)
  have hr : r.toNat < (x :: xs).length := by omega
  have ha : atD (x :: xs) r = some ((x :: xs)[r.toNat]) := by rw [at_of _ r1, List.getElem?_eq_getElem hr]
  refine ⟨_, ds', ?_, List.getElem_mem hr, h'⟩
  simp only [List.length_cons, Int.natCast_add, Int.natCast_one] at e
  simp -dsimp -implicitDefEqProofs [someT, mkFn_run, callF, io, e, ha]
theorem someT_tup {F : FnSem} (hF : DrawOk F) (io : F.inout = [true, false]) {ds : List D} (h : HandOk ds) {x : D} {xs : List D} (hl : (x :: xs).length < 1000000) : ∃ d ds', (mkFn (tbl [F]) [] [true, false] 2 someT).run [.list ds, .tuple (x :: xs)] = .ok (.v d, [ds']) ∧ d ∈ x :: xs ∧ HandOk ds' := by
  obtain ⟨r, ds', e, r1, r2, h'⟩ := hF h (m := (x :: xs).length) (by simp only [List.length_cons]; omega) (by omega)
  have hr : r.toNat < (x :: xs).length := by omega
  have ha : atD (x :: xs) r = some ((x :: xs)[r.toNat]) := by rw [at_of _ r1, List.getElem?_eq_getElem hr]
  refine ⟨_, ds', ?_, List.getElem_mem hr, h'⟩
  simp only [List.length_cons, Int.natCast_add, Int.natCast_one] at e
  simp -dsimp -implicitDefEqProofs [someT, mkFn_run, callF, io, e, ha]
/-- .. from a lot of integers -/
theorem some_int {G : FnSem} (hG : SomeOk G) {ds : List D} (h : HandOk ds) (n : Int) (ns : List Int) (hl : ns.length < 999999) : ∃ (r : Int) (ds' : List D), G.run [.list ds, .list (.int n :: ns.map .int)] = .ok (.v (.int r), [ds']) ∧ r ∈ n :: ns ∧ HandOk ds' := by
  obtain ⟨d, ds', e, m, h'⟩ := hG h (x := .int n) (xs := ns.map .int) (by simp; omega)
  have : d ∈ (n :: ns).map PyData.int := m
  obtain ⟨r, hr, rfl⟩ := List.mem_map.mp this
  exact ⟨r, ds', e, hr, h'⟩
/-! ### likeness through and through -/
def isT : T := (.cons (.iff (.or (.bi .isTuple (.cons (.var 1) .nil)) (.bi .isList (.cons (.var 1) .nil))) (.cons (.iff (.or (.cmp .ne (.bi .isTuple (.cons (.var 1) .nil)) (.bi .isTuple (.cons (.var 0) .nil))) (.cmp .ne (.bi .isList (.cons (.var 1) .nil)) (.bi .isList (.cons (.var 0) .nil)))) (.cons (.ret (.bl false)) .nil) .nil) (.cons (.ret (.and (.cmp .eq (.bi .len (.cons (.var 0) .nil)) (.bi .len (.cons (.var 1) .nil))) (.bi .all (.cons (.lc (.gt (.cons (.gn 2) (.cons (.gn 3) .nil))) (.itz (.var 0) (.var 1)) .nil (.call 0 (.cons (.var 2) (.cons (.var 3) .nil))) [2, 3]) .nil)))) .nil)) .nil) (.cons (.iff (.or (.bi .isDict (.cons (.var 1) .nil)) (.bi .isDict (.cons (.var 0) .nil))) (.cons (.ret (.and (.bi .isDict (.cons (.var 1) .nil)) (.and (.bi .isDict (.cons (.var 0) .nil)) (.cmp .eq (.var 0) (.var 1))))) .nil) .nil) (.cons (.iff (.or (.cmp .is (.var 1) .non) (.cmp .is (.var 0) .non)) (.cons (.ret (.and (.cmp .is (.var 1) .non) (.cmp .is (.var 0) .non))) .nil) .nil) (.cons (.iff (.or (.bi .isBool (.cons (.var 1) .nil)) (.bi .isBool (.cons (.var 0) .nil))) (.cons (.ret (.and (.bi .isBool (.cons (.var 1) .nil)) (.and (.bi .isBool (.cons (.var 0) .nil)) (.cmp .eq (.var 0) (.var 1))))) .nil) .nil) (.cons (.iff (.or (.bi .isStr (.cons (.var 1) .nil)) (.bi .isStr (.cons (.var 0) .nil))) (.cons (.ret (.and (.bi .isStr (.cons (.var 1) .nil)) (.and (.bi .isStr (.cons (.var 0) .nil)) (.cmp .eq (.var 0) (.var 1))))) .nil) .nil) (.cons (.ret (.and (.bi .isInt (.cons (.var 0) .nil)) (.cmp .eq (.var 0) (.var 1)))) .nil))))))
section
variable (xs : List D) (a b : Int) (k : Bool) (s t : Str)
@[simp] theorem bi_isTuple_def (d : D) : biD .isTuple [d] = if isDictD d = true then .no else .ok (.v (.bool (isTupleD d))) := rfl
@[simp] theorem bi_isList_def (d : D) : biD .isList [d] = if isDictD d = true then .no else .ok (.v (.bool (isListD d))) := rfl
@[simp] theorem bi_isDict_def (d : D) : biD .isDict [d] = if isDictD d = true then .no else .ok (.v (.bool (isDictK d))) := rfl
@[simp] theorem bi_isBool_def (d : D) : biD .isBool [d] = if isDictD d = true then .no else .ok (.v (.bool (isBoolD d))) := rfl
@[simp] theorem bi_isInt_def (d : D) : biD .isInt [d] = if isDictD d = true then .no else .ok (.v (.bool (isIntD d))) := rfl
@[simp] theorem bi_isStr_def (d : D) : biD .isStr [d] = if isDictD d = true then .no else .ok (.v (.bool (isStrD d))) := rfl
@[simp] theorem dk_t : isDictD (.tuple xs) = false := rfl
@[simp] theorem dk_l : isDictD (.list xs) = false := rfl
@[simp] theorem dk_i : isDictD (.int a) = false := rfl
@[simp] theorem dk_b : isDictD (.bool k) = false := rfl
@[simp] theorem dk_s : isDictD (.str s) = false := rfl
@[simp] theorem dk_n : isDictD .none = false := rfl
@[simp] theorem dkk_t : isDictK (.tuple xs) = false := rfl
@[simp] theorem dkk_l : isDictK (.list xs) = false := rfl
@[simp] theorem dkk_i : isDictK (.int a) = false := rfl
@[simp] theorem dkk_b : isDictK (.bool k) = false := rfl
@[simp] theorem dkk_s : isDictK (.str s) = false := rfl
@[simp] theorem dkk_n : isDictK .none = false := rfl
@[simp] theorem tk_t : isTupleD (.tuple xs) = true := rfl
@[simp] theorem tk_l : isTupleD (.list xs) = false := rfl
@[simp] theorem tk_i : isTupleD (.int a) = false := rfl
@[simp] theorem tk_b : isTupleD (.bool k) = false := rfl
@[simp] theorem tk_s : isTupleD (.str s) = false := rfl
@[simp] theorem tk_n : isTupleD .none = false := rfl
@[simp] theorem lk_t : isListD (.tuple xs) = false := rfl
@[simp] theorem lk_l : isListD (.list xs) = true := rfl
@[simp] theorem lk_i : isListD (.int a) = false := rfl
@[simp] theorem lk_b : isListD (.bool k) = false := rfl
@[simp] theorem lk_s : isListD (.str s) = false := rfl
@[simp] theorem lk_n : isListD .none = false := rfl
@[simp] theorem bk_t : isBoolD (.tuple xs) = false := rfl
@[simp] theorem bk_l : isBoolD (.list xs) = false := rfl
@[simp] theorem bk_i : isBoolD (.int a) = false := rfl
@[simp] theorem bk_b : isBoolD (.bool k) = true := rfl
@[simp] theorem bk_s : isBoolD (.str s) = false := rfl
@[simp] theorem bk_n : isBoolD .none = false := rfl
@[simp] theorem ik_t : isIntD (.tuple xs) = false := rfl
@[simp] theorem ik_l : isIntD (.list xs) = false := rfl
@[simp] theorem ik_i : isIntD (.int a) = true := rfl
@[simp] theorem ik_b : isIntD (.bool k) = true := rfl
@[simp] theorem ik_s : isIntD (.str s) = false := rfl
@[simp] theorem ik_n : isIntD .none = false := rfl
@[simp] theorem sk_t : isStrD (.tuple xs) = false := rfl
@[simp] theorem sk_l : isStrD (.list xs) = false := rfl
@[simp] theorem sk_i : isStrD (.int a) = false := rfl
@[simp] theorem sk_b : isStrD (.bool k) = false := rfl
@[simp] theorem sk_s : isStrD (.str s) = true := rfl
@[simp] theorem sk_n : isStrD .none = false := rfl
@[simp] theorem isD_sn : isD (.str s) .none = .ok false := rfl
@[simp] theorem isD_bn : isD (.bool k) .none = .ok false := rfl
@[simp] theorem eqD_ss : eqD (.str s) (.str t) = .ok (decide (s = t)) := by
  rw [eqD_pl (pl_str _ _) (pl_str _ _)]
  simp
end
theorem zip_mem : ∀ {xs ys : List D} {d : D}, d ∈ zipL xs ys → ∃ x ∈ xs, ∃ y ∈ ys, d = .tuple [x, y]
  | [], _, d, h => by simp [zipL] at h
  | _ :: _, [], d, h => by simp [zipL] at h
  | x :: xs, y :: ys, d, h => by
    rcases List.mem_cons.mp h with rfl | h
    · exact ⟨x, List.mem_cons_self, y, List.mem_cons_self, rfl⟩
    · obtain ⟨x', hx, y', hy, e⟩ := zip_mem h
      exact ⟨x', List.mem_cons_of_mem _ hx, y', List.mem_cons_of_mem _ hy, e⟩
theorem zipL_le : ∀ (xs ys : List D), (zipL xs ys).length ≤ xs.length
  | [], ys => by simp [zipL]
  | x :: xs, [] => by simp [zipL]
  | x :: xs, y :: ys => by simp only [zipL, List.length_cons]; have := zipL_le xs ys; omega
noncomputable def sameF : D → Bool
  | .tuple [x, y] => decide (x = y)
  | _ => false
@[simp] theorem sameF_t (x y : D) : sameF (.tuple [x, y]) = decide (x = y) := rfl
/-- data of few levels, not too long -/
def sz : Nat → D → Bool
  | _, .none => true
  | _, .bool _ => true
  | _, .int _ => true
  | _, .str _ => true
  | n + 1, .list xs => decide (xs.length ≤ 1000000) && xs.all (sz n)
  | n + 1, .tuple xs => decide (xs.length ≤ 1000000) && xs.all (sz n)
  | _, _ => false
@[simp] theorem sz_int (n : Nat) (a : Int) : sz n (.int a) = true := by cases n <;> rfl
@[simp] theorem sz_bool (n : Nat) (a : Bool) : sz n (.bool a) = true := by cases n <;> rfl
@[simp] theorem sz_str (n : Nat) (a : Str) : sz n (.str a) = true := by cases n <;> rfl
@[simp] theorem sz_non (n : Nat) : sz n .none = true := by cases n <;> rfl
@[simp] theorem sz_tup (n : Nat) (xs : List D) : sz (n + 1) (.tuple xs) = (decide (xs.length ≤ 1000000) && xs.all (sz n)) := rfl
@[simp] theorem sz_lst (n : Nat) (xs : List D) : sz (n + 1) (.list xs) = (decide (xs.length ≤ 1000000) && xs.all (sz n)) := rfl
def IsOk (k : Nat) (F : FnSem) : Prop := F.inout = [false, false] ∧ ∀ {m : Nat} {a b : D}, shp m a = true → m ≤ 40 → sz k b = true → F.run [a, b] = .ok (.v (.bool (decide (a = b))), [])
theorem zip_same : ∀ (xs ys : List D), xs.length = ys.length → (zipL xs ys).all sameF = decide (xs = ys)
  | [], [], _ => by simp
  | [], _ :: _, h => by cases h
  | _ :: _, [], h => by cases h
  | x :: xs, y :: ys, h => by
    have := zip_same xs ys (by simpa using h)
    simp [this]
theorem is_next {k : Nat} {F : FnSem} (hF : k = 0 ∨ IsOk (k - 1) F) : IsOk k (mkFn (tbl [F]) [] [false, false] 4 isT) := by
  refine ⟨rfl, ?_⟩
  intro m a b ha hm hb
  have row : ∀ (w : List D → D) (xs ys : List D), (w = .tuple ∨ w = .list) → a = w xs → b = w ys → xs.length = ys.length →
      evE (tbl [F]) [] (.lc (.gt (.cons (.gn 2) (.cons (.gn 3) .nil))) (.itz (.var 0) (.var 1)) .nil (.call 0 (.cons (.var 2) (.cons (.var 3) .nil))) [2, 3]) [.val (w xs), .val (w ys), .no, .no] = .ok (.t ((zipL xs ys).map fun d => .bool (sameF d)), [.val (w xs), .val (w ys), .no, .no]) := by
    intro w xs ys hw ea eb hl
    have hk : 0 < k ∧ ys.length ≤ 1000000 ∧ ys.all (sz (k - 1)) = true := by
      subst eb
      cases k with
      | zero => rcases hw with rfl | rfl <;> cases hb
      | succ k =>
        have : (decide (ys.length ≤ 1000000) && ys.all (sz k)) = true := by rcases hw with rfl | rfl <;> exact hb
        rw [Bool.and_eq_true, decide_eq_true_iff] at this
        exact ⟨by omega, this⟩
    have hm' : 0 < m ∧ xs.all (shp (m - 1)) = true := by
      subst ea
      cases m with
      | zero => rcases hw with rfl | rfl <;> cases ha
      | succ m =>
        have : xs.all (shp m) = true := by rcases hw with rfl | rfl <;> exact ha
        exact ⟨by omega, this⟩
    refine evLcM (ds := zipL xs ys) (fun d => .bool (sameF d)) (by rcases hw with rfl | rfl <;> simp -dsimp -implicitDefEqProofs) (fun d hd => ?_) (by have := zipL_le xs ys; omega) rfl
    obtain ⟨x, hx, y, hy, rfl⟩ := zip_mem hd
    obtain ⟨io, r⟩ := hF.resolve_left (by omega)
    have e := r (List.all_eq_true.mp hm'.2 x hx) (by omega) (List.all_eq_true.mp hk.2.2 y hy)
    simp -dsimp -implicitDefEqProofs [lcTurn, callF, io, e]
  have done : ∀ (w : List D → D) (xs ys : List D), (w = .tuple ∨ w = .list) → a = w xs → b = w ys → xs.length = ys.length → (w xs = w ys ↔ xs = ys) → (mkFn (tbl [F]) [] [false, false] 4 isT).run [w xs, w ys] = .ok (.v (.bool (decide (w xs = w ys))), []) := by
    intro w xs ys hw ea eb hl hi
    have r := row w xs ys hw ea eb hl
    have z := zip_same xs ys hl
    rcases hw with rfl | rfl
    · simp -dsimp -implicitDefEqProofs [isT, mkFn_run, hl, r, bi_all_map, -bi_all_def, z]
    · simp -dsimp -implicitDefEqProofs [isT, mkFn_run, hl, r, bi_all_map, -bi_all_def, z]
  have ne : ∀ xs ys : List D, xs.length ≠ ys.length → xs ≠ ys := fun xs ys h e => h (by rw [e])
  cases b with
  | dict kv => cases k <;> cases hb
  | tuple ys =>
    cases a with
    | dict kv => cases m <;> cases ha
    | tuple xs =>
      by_cases hl : xs.length = ys.length
      · exact done .tuple xs ys (.inl rfl) rfl rfl hl (by simp)
      · have hz : ¬ ((xs.length : Int) = ys.length) := by omega
        simp -dsimp -implicitDefEqProofs [isT, mkFn_run, hz, ne xs ys hl]
    | _ => simp -dsimp -implicitDefEqProofs [isT, mkFn_run]
  | list ys =>
    cases a with
    | dict kv => cases m <;> cases ha
    | list xs =>
      by_cases hl : xs.length = ys.length
      · exact done .list xs ys (.inr rfl) rfl rfl hl (by simp)
      · have hz : ¬ ((xs.length : Int) = ys.length) := by omega
        simp -dsimp -implicitDefEqProofs [isT, mkFn_run, hz, ne xs ys hl]
    | _ => simp -dsimp -implicitDefEqProofs [isT, mkFn_run]
  | none =>
    cases a with
    | dict kv => cases m <;> cases ha
    | _ => simp -dsimp -implicitDefEqProofs [isT, mkFn_run]
  | int y =>
    cases a with
    | dict kv => cases m <;> cases ha
    | _ => simp -dsimp -implicitDefEqProofs [isT, mkFn_run]
  | bool y =>
    cases a with
    | dict kv => cases m <;> cases ha
    | bool x => simp -dsimp -implicitDefEqProofs [isT, mkFn_run]; cases x <;> cases y <;> rfl
    | _ => simp -dsimp -implicitDefEqProofs [isT, mkFn_run]
  | str y =>
    cases a with
    | dict kv => cases m <;> cases ha
    | _ => simp -dsimp -implicitDefEqProofs [isT, mkFn_run]
theorem is_base {F : FnSem} : IsOk 0 (mkFn (tbl [F]) [] [false, false] 4 isT) := is_next (.inl rfl)
/-! ### a block that returns -/
def RetsTo (Φ : Fns) (Γ : List D) (b : T) (σ : Sts) (Q : R → Sts → Prop) : Prop := ∃ r σ', evB Φ Γ b σ = .ok (.rt r, σ') ∧ Q r σ'
section
variable {Φ : Fns} {Γ : List D} {σ σ1 : Sts} {s r g b it : T} {Q : R → Sts → Prop} {d : D} {ds : List D}
theorem rs_step (h : evS Φ Γ s σ = .ok (.nx, σ1)) (k : RetsTo Φ Γ r σ1 Q) : RetsTo Φ Γ (.cons s r) σ Q := by
  obtain ⟨v, σ', e, q⟩ := k
  exact ⟨v, σ', seq_step h e, q⟩
theorem rs_ret {v : R} (h : evS Φ Γ s σ = .ok (.rt v, σ1)) (k : Q v σ1) : RetsTo Φ Γ (.cons s r) σ Q := ⟨v, σ1, seq_ret h, k⟩
theorem rs_for (P : Nat → Sts → Prop) (hi : evI Φ Γ it σ = .ok (ds, σ1)) (h0 : P 0 σ1) (h : ∀ i d σ, ds[i]? = some d → P i σ → ∃ σ', Fz.forTurn Φ Γ g b d σ = .ok (.nx, σ') ∧ P (i + 1) σ')
    (k : ∀ σ', P ds.length σ' → RetsTo Φ Γ r σ' Q) : RetsTo Φ Γ (.cons (.forr g it b) r) σ Q := by
  obtain ⟨σ', e, p⟩ := evFor (g := g) (b := b) P hi h0 h
  exact rs_step e (k σ' p)
/-- .. or returns within the loop -/
theorem rs_forR (P : Nat → Sts → Prop) (hi : evI Φ Γ it σ = .ok (ds, σ1)) (h0 : P 0 σ1)
    (h : ∀ i d σ, ds[i]? = some d → P i σ → (∃ σ', Fz.forTurn Φ Γ g b d σ = .ok (.nx, σ') ∧ P (i + 1) σ') ∨ ∃ v σ', Fz.forTurn Φ Γ g b d σ = .ok (.rt v, σ') ∧ Q v σ')
    (k : ∀ σ', P ds.length σ' → RetsTo Φ Γ r σ' Q) : RetsTo Φ Γ (.cons (.forr g it b) r) σ Q := by
  have main : ∀ (n : Nat) (σ : Sts), P n σ → n ≤ ds.length → (∃ σ', forLoop (Fz.forTurn Φ Γ g b) (ds.drop n) σ = .ok (.nx, σ') ∧ P ds.length σ') ∨ ∃ v σ', forLoop (Fz.forTurn Φ Γ g b) (ds.drop n) σ = .ok (.rt v, σ') ∧ Q v σ' := by
    intro n
    induction hk : ds.length - n generalizing n with
    | zero =>
      intro σ hp hn
      have e : n = ds.length := by omega
      subst e
      rw [List.drop_length]
      exact .inl ⟨σ, rfl, hp⟩
    | succ k ih =>
      intro σ hp hn
      have hlt : n < ds.length := by omega
      rw [List.drop_eq_getElem_cons hlt]
      rcases h n ds[n] σ (List.getElem?_eq_getElem hlt) hp with ⟨σ1, e1, p1⟩ | ⟨v, σ1, e1, q1⟩
      · rcases ih (n + 1) (by omega) σ1 p1 (by omega) with ⟨σ2, e2, p2⟩ | ⟨v, σ2, e2, q2⟩
        · exact .inl ⟨σ2, by simp only [forLoop, e1, bind_ok']; exact e2, p2⟩
        · exact .inr ⟨v, σ2, by simp only [forLoop, e1, bind_ok']; exact e2, q2⟩
      · exact .inr ⟨v, σ1, by simp only [forLoop, e1, bind_ok'], q1⟩
  have := main 0 σ1 h0 (Nat.zero_le _)
  rw [List.drop_zero] at this
  rcases this with ⟨σ', e, p⟩ | ⟨v, σ', e, q⟩
  · exact rs_step (by simp only [evS_forr', hi, bind_ok', e]) (k σ' p)
  · exact rs_ret (by simp only [evS_forr', hi, bind_ok', e]) q
theorem rs_whl {c : T} (P : Nat → Sts → Prop) (R : Sts → Prop) {n : Nat} (hn : n < 1000000000000) (h0 : P n σ)
    (step : ∀ n σ, P n σ → (∃ σ1, evT Φ Γ c σ = .ok (false, σ1) ∧ R σ1) ∨ ∃ σ1 σ2 m, evT Φ Γ c σ = .ok (true, σ1) ∧ evB Φ Γ b σ1 = .ok (.nx, σ2) ∧ m < n ∧ P m σ2)
    (k : ∀ σ', R σ' → RetsTo Φ Γ r σ' Q) : RetsTo Φ Γ (.cons (.whl c b) r) σ Q := by
  obtain ⟨σ', e, p⟩ := evWhl (Φ := Φ) (Γ := Γ) (c := c) (b := b) P R hn h0 step
  exact rs_step e (k σ' p)
theorem rt_whl {c : T} {Q : Sts → Prop} (P : Nat → Sts → Prop) (R : Sts → Prop) {n : Nat} (hn : n < 1000000000000) (h0 : P n σ)
    (step : ∀ n σ, P n σ → (∃ σ1, evT Φ Γ c σ = .ok (false, σ1) ∧ R σ1) ∨ ∃ σ1 σ2 m, evT Φ Γ c σ = .ok (true, σ1) ∧ evB Φ Γ b σ1 = .ok (.nx, σ2) ∧ m < n ∧ P m σ2)
    (k : ∀ σ', R σ' → RunsTo Φ Γ r σ' Q) : RunsTo Φ Γ (.cons (.whl c b) r) σ Q := by
  obtain ⟨σ', e, p⟩ := evWhl (Φ := Φ) (Γ := Γ) (c := c) (b := b) P R hn h0 step
  exact rt_step e (k σ' p)
theorem fn_rets {io : List Bool} {n : Nat} {as : List D} {Q : R × List (List D) → Prop} (hl : as.length = io.length)
    (h : RetsTo Φ Γ b (startD io as ++ List.replicate (n - io.length) .no) fun r σ' => ∃ out, ((retR (protOf 0 io) σ' r).bind fun r => (outsOf (protOf 0 io) σ').bind fun os => Res.ok (r, os)) = .ok out ∧ Q out) : ∃ out, (mkFn Φ Γ io n b).run as = .ok out ∧ Q out := by
  obtain ⟨r, σ', e, out, e2, q⟩ := h
  refine ⟨out, ?_, q⟩
  rw [mkFn_run, if_pos hl, e]
  exact e2
end
/-! ### comprehensions over lists of any kind -/
theorem evLcA {Φ : Fns} {Γ : List D} {σ σ1 : Sts} {g it c e : T} {own : List Nat} {α : Type} {xs : List α} {f : α → D} (h : α → Option D) (hi : evI Φ Γ it σ = .ok (xs.map f, σ1))
    (hb : ∀ x ∈ xs, lcTurn Φ Γ g c e own (f x) (wipeD σ1 own) = .ok (h x, wipeD σ1 own)) (hl : xs.length ≤ 16777216) (hu : unwipe σ1 own (wipeD σ1 own) = σ1) : evE Φ Γ (.lc g it c e own) σ = .ok (.t (xs.filterMap h), σ1) := by
  have main : ∀ (xs : List α) (acc : List D), (∀ x ∈ xs, lcTurn Φ Γ g c e own (f x) (wipeD σ1 own) = .ok (h x, wipeD σ1 own)) → lcLoop (lcTurn Φ Γ g c e own) (xs.map f) (wipeD σ1 own) acc = .ok (acc ++ xs.filterMap h, wipeD σ1 own) := by
    intro xs
    induction xs with
    | nil => intro acc _; simp [lcLoop]
    | cons x xs ih =>
      intro acc hb
      have h1 := hb x List.mem_cons_self
      have h2 := fun acc => ih acc fun y hy => hb y (List.mem_cons_of_mem _ hy)
      simp only [List.map_cons, lcLoop, h1, bind_ok', List.filterMap_cons]
      cases h x with
      | none => exact h2 acc
      | some y => exact (h2 (acc ++ [y])).trans (by simp)
  have hl' : (xs.filterMap h).length ≤ sizeL := Nat.le_trans (List.length_filterMap_le _ _) hl
  simp only [evE_lc', hi, bind_ok', main xs [] hb, List.nil_append, hl', if_true, hu]
theorem evLcAM {Φ : Fns} {Γ : List D} {σ σ1 : Sts} {g it c e : T} {own : List Nat} {α : Type} {xs : List α} {f : α → D} (h : α → D) (hi : evI Φ Γ it σ = .ok (xs.map f, σ1))
    (hb : ∀ x ∈ xs, lcTurn Φ Γ g c e own (f x) (wipeD σ1 own) = .ok (some (h x), wipeD σ1 own)) (hl : xs.length ≤ 16777216) (hu : unwipe σ1 own (wipeD σ1 own) = σ1) : evE Φ Γ (.lc g it c e own) σ = .ok (.t (xs.map h), σ1) := by
  have := evLcA (fun x => some (h x)) hi hb hl hu
  simpa using this
theorem zipL_map {α : Type} (f g : α → D) : ∀ xs : List α, zipL (xs.map f) (xs.map g) = xs.map fun x => .tuple [f x, g x]
  | [] => rfl
  | x :: xs => by simp [zipL_map f g xs]
theorem enum_at : ∀ {n : Nat} {xs : List D} {i : Nat} {d : D}, (enumL n xs)[i]? = some d → ∃ x, xs[i]? = some x ∧ d = .tuple [.int ((n + i : Nat) : Int), x]
  | n, [], i, d, h => by simp [enumL] at h
  | n, x :: xs, 0, d, h => by
    simp only [enumL, List.getElem?_cons_zero, Option.some.injEq] at h
    exact ⟨x, rfl, h.symm⟩
  | n, x :: xs, i + 1, d, h => by
    simp only [enumL, List.getElem?_cons_succ] at h
    obtain ⟨y, h1, h2⟩ := enum_at h
    exact ⟨y, by simpa using h1, by rw [h2]; congr 3; omega⟩
@[simp] theorem enumLen : ∀ (n : Nat) (xs : List D), (enumL n xs).length = xs.length
  | _, [] => rfl
  | n, x :: xs => by unfold enumL; rw [List.length_cons, List.length_cons, enumLen]
/-! ### all turns right -/
theorem turns_ok {Φ : Fns} {Γ : List D} {f : Nat} (io : (Φ f).inout = [true]) (hR : ∀ ds, HandOk ds → ∃ ds', (Φ f).run [.list ds] = .ok (.v (.bool true), [ds']) ∧ HandOk ds') (m : Int) (hm : 0 ≤ m) (hn : m < 1000000) {ds : List D} (h : HandOk ds) (s0 : Slot) (rest : Sts) :
    ∃ ds', evE Φ Γ (.lc (.gn 2) (.itr (.cons (.int m) .nil)) .nil (.call f (.cons (.var 1) .nil)) [2]) (s0 :: .own ds :: .no :: rest) = .ok (.t (List.replicate m.toNat (.bool true)), s0 :: .own ds' :: .no :: rest) ∧ HandOk ds' := by
  obtain ⟨acc, σ', e, ds', hds, ea, rfl⟩ := evLcInv (Φ := Φ) (Γ := Γ) (g := .gn 2) (it := .itr (.cons (.int m) .nil)) (c := .nil) (e := .call f (.cons (.var 1) .nil)) (own := [2]) (ds := rng 0 m.toNat) (σ := s0 :: .own ds :: .no :: rest) (σ1 := s0 :: .own ds :: .no :: rest)
    (fun i acc σ => ∃ ds, HandOk ds ∧ acc = List.replicate i (.bool true) ∧ σ = s0 :: .own ds :: .no :: rest) (by
      have z : rngOk m := ⟨by omega, by omega⟩
      simp -dsimp -implicitDefEqProofs [z]) ⟨ds, h, rfl, rfl⟩ (by
      rintro i x acc σ hx ⟨ds, h, rfl, rfl⟩
      obtain ⟨ds', e, h'⟩ := hR ds h
      refine ⟨some (.bool true), s0 :: .own ds' :: .no :: rest, ?_, ds', h', by simp [List.replicate_succ'], rfl⟩
      simp -dsimp -implicitDefEqProofs [lcTurn, callF, io, e]) (by
      rintro acc σ ⟨ds, h, rfl, rfl⟩
      rw [List.length_replicate, rng_length]
      omega)
  refine ⟨ds', ?_, hds⟩
  rw [rng_length] at ea
  rw [e, ea]
  rfl
theorem all_rep (n : Nat) : biD .all [.list (List.replicate n (.bool true))] = .ok (.v (.bool true)) := by
  have := bi_all_map (fun _ : Nat => true) (List.range n)
  simp only [List.map_const', List.length_range] at this
  rw [this]
  simp
theorem IsOk.at {k : Nat} {F : FnSem} (h : IsOk k F) {a b : D} (ha : shp 40 a = true) (hb : sz k b = true) : F.run [a, b] = .ok (.v (.bool (decide (a = b))), []) := h.2 ha (Nat.le_refl _) hb
theorem sz_shp : ∀ (n : Nat) (d : D), sz n d = true → shp n d = true := by
  intro n
  induction n with
  | zero => intro d h; cases d <;> first | rfl | cases h
  | succ n ih =>
    have all : ∀ xs : List D, xs.all (sz n) = true → xs.all (shp n) = true := fun xs h => by
      rw [List.all_eq_true] at h ⊢
      exact fun x hx => ih x (h x hx)
    intro d h
    cases d with
    | list xs => exact all xs (Bool.and_eq_true_iff.mp h).2
    | tuple xs => exact all xs (Bool.and_eq_true_iff.mp h).2
    | dict kvs => cases h
    | _ => rfl
theorem shp_succ : ∀ (n : Nat) (d : D), shp n d = true → shp (n + 1) d = true := by
  intro n
  induction n with
  | zero => intro d h; cases d <;> first | rfl | cases h
  | succ n ih =>
    have all : ∀ xs : List D, xs.all (shp n) = true → xs.all (shp (n + 1)) = true := fun xs h => by
      rw [List.all_eq_true] at h ⊢
      exact fun x hx => ih x (h x hx)
    intro d h
    cases d with
    | list xs => exact all xs h
    | tuple xs => exact all xs h
    | dict kvs => cases h
    | _ => rfl
theorem shp_le {n m : Nat} (h : n ≤ m) {d : D} (hd : shp n d = true) : shp m d = true := by
  induction m with
  | zero => have : n = 0 := by omega
            subst this; exact hd
  | succ m ih =>
    by_cases e : n = m + 1
    · subst e; exact hd
    · exact shp_succ m d (ih (by omega))
theorem IsOk.self {k : Nat} {F : FnSem} (h : IsOk k F) (hk : k ≤ 40) {a : D} (ha : sz k a = true) : F.run [a, a] = .ok (.v (.bool true), []) := by
  rw [h.at (shp_le hk (sz_shp k a ha)) ha]
  simp
/-! ### parts of lists -/
theorem cut_take {α : Type} (xs : List α) (n : Nat) : cutD xs none (some (n : Int)) = xs.take n := by
  unfold cutD sEnd
  simp only [List.drop_zero, Nat.sub_zero]
  rw [if_pos (Int.natCast_nonneg n), Int.toNat_natCast, List.take_eq_take_iff]
  omega
theorem cut_drop {α : Type} (xs : List α) (n : Nat) : cutD xs (some (n : Int)) none = xs.drop n := by
  unfold cutD sEnd
  simp only []
  rw [if_pos (Int.natCast_nonneg n), Int.toNat_natCast]
  rcases Nat.le_total n xs.length with h | h
  · rw [Nat.min_eq_left h]
    exact List.take_of_length_le (by rw [List.length_drop]; omega)
  · rw [Nat.min_eq_right h, Nat.sub_self, List.take_zero, List.drop_of_length_le h]
theorem cut1 {α : Type} (xs : List α) : cutD xs none (some 1) = xs.take 1 := cut_take xs 1
theorem cut2 {α : Type} (xs : List α) : cutD xs none (some 2) = xs.take 2 := cut_take xs 2
theorem tail1 {α : Type} (xs : List α) : cutD xs (some 1) none = xs.drop 1 := cut_drop xs 1
theorem tail2 {α : Type} (xs : List α) : cutD xs (some 2) none = xs.drop 2 := cut_drop xs 2
/-! ### the least and the greatest of integers -/
theorem alike_ints {α : Type} (f : α → Int) (l : List α) : AlikeB (l.map fun x => PyData.int (f x)) = true := by
  unfold AlikeB
  rw [Bool.and_eq_true, List.all_eq_true, List.all_eq_true]
  constructor
  · intro x hx
    rw [List.all_eq_true]
    intro y hy
    obtain ⟨a, _, rfl⟩ := List.mem_map.mp hx
    obtain ⟨b, _, rfl⟩ := List.mem_map.mp hy
    simp [PySem.W.alike]
  · intro x hx
    obtain ⟨a, _, rfl⟩ := List.mem_map.mp hx
    simp [isNoneD]
theorem fold_min (l : List Int) : ∀ n : Int, l.foldl min n ≤ n ∧ (∀ x ∈ l, l.foldl min n ≤ x) ∧ (l.foldl min n = n ∨ l.foldl min n ∈ l) := by
  induction l with
  | nil => intro n; simp
  | cons a l ih =>
    intro n
    obtain ⟨h1, h2, h3⟩ := ih (min n a)
    rw [List.foldl_cons]
    refine ⟨by omega, fun x hx => ?_, ?_⟩
    · rcases List.mem_cons.mp hx with rfl | hx
      · omega
      · exact h2 x hx
    · rcases h3 with h3 | h3
      · rw [h3]
        rcases Int.le_total n a with z | z
        · left; omega
        · right; rw [Int.min_eq_right z]; exact List.mem_cons_self
      · exact .inr (List.mem_cons_of_mem _ h3)
theorem fold_max (l : List Int) : ∀ n : Int, n ≤ l.foldl max n ∧ (∀ x ∈ l, x ≤ l.foldl max n) ∧ (l.foldl max n = n ∨ l.foldl max n ∈ l) := by
  induction l with
  | nil => intro n; simp
  | cons a l ih =>
    intro n
    obtain ⟨h1, h2, h3⟩ := ih (max n a)
    rw [List.foldl_cons]
    refine ⟨by omega, fun x hx => ?_, ?_⟩
    · rcases List.mem_cons.mp hx with rfl | hx
      · omega
      · exact h2 x hx
    · rcases h3 with h3 | h3
      · rw [h3]
        rcases Int.le_total a n with z | z
        · left; omega
        · right; rw [Int.max_eq_right z]; exact List.mem_cons_self
      · exact .inr (List.mem_cons_of_mem _ h3)
theorem bi_min_map {α : Type} (f : α → Int) (l : List α) (hl : l ≠ []) : ∃ m, biD .min1 [.list (l.map fun x => .int (f x))] = .ok (.v (.int m)) ∧ biD .min1 [.tuple (l.map fun x => .int (f x))] = .ok (.v (.int m)) ∧ (∀ x ∈ l, m ≤ f x) ∧ ∃ x ∈ l, f x = m := by
  cases l with
  | nil => exact absurd rfl hl
  | cons a l =>
    have ha := alike_ints f (a :: l)
    have e : PySem.W.minD (.int (f a)) (l.map fun x => .int (f x)) = .int ((l.map f).foldl min (f a)) := by
      have := PySem.W.minD_ints (f a) (l.map f)
      rwa [List.map_map] at this
    obtain ⟨h1, h2, h3⟩ := fold_min (l.map f) (f a)
    refine ⟨(l.map f).foldl min (f a), ?_, ?_, fun x hx => ?_, ?_⟩
    · simp only [List.map_cons] at ha ⊢
      simp only [biD, items, ha, if_true, e]
    · simp only [List.map_cons] at ha ⊢
      simp only [biD, items, ha, if_true, e]
    · rcases List.mem_cons.mp hx with rfl | hx
      · exact h1
      · exact h2 _ (List.mem_map.mpr ⟨x, hx, rfl⟩)
    · rcases h3 with h3 | h3
      · exact ⟨a, List.mem_cons_self, h3.symm⟩
      · obtain ⟨x, hx, e⟩ := List.mem_map.mp h3
        exact ⟨x, List.mem_cons_of_mem _ hx, e⟩
theorem bi_max_map {α : Type} (f : α → Int) (l : List α) (hl : l ≠ []) : ∃ m, biD .max1 [.list (l.map fun x => .int (f x))] = .ok (.v (.int m)) ∧ biD .max1 [.tuple (l.map fun x => .int (f x))] = .ok (.v (.int m)) ∧ (∀ x ∈ l, f x ≤ m) ∧ ∃ x ∈ l, f x = m := by
  cases l with
  | nil => exact absurd rfl hl
  | cons a l =>
    have ha := alike_ints f (a :: l)
    have e : PySem.W.maxD (.int (f a)) (l.map fun x => .int (f x)) = .int ((l.map f).foldl max (f a)) := by
      have := PySem.W.maxD_ints (f a) (l.map f)
      rwa [List.map_map] at this
    obtain ⟨h1, h2, h3⟩ := fold_max (l.map f) (f a)
    refine ⟨(l.map f).foldl max (f a), ?_, ?_, fun x hx => ?_, ?_⟩
    · simp only [List.map_cons] at ha ⊢
      simp only [biD, items, ha, if_true, e]
    · simp only [List.map_cons] at ha ⊢
      simp only [biD, items, ha, if_true, e]
    · rcases List.mem_cons.mp hx with rfl | hx
      · exact h1
      · exact h2 _ (List.mem_map.mpr ⟨x, hx, rfl⟩)
    · rcases h3 with h3 | h3
      · exact ⟨a, List.mem_cons_self, h3.symm⟩
      · obtain ⟨x, hx, e⟩ := List.mem_map.mp h3
        exact ⟨x, List.mem_cons_of_mem _ hx, e⟩
@[simp] theorem eqD_3 (a b c x y z : Int) : eqD (.tuple [.int a, .int b, .int c]) (.tuple [.int x, .int y, .int z]) = .ok (decide (a = x) && (decide (b = y) && decide (c = z))) := by
  rw [eqD_pl (by simp) (by simp)]
  simp
theorem turns_okF {Φ : Fns} {Γ : List D} {c : T} {t : Nat} (f : List D → Sts) (m : Int) (hi : ∀ ds, evI Φ Γ (.itr (.cons (.int m) .nil)) (f ds) = .ok (rng 0 m.toNat, f ds)) (hn : m < 1000000) (hw : ∀ ds, wipeD (f ds) [t] = f ds) (hu : ∀ a b, unwipe (f a) [t] (f b) = f b)
    (hR : ∀ ds d, HandOk ds → ∃ ds', lcTurn Φ Γ (.gn t) .nil c [t] d (f ds) = .ok (some (.bool true), f ds') ∧ HandOk ds') {ds : List D} (h : HandOk ds) :
    ∃ ds', evE Φ Γ (.lc (.gn t) (.itr (.cons (.int m) .nil)) .nil c [t]) (f ds) = .ok (.t (List.replicate m.toNat (.bool true)), f ds') ∧ HandOk ds' := by
  obtain ⟨acc, σ', e, ds', hds, ea, rfl⟩ := evLcInv (Φ := Φ) (Γ := Γ) (g := .gn t) (it := .itr (.cons (.int m) .nil)) (c := .nil) (e := c) (own := [t]) (ds := rng 0 m.toNat) (σ := f ds) (σ1 := f ds)
    (fun i acc σ => ∃ ds, HandOk ds ∧ acc = List.replicate i (.bool true) ∧ σ = f ds) (hi ds) ⟨ds, h, rfl, hw ds⟩ (by
      rintro i x acc σ hx ⟨ds, h, rfl, rfl⟩
      obtain ⟨ds', e, h'⟩ := hR ds x h
      exact ⟨some (.bool true), f ds', e, ds', h', by simp [List.replicate_succ'], rfl⟩) (by
      rintro acc σ ⟨ds, h, rfl, rfl⟩
      rw [List.length_replicate, rng_length]
      omega)
  refine ⟨ds', ?_, hds⟩
  rw [rng_length] at ea
  rw [e, ea, hu]
/-- a loop that comes to its end, or returns -/
theorem evForR {Φ : Fns} {Γ : List D} {σ σ1 : Sts} {g b it : T} {Q : R → Sts → Prop} {ds : List D} (P : Nat → Sts → Prop) (hi : evI Φ Γ it σ = .ok (ds, σ1)) (h0 : P 0 σ1)
    (h : ∀ i d σ, ds[i]? = some d → P i σ → (∃ σ', Fz.forTurn Φ Γ g b d σ = .ok (.nx, σ') ∧ P (i + 1) σ') ∨ ∃ v σ', Fz.forTurn Φ Γ g b d σ = .ok (.rt v, σ') ∧ Q v σ') :
    (∃ σ', evS Φ Γ (.forr g it b) σ = .ok (.nx, σ') ∧ P ds.length σ') ∨ ∃ v σ', evS Φ Γ (.forr g it b) σ = .ok (.rt v, σ') ∧ Q v σ' := by
  have main : ∀ (n : Nat) (σ : Sts), P n σ → n ≤ ds.length → (∃ σ', forLoop (Fz.forTurn Φ Γ g b) (ds.drop n) σ = .ok (.nx, σ') ∧ P ds.length σ') ∨ ∃ v σ', forLoop (Fz.forTurn Φ Γ g b) (ds.drop n) σ = .ok (.rt v, σ') ∧ Q v σ' := by
    intro n
    induction hk : ds.length - n generalizing n with
    | zero =>
      intro σ hp hn
      have e : n = ds.length := by omega
      subst e
      rw [List.drop_length]
      exact .inl ⟨σ, rfl, hp⟩
    | succ k ih =>
      intro σ hp hn
      have hlt : n < ds.length := by omega
      rw [List.drop_eq_getElem_cons hlt]
      rcases h n ds[n] σ (List.getElem?_eq_getElem hlt) hp with ⟨σ1, e1, p1⟩ | ⟨v, σ1, e1, q1⟩
      · rcases ih (n + 1) (by omega) σ1 p1 (by omega) with ⟨σ2, e2, p2⟩ | ⟨v, σ2, e2, q2⟩
        · exact .inl ⟨σ2, by simp only [forLoop, e1, bind_ok']; exact e2, p2⟩
        · exact .inr ⟨v, σ2, by simp only [forLoop, e1, bind_ok']; exact e2, q2⟩
      · exact .inr ⟨v, σ1, by simp only [forLoop, e1, bind_ok'], q1⟩
  have := main 0 σ1 h0 (Nat.zero_le _)
  rw [List.drop_zero] at this
  rcases this with ⟨σ', e, p⟩ | ⟨v, σ', e, q⟩
  · exact .inl ⟨σ', by simp only [evS_forr', hi, bind_ok', e], p⟩
  · exact .inr ⟨v, σ', by simp only [evS_forr', hi, bind_ok', e], q⟩
theorem turn_ret {Φ : Fns} {Γ : List D} {σ σ1 σ' : Sts} {g s r : T} {d : D} {v : R} (h : stD g d σ = .ok σ1) (k : evS Φ Γ s σ1 = .ok (.rt v, σ')) : Fz.forTurn Φ Γ g (.cons s r) d σ = .ok (.rt v, σ') := turn_step h (seq_ret k)
theorem turn_one {Φ : Fns} {Γ : List D} {σ σ1 σ' : Sts} {g s : T} {d : D} (h : stD g d σ = .ok σ1) (k : evS Φ Γ s σ1 = .ok (.nx, σ')) : Fz.forTurn Φ Γ g (.cons s .nil) d σ = .ok (.nx, σ') := turn_step h (seq_step k seq_nil)
theorem rng_atI {lo hi : Int} {i : Nat} {d : D} (h : (rng lo (hi - lo).toNat)[i]? = some d) : lo + (i : Int) < hi ∧ d = .int (lo + (i : Int)) := by
  obtain ⟨h1, h2⟩ := rng_at h
  exact ⟨by omega, h2⟩
section
variable {Φ : Fns} {Γ : List D} {σ σ1 : Sts} {c a b r : T}
theorem rs_ift {Q : R → Sts → Prop} (h : evT Φ Γ c σ = .ok (true, σ1)) (k : RetsTo Φ Γ a σ1 Q) : RetsTo Φ Γ (.cons (.iff c a b) r) σ Q := by
  obtain ⟨v, σ', e, q⟩ := k
  exact ⟨v, σ', seq_ret (by rw [evS_iff, h]; exact e), q⟩
theorem rs_iff {Q : R → Sts → Prop} (h : evT Φ Γ c σ = .ok (false, σ1)) (k : RetsTo Φ Γ r σ1 Q) : RetsTo Φ Γ (.cons (.iff c a .nil) r) σ Q := by
  obtain ⟨v, σ', e, q⟩ := k
  exact ⟨v, σ', seq_step (by rw [evS_iff, h]; exact (seq_nil : evB Φ Γ .nil σ1 = _)) e, q⟩
theorem rt_ift {Q : Sts → Prop} (h : evT Φ Γ c σ = .ok (true, σ1)) (k : RunsTo Φ Γ a σ1 fun σ => RunsTo Φ Γ r σ Q) : RunsTo Φ Γ (.cons (.iff c a b) r) σ Q := by
  obtain ⟨σ2, e, σ3, e2, q⟩ := k
  exact ⟨σ3, seq_step (by rw [evS_iff, h]; exact e) e2, q⟩
theorem rt_ife {Q : Sts → Prop} (h : evT Φ Γ c σ = .ok (false, σ1)) (k : RunsTo Φ Γ b σ1 fun σ => RunsTo Φ Γ r σ Q) : RunsTo Φ Γ (.cons (.iff c a b) r) σ Q := by
  obtain ⟨σ2, e, σ3, e2, q⟩ := k
  exact ⟨σ3, seq_step (by rw [evS_iff, h]; exact e) e2, q⟩
end
theorem rng0_mem {n : Nat} {d : D} (h : d ∈ rng 0 n) : ∃ i : Nat, i < n ∧ d = .int (i : Int) := by
  obtain ⟨i, hi, rfl⟩ := rng_mem h
  exact ⟨i, hi, by rw [Int.zero_add]⟩
/-! ### sorted integers -/
theorem dataLe_i (a b : Int) : PySem.W.dataLe false id (PyData.int a) (PyData.int b) = decide (a ≤ b) := by
  have e := congrFun (congrFun (PySem.W.dataLe_int (fun x : Int => x)) a) b
  rw [PySem.W.dataLe_eq] at e ⊢
  exact e
theorem bi_sorted_ints (l : List Int) : biD .sorted [.list (l.map .int)] = .ok (.t ((l.mergeSort fun a b => decide (a ≤ b)).map .int)) := by
  have h1 : AlikeB (l.map .int) = true := alike_ints (fun x : Int => x) l
  have h2 : SortB (l.map PyData.int) = true := by
    unfold SortB
    rw [Bool.or_eq_true]
    right
    rw [List.all_eq_true]
    intro x hx
    obtain ⟨a, _, rfl⟩ := List.mem_map.mp hx
    rfl
  have e := List.map_mergeSort (r := fun a b : Int => decide (a ≤ b)) (s := PySem.W.dataLe false id) (f := PyData.int) (l := l) fun a _ b _ => (dataLe_i a b).symm
  rw [e]
  simp only [biD, h1, h2, and_self, if_true]
theorem sort_nat (l : List Nat) : ((l.map fun n : Nat => (n : Int)).mergeSort fun a b => decide (a ≤ b)) = (l.mergeSort fun a b => decide (a ≤ b)).map fun n : Nat => (n : Int) := by
  refine (List.map_mergeSort fun a _ b _ => ?_).symm
  rw [decide_eq_decide]
  omega
theorem bi_sorted_nats (l : List Nat) : biD .sorted [.list (l.map fun n : Nat => .int (n : Int))] = .ok (.t ((l.mergeSort fun a b => decide (a ≤ b)).map fun n : Nat => .int (n : Int))) := by
  have := bi_sorted_ints (l.map fun n : Nat => (n : Int))
  rw [List.map_map, sort_nat, List.map_map] at this
  exact this
/-- ascending lists of the same numbers -/
theorem asc_ext : ∀ {l m : List Nat}, l.Pairwise (· < ·) → m.Pairwise (· < ·) → (∀ x, x ∈ l ↔ x ∈ m) → l = m
  | [], [], _, _, _ => rfl
  | [], y :: m, _, _, h => by have := (h y).mpr List.mem_cons_self; simp at this
  | x :: l, [], _, _, h => by have := (h x).mp List.mem_cons_self; simp at this
  | x :: l, y :: m, hl, hm, h => by
    have h1 := List.pairwise_cons.mp hl
    have h2 := List.pairwise_cons.mp hm
    have hxy : x = y := by
      have a := (h x).mp List.mem_cons_self
      have b := (h y).mpr List.mem_cons_self
      rcases List.mem_cons.mp a with a | a
      · exact a
      · rcases List.mem_cons.mp b with b | b
        · exact b.symm
        · have := h1.1 y b
          have := h2.1 x a
          omega
    subst hxy
    congr 1
    refine asc_ext h1.2 h2.2 fun z => ?_
    constructor
    · intro hz
      rcases List.mem_cons.mp ((h z).mp (List.mem_cons_of_mem _ hz)) with rfl | hz'
      · have := h1.1 z hz; omega
      · exact hz'
    · intro hz
      rcases List.mem_cons.mp ((h z).mpr (List.mem_cons_of_mem _ hz)) with rfl | hz'
      · have := h2.1 z hz; omega
      · exact hz'
theorem sort_asc {l : List Nat} (h : l.Nodup) : (l.mergeSort fun a b => decide (a ≤ b)).Pairwise (· < ·) := by
  have p := List.mergeSort_perm l fun a b => decide (a ≤ b)
  have nd := p.nodup_iff.mpr h
  have s := List.pairwise_mergeSort (le := fun a b : Nat => decide (a ≤ b)) (fun a b c h1 h2 => by simp at *; omega) (fun a b => by simp; omega) l
  generalize l.mergeSort (fun a b => decide (a ≤ b)) = m at *
  induction m with
  | nil => exact .nil
  | cons x m ih =>
    have n1 := List.nodup_cons.mp nd
    have s1 := List.pairwise_cons.mp s
    have ih' : m.Pairwise (· < ·) := by
      clear ih p
      have : ∀ m : List Nat, m.Nodup → m.Pairwise (fun a b => decide (a ≤ b) = true) → m.Pairwise (· < ·) := by
        intro m
        induction m with
        | nil => intro _ _; exact .nil
        | cons y m ih =>
          intro n s
          have n2 := List.nodup_cons.mp n
          have s2 := List.pairwise_cons.mp s
          refine List.pairwise_cons.mpr ⟨fun z hz => ?_, ih n2.2 s2.2⟩
          have := of_decide_eq_true (s2.1 z hz)
          have : y ≠ z := fun e => n2.1 (e ▸ hz)
          omega
      exact this m n1.2 s1.2
    refine List.pairwise_cons.mpr ⟨fun z hz => ?_, ih'⟩
    have := of_decide_eq_true (s1.1 z hz)
    have : x ≠ z := fun e => n1.1 (e ▸ hz)
    omega
theorem fm_len {α β : Type} (p : α → Bool) (g : α → β) (l : List α) : (l.filterMap fun x => if p x = true then some (g x) else none).length = (l.filter p).length := by
  induction l with
  | nil => rfl
  | cons x l ih =>
    rw [List.filterMap_cons, List.filter_cons]
    by_cases h : p x = true <;> simp [h, ih]
theorem rng0_eq (n : Nat) : rng 0 n = (List.range n).map fun j : Nat => .int (j : Int) := by
  unfold rng
  refine List.map_congr_left fun k _ => ?_
  rw [Int.zero_add]
/-! ### tuples of integers, by order -/
def lxI : List Int → List Int → Bool
  | [], [] => false
  | [], _ :: _ => true
  | _ :: _, [] => false
  | x :: xs, y :: ys => if x = y then lxI xs ys else decide (x < y)
theorem lxI_cons (x y : Int) (xs ys : List Int) : lxI (x :: xs) (y :: ys) = if x = y then lxI xs ys else decide (x < y) := rfl
def itD (xs : List Int) : D := .tuple (xs.map .int)
theorem alikeAll_ints : ∀ (xs ys : List Int), PySem.W.alikeAll (xs.map .int) (ys.map .int) = true
  | [], _ => by simp [PySem.W.alikeAll]
  | _ :: _, [] => by simp [PySem.W.alikeAll]
  | x :: xs, y :: ys => by
    rw [List.map_cons, List.map_cons, PySem.W.alikeAll, alikeAll_ints xs ys]
    rfl
theorem lexLt_ints : ∀ (xs ys : List Int), PyProof.Rows.lexLt PyProof.Rows.itemOrd (PySem.W.keyToksAll (xs.map .int)) (PySem.W.keyToksAll (ys.map .int)) = lxI xs ys
  | [], [] => by simp [PySem.W.keyToksAll, PyProof.Rows.lexLt, PyProof.Rows.itemOrd, lxI, PyProof.Rows.itemLt]
  | [], y :: ys => rfl
  | x :: xs, [] => rfl
  | x :: xs, y :: ys => by
    rw [List.map_cons, List.map_cons, lxI_cons]
    by_cases h : x = y
    · subst h
      rw [PySem.W.dataLt_all_yes (x := .int x) (y := .int x) rfl (by simp [PyData.eqv]), lexLt_ints xs ys, if_pos rfl]
    · rw [PySem.W.dataLt_all_no (x := .int x) (y := .int y) rfl (by simp [PyData.eqv, h]), PySem.W.dataLt_int, if_neg h]
theorem ltD_ints (xs ys : List Int) : ltD (itD xs) (itD ys) = .ok (lxI xs ys) := by
  have h1 : PySem.W.alike (itD xs) (itD ys) = true := by
    unfold itD
    rw [PySem.W.alike]
    exact alikeAll_ints xs ys
  have h2 : ∀ zs : List Int, shp 40 (itD zs) = true := fun zs => by simp [itD]
  have h3 : isNoneD (itD xs) = false := rfl
  unfold ltD
  rw [if_pos ⟨h1, h2 xs, h2 ys, h3⟩]
  unfold itD
  rw [PySem.W.dataLt_tuple, lexLt_ints]
theorem lt_ints (xs ys : List Int) : cmpB .lt (itD xs) (itD ys) = .ok (lxI xs ys) := ltD_ints xs ys
theorem gt_ints (xs ys : List Int) : cmpB .gt (itD xs) (itD ys) = .ok (lxI ys xs) := ltD_ints ys xs
theorem le_ints (xs ys : List Int) : cmpB .le (itD xs) (itD ys) = .ok (!lxI ys xs) := by
  show (ltD (itD ys) (itD xs)).map (!·) = _
  rw [ltD_ints]
  rfl
theorem at_last {α : Type} (xs : List α) (x : α) : atD (xs ++ [x]) (-1) = some x := by
  cases xs with
  | nil => rfl
  | cons y ys => rw [List.cons_append, at_neg1, ← List.cons_append, List.getLast?_append]; rfl
theorem pl_it (xs : List Int) : pl 40 (itD xs) = true := pl_mapInt (n := 39) (fun i : Int => i) xs
theorem sz_it (n : Nat) {xs : List Int} (h : xs.length ≤ 1000000) : sz (n + 1) (itD xs) = true := by simp [itD, h]
theorem alike_it (xs ys : List Int) : AlikeB [itD xs, itD ys] = true := by
  have h : ∀ a b : List Int, PySem.W.alike (itD a) (itD b) = true := fun a b => by
    unfold itD
    rw [PySem.W.alike]
    exact alikeAll_ints a b
  have h2 : ∀ a : List Int, (shp 40 (itD a) && !isNoneD (itD a)) = true := fun a => by simp [itD, isNoneD]
  simp only [AlikeB, List.all_cons, List.all_nil, h, h2, Bool.and_self]
theorem bi_min_it (xs ys : List Int) : biD .min2 [itD xs, itD ys] = .ok (.v (if lxI ys xs then itD ys else itD xs)) := by
  have e := bi_min2_t (xs := xs.map .int) (ys := ys.map .int) (alike_it xs ys)
  have l : PySem.W.dataLt (itD ys) (itD xs) = lxI ys xs := by
    unfold itD
    rw [PySem.W.dataLt_tuple, lexLt_ints]
  refine e.trans ?_
  show Res.ok (R.v (if PySem.W.dataLt (itD ys) (itD xs) then itD ys else itD xs)) = _
  rw [l]
theorem bi_max_it (xs ys : List Int) : biD .max2 [itD xs, itD ys] = .ok (.v (if lxI xs ys then itD ys else itD xs)) := by
  have e := bi_max2_t (xs := xs.map .int) (ys := ys.map .int) (alike_it xs ys)
  have l : PySem.W.dataLt (itD xs) (itD ys) = lxI xs ys := by
    unfold itD
    rw [PySem.W.dataLt_tuple, lexLt_ints]
  refine e.trans ?_
  show Res.ok (R.v (if PySem.W.dataLt (itD xs) (itD ys) then itD ys else itD xs)) = _
  rw [l]
end Fz

/-! LibRat: fractions in lowest terms, as pairs, are the rationals. -/
namespace Fz
open PySem
def rD (x : Rat) : D := .tuple [.int x.num, .int x.den]
theorem rD_inj {x y : Rat} : rD x = rD y ↔ x = y := by
  constructor
  · intro h
    simp only [rD, PyData.tuple.injEq, List.cons.injEq, PyData.int.injEq, and_true] at h
    exact Rat.ext h.1 (by omega)
  · rintro rfl; rfl
@[simp] theorem pl_rD {n : Nat} (x : Rat) : pl (n + 1) (rD x) = true := by simp [rD]
@[simp] theorem shp_rD {n : Nat} (x : Rat) : shp (n + 1) (rD x) = true := by simp [rD]
@[simp] theorem sz_rD {n : Nat} (x : Rat) : sz (n + 1) (rD x) = true := by simp [rD]
@[simp] theorem eqD_rD (x y : Rat) : eqD (rD x) (rD y) = .ok (decide (x = y)) := by
  rw [eqD_pl (pl_rD x) (pl_rD y)]
  simp [rD_inj]
/-- a pair over its greatest common divisor, the bottom above 0 -/
theorem low_pos {a b : Int} (hb : 0 < b) : (Rat.divInt a b).num = a.fdiv (Nat.gcd a.natAbs b.natAbs : Nat) ∧ ((Rat.divInt a b).den : Int) = b.fdiv (Nat.gcd a.natAbs b.natAbs : Nat) := by
  obtain ⟨n, rfl⟩ : ∃ n : Nat, b = n := ⟨b.toNat, by omega⟩
  have hn : n ≠ 0 := by omega
  have e : Rat.divInt a (n : Int) = Rat.normalize a n hn := by
    rw [Rat.divInt_ofNat, Rat.normalize_eq_mkRat]
  rw [e, Rat.normalize_eq, Int.natAbs_natCast]
  rw [Int.fdiv_eq_ediv_of_nonneg _ (by omega), Int.fdiv_eq_ediv_of_nonneg _ (by omega)]
  exact ⟨rfl, by simp⟩
theorem low_neg {a b : Int} (hb : b < 0) : (Rat.divInt a b).num = (-a).fdiv (Nat.gcd a.natAbs b.natAbs : Nat) ∧ ((Rat.divInt a b).den : Int) = (-b).fdiv (Nat.gcd a.natAbs b.natAbs : Nat) := by
  have := low_pos (a := -a) (b := -b) (by omega)
  rw [Int.natAbs_neg, Int.natAbs_neg] at this
  rwa [Rat.neg_divInt_neg] at this
/-- turns of the divisor's while -/
def gst : Nat → Nat → Nat → Nat
  | 0, _, _ => 0
  | f + 1, a, b => if b = 0 then 0 else 1 + gst f b (a % b)
theorem gst_le : ∀ (k f a b : Nat), b < 2 ^ k → gst f a b ≤ 2 * k
  | 0, f, a, b, h => by
    have : b = 0 := by simpa using h
    subst this
    cases f <;> simp [gst]
  | k + 1, f, a, b, h => by
    cases f with
    | zero => simp [gst]
    | succ f =>
      unfold gst
      by_cases hb : b = 0
      · simp [hb]
      · rw [if_neg hb]
        cases f with
        | zero => simp [gst]; omega
        | succ f =>
          unfold gst
          by_cases hr : a % b = 0
          · rw [if_pos hr]; omega
          · rw [if_neg hr]
            have l : a % b < b := Nat.mod_lt _ (by omega)
            have l2 : b % (a % b) < a % b := Nat.mod_lt _ (by omega)
            have l3 := Nat.div_add_mod b (a % b)
            have l4 : 1 ≤ b / (a % b) := Nat.div_pos (by omega) (by omega)
            have l5 := Nat.mul_le_mul_left (a % b) l4
            have := gst_le k f (a % b) (b % (a % b)) (by rw [Nat.pow_succ] at h; omega)
            omega
theorem divisor_run (x y : Int) (k : Nat) (hk : k ≤ 1000000) (hy : y.natAbs < 2 ^ k) : (mkFn (tbl []) [] [false, false] 2 divisorT).run [.int x, .int y] = .ok (.v (.int (Nat.gcd x.natAbs y.natAbs : Nat)), []) := by
  obtain ⟨σ', e, rfl⟩ := evWhl (Φ := tbl []) (Γ := []) (c := .cmp .ne (.var 1) (.int 0)) (b := .cons (.par [0, 1] (.cons (.var 1) (.cons (.bin .mod (.var 0) (.var 1)) .nil))) .nil) (σ := [.val (.int (x.natAbs : Int)), .val (.int (y.natAbs : Int))])
    (fun n σ => ∃ a b f : Nat, gst f a b = n ∧ b ≤ f ∧ Nat.gcd a b = Nat.gcd x.natAbs y.natAbs ∧ σ = [.val (.int (a : Int)), .val (.int (b : Int))]) (fun σ => σ = [.val (.int (Nat.gcd x.natAbs y.natAbs : Nat)), .val (.int 0)]) (n := gst y.natAbs x.natAbs y.natAbs) (by
      have := gst_le k y.natAbs x.natAbs y.natAbs hy
      omega) ⟨_, _, _, rfl, Nat.le_refl _, rfl, rfl⟩ (by
      rintro n σ ⟨a, b, f, hn, hb, hg, rfl⟩
      by_cases h : b = 0
      · subst h
        left
        rw [Nat.gcd_zero_right] at hg
        subst hg
        exact ⟨_, by simp -dsimp -implicitDefEqProofs, rfl⟩
      · right
        have l : a % b < b := Nat.mod_lt _ (by omega)
        cases f with
        | zero => omega
        | succ f =>
          rw [gst, if_neg h] at hn
          refine ⟨[.val (.int (a : Int)), .val (.int (b : Int))], [.val (.int (b : Int)), .val (.int ((a % b : Nat) : Int))], gst f b (a % b), by simp -dsimp -implicitDefEqProofs [h], ?_, by omega, b, a % b, f, rfl, by omega, by rw [← hg, Nat.gcd_comm a b]; exact (Nat.gcd_rec b a).symm ▸ Nat.gcd_comm _ _, rfl⟩
          simp -dsimp -implicitDefEqProofs [h, fmod_nat])
  simp -dsimp -implicitDefEqProofs [divisorT, mkFn_run, absI_nat, e]
theorem reduced_run {x y : Int} (hy : y ≠ 0) (k : Nat) (hk : k ≤ 1000000) (hy2 : y.natAbs < 2 ^ k) (hg2 : Nat.gcd x.natAbs y.natAbs < 2037035976334486086268445688409378161051468393665936250636140449354381299763336706183397376) : (mkFn (tbl [mkFn (tbl []) [] [false, false] 2 divisorT]) [] [false, false] 4 reducedT).run [.int x, .int y] = .ok (.v (rD (Rat.divInt x y)), []) := by
  have hg : 0 < Nat.gcd x.natAbs y.natAbs := Nat.gcd_pos_of_pos_right _ (by omega)
  have e := divisor_run x y k hk hy2
  have hd : DivOk (Nat.gcd x.natAbs y.natAbs : Nat) := ⟨by omega, by omega, by omega⟩
  have m : ∀ z : Int, Fz.MulOk 1 z := fun z => mul_l (by decide)
  have m' : ∀ z : Int, Fz.MulOk (-1) z := fun z => mul_l (by decide)
  have io : (mkFn (tbl []) [] [false, false] 2 divisorT).inout = [false, false] := rfl
  unfold rD
  rcases Int.lt_trichotomy y 0 with h | h | h
  · obtain ⟨l1, l2⟩ := low_neg (a := x) h
    have hn : ¬ 0 < y := by omega
    rw [l1, l2]
    generalize Nat.gcd x.natAbs y.natAbs = g at *
    generalize mkFn (tbl []) [] [false, false] 2 divisorT = F at *
    simp -dsimp -implicitDefEqProofs [reducedT, mkFn_run, callF, io, e, hn, hd, m']
  · exact absurd h hy
  · obtain ⟨l1, l2⟩ := low_pos (a := x) h
    rw [l1, l2]
    generalize Nat.gcd x.natAbs y.natAbs = g at *
    generalize mkFn (tbl []) [] [false, false] 2 divisorT = F at *
    simp -dsimp -implicitDefEqProofs [reducedT, mkFn_run, callF, io, e, h, hd, m]
/-- the laws' own -/
def lowBT : T := (.cons (.par [2, 3] (.cons (.bi .abs (.cons (.var 0) .nil)) (.cons (.bi .abs (.cons (.var 1) .nil)) .nil))) (.cons (.whl (.cmp .gt (.var 3) (.int 0)) (.cons (.par [2, 3] (.cons (.var 3) (.cons (.bin .mod (.bi .int (.cons (.var 2) .nil)) (.var 3)) .nil))) .nil)) (.cons (.asg (.gn 2) (.ifx (.cmp .gt (.var 1) (.int 0)) (.var 2) (.bin .sub (.int 0) (.var 2)))) (.cons (.ret (.tup (.cons (.bin .fdiv (.var 0) (.var 2)) (.cons (.bin .fdiv (.var 1) (.var 2)) .nil)))) .nil))))
theorem low_whl (x y : Int) (k : Nat) (hk : k ≤ 1000000) (hy : y.natAbs < 2 ^ k) : evS (tbl []) [] (.whl (.cmp .gt (.var 3) (.int 0)) (.cons (.par [2, 3] (.cons (.var 3) (.cons (.bin .mod (.bi .int (.cons (.var 2) .nil)) (.var 3)) .nil))) .nil)) [.val (.int x), .val (.int y), .val (.int (x.natAbs : Int)), .val (.int (y.natAbs : Int))] = .ok (.nx, [.val (.int x), .val (.int y), .val (.int (Nat.gcd x.natAbs y.natAbs : Nat)), .val (.int 0)]) := by
  obtain ⟨σ', e, rfl⟩ := evWhl (Φ := tbl []) (Γ := []) (c := .cmp .gt (.var 3) (.int 0)) (b := .cons (.par [2, 3] (.cons (.var 3) (.cons (.bin .mod (.bi .int (.cons (.var 2) .nil)) (.var 3)) .nil))) .nil) (σ := [.val (.int x), .val (.int y), .val (.int (x.natAbs : Int)), .val (.int (y.natAbs : Int))])
    (fun n σ => ∃ a b f : Nat, gst f a b = n ∧ b ≤ f ∧ Nat.gcd a b = Nat.gcd x.natAbs y.natAbs ∧ σ = [.val (.int x), .val (.int y), .val (.int (a : Int)), .val (.int (b : Int))]) (fun σ => σ = [.val (.int x), .val (.int y), .val (.int (Nat.gcd x.natAbs y.natAbs : Nat)), .val (.int 0)]) (n := gst y.natAbs x.natAbs y.natAbs) (by
      have := gst_le k y.natAbs x.natAbs y.natAbs hy
      omega) ⟨_, _, _, rfl, Nat.le_refl _, rfl, rfl⟩ (by
      rintro n σ ⟨a, b, f, hn, hb, hg, rfl⟩
      by_cases h : b = 0
      · subst h
        left
        rw [Nat.gcd_zero_right] at hg
        subst hg
        exact ⟨_, by simp -dsimp -implicitDefEqProofs, rfl⟩
      · right
        have l : a % b < b := Nat.mod_lt _ (by omega)
        have hb0 : 0 < b := by omega
        cases f with
        | zero => omega
        | succ f =>
          rw [gst, if_neg h] at hn
          refine ⟨[.val (.int x), .val (.int y), .val (.int (a : Int)), .val (.int (b : Int))], [.val (.int x), .val (.int y), .val (.int (b : Int)), .val (.int ((a % b : Nat) : Int))], gst f b (a % b), by simp -dsimp -implicitDefEqProofs [hb0], ?_, by omega, b, a % b, f, rfl, by omega, by rw [← hg, Nat.gcd_comm a b]; exact (Nat.gcd_rec b a).symm ▸ Nat.gcd_comm _ _, rfl⟩
          simp -dsimp -implicitDefEqProofs [h, fmod_nat])
  exact e
theorem fdiv_neg_neg (a : Int) (g : Nat) (hg : 0 < g) (hd : g ∣ a.natAbs) : a.fdiv (0 - (g : Int)) = (-a).fdiv g := by
  rw [Int.zero_sub]
  exact (Int.neg_fdiv_neg a (-(g : Int))).symm.trans (by rw [Int.neg_neg])
theorem low_run {x y : Int} (hy : y ≠ 0) (k : Nat) (hk : k ≤ 1000000) (hy2 : y.natAbs < 2 ^ k) (hg2 : Nat.gcd x.natAbs y.natAbs < 2037035976334486086268445688409378161051468393665936250636140449354381299763336706183397376) : (mkFn (tbl []) [] [false, false] 4 lowBT).run [.int x, .int y] = .ok (.v (rD (Rat.divInt x y)), []) := by
  have hg : 0 < Nat.gcd x.natAbs y.natAbs := Nat.gcd_pos_of_pos_right _ (by omega)
  have e := low_whl x y k hk hy2
  have hd : DivOk (Nat.gcd x.natAbs y.natAbs : Nat) := ⟨by omega, by omega, by omega⟩
  have hd' : DivOk (0 - ((Nat.gcd x.natAbs y.natAbs : Nat) : Int)) := ⟨by omega, by omega, by omega⟩
  unfold rD
  rcases Int.lt_trichotomy y 0 with h | h | h
  · obtain ⟨l1, l2⟩ := low_neg (a := x) h
    have hn : ¬ 0 < y := by omega
    rw [l1, l2, ← fdiv_neg_neg x _ hg (Nat.gcd_dvd_left _ _), ← fdiv_neg_neg y _ hg (Nat.gcd_dvd_right _ _)]
    generalize Nat.gcd x.natAbs y.natAbs = g at *
    simp -dsimp -implicitDefEqProofs [lowBT, mkFn_run, absI_nat, e, hn, hd', -Int.zero_sub]
  · exact absurd h hy
  · obtain ⟨l1, l2⟩ := low_pos (a := x) h
    rw [l1, l2]
    generalize Nat.gcd x.natAbs y.natAbs = g at *
    simp -dsimp -implicitDefEqProofs [lowBT, mkFn_run, absI_nat, e, h, hd]
/-! ### sums and products -/
def RatOk (F : FnSem) : Prop := F.inout = [false, false] ∧ ∀ {x y : Int}, y ≠ 0 → -2037035976334486086268445688409378161051468393665936250636140449354381299763336706183397376 < y → y < 2037035976334486086268445688409378161051468393665936250636140449354381299763336706183397376 → F.run [.int x, .int y] = .ok (.v (rD (Rat.divInt x y)), [])
theorem reduced_ok : RatOk (mkFn (tbl [mkFn (tbl []) [] [false, false] 2 divisorT]) [] [false, false] 4 reducedT) :=
  ⟨rfl, fun {x y} h h1 h2 => reduced_run h 300 (by decide) (by omega) (by have := Nat.le_of_dvd (by omega) (Nat.gcd_dvd_right x.natAbs y.natAbs); omega)⟩
theorem low_ok : RatOk (mkFn (tbl []) [] [false, false] 4 lowBT) :=
  ⟨rfl, fun {x y} h h1 h2 => low_run h 300 (by decide) (by omega) (by have := Nat.le_of_dvd (by omega) (Nat.gcd_dvd_right x.natAbs y.natAbs); omega)⟩
theorem divInt_add (x y : Rat) : Rat.divInt (x.num * y.den + y.num * x.den) (x.den * y.den) = x + y := by
  rw [Rat.add_def', ← Rat.divInt_ofNat, Int.natCast_mul]
theorem divInt_mul (x y : Rat) : Rat.divInt (x.num * y.num) (x.den * y.den) = x * y := by
  rw [← Rat.divInt_mul_divInt, Rat.num_divInt_den, Rat.num_divInt_den]
theorem den_mul_ne (x y : Rat) : ((x.den : Int) * y.den) ≠ 0 := by
  have := Nat.mul_pos x.den_pos y.den_pos
  rw [← Int.natCast_mul]
  omega
def addT : T := (.cons (.ret (.call 0 (.cons (.bin .add (.bin .mul (.ix (.var 0) (.int 0)) (.ix (.var 1) (.int 1))) (.bin .mul (.ix (.var 1) (.int 0)) (.ix (.var 0) (.int 1)))) (.cons (.bin .mul (.ix (.var 0) (.int 1)) (.ix (.var 1) (.int 1))) .nil)))) .nil)
theorem den_le {x y : Rat} {m : Nat} (h : x.den * y.den < m) : x.den < m ∧ y.den < m := by
  have h1 := Nat.mul_le_mul_left x.den (show 1 ≤ y.den from y.den_pos)
  have h2 := Nat.mul_le_mul_right y.den (show 1 ≤ x.den from x.den_pos)
  omega
theorem den_lt {x y : Rat} (h1 : x.den < 18446744073709551616) (h2 : y.den < 18446744073709551616) : x.den * y.den < 340282366920938463463374607431768211456 := Nat.mul_lt_mul'' h1 h2
theorem add_run {F : FnSem} (hF : RatOk F) (x y : Rat) (l1 : x.den < 18446744073709551616) (l2 : y.den < 18446744073709551616) : (mkFn (tbl [F]) [] [false, false] 2 addT).run [rD x, rD y] = .ok (.v (rD (x + y)), []) := by
  have h := den_lt l1 l2
  have m1 : ∀ z : Int, Fz.MulOk z y.den := fun z => mul_r ⟨by omega, by omega⟩
  have m2 : ∀ z : Int, Fz.MulOk z x.den := fun z => mul_r ⟨by omega, by omega⟩
  obtain ⟨io, r⟩ := hF
  have e := r (x := x.num * y.den + y.num * x.den) (den_mul_ne x y) (by rw [← Int.natCast_mul]; omega) (by rw [← Int.natCast_mul]; omega)
  rw [divInt_add] at e
  simp -dsimp -implicitDefEqProofs [addT, mkFn_run, callF, rD, io, m1, m2, e]
def timesT : T := (.cons (.ret (.call 0 (.cons (.bin .mul (.ix (.var 0) (.int 0)) (.ix (.var 1) (.int 0))) (.cons (.bin .mul (.ix (.var 0) (.int 1)) (.ix (.var 1) (.int 1))) .nil)))) .nil)
theorem times_run {F : FnSem} (hF : RatOk F) (x y : Rat) (l1 : x.den < 18446744073709551616) (l2 : y.den < 18446744073709551616) (hm : Fz.MulOk x.num y.num) : (mkFn (tbl [F]) [] [false, false] 2 timesT).run [rD x, rD y] = .ok (.v (rD (x * y)), []) := by
  have h := den_lt l1 l2
  have m2 : ∀ z : Int, Fz.MulOk z y.den := fun z => mul_r ⟨by omega, by omega⟩
  obtain ⟨io, r⟩ := hF
  have e := r (x := x.num * y.num) (den_mul_ne x y) (by rw [← Int.natCast_mul]; omega) (by rw [← Int.natCast_mul]; omega)
  rw [divInt_mul] at e
  simp -dsimp -implicitDefEqProofs [timesT, mkFn_run, callF, rD, io, m2, hm, e]
/-- an integer as a pair -/
theorem rD_int (n : Int) : rD (n : Rat) = .tuple [.int n, .int 1] := by
  unfold rD
  rw [Rat.num_intCast, Rat.den_intCast]
  rfl
theorem num_nonneg' {x : Rat} : 0 ≤ x.num ↔ 0 ≤ x := Rat.num_nonneg
theorem num_neg' {x : Rat} : x.num < 0 ↔ x < 0 := by
  have := @Rat.num_nonneg x
  constructor
  · intro h; exact Rat.not_le.mp fun z => by have := this.mpr z; omega
  · intro h; exact Int.not_le.mp fun z => Rat.not_le.mpr h (this.mp z)
theorem den_divInt_le {a b : Int} (hb : 0 < b) : ((Rat.divInt a b).den : Int) ≤ b := by
  have hg : 0 < Nat.gcd a.natAbs b.natAbs := Nat.gcd_pos_of_pos_right _ (by omega)
  rw [(low_pos hb).2, Int.fdiv_eq_ediv_of_nonneg _ (by omega)]
  exact Int.ediv_le_self _ (by omega)
theorem den_pos' (x y : Rat) : 0 < (x.den : Int) * y.den := by
  have := Nat.mul_pos x.den_pos y.den_pos
  rw [← Int.natCast_mul]
  omega
theorem den_add_le (x y : Rat) : (x + y).den ≤ x.den * y.den := by
  have := den_divInt_le (a := x.num * y.den + y.num * x.den) (den_pos' x y)
  rw [divInt_add, ← Int.natCast_mul] at this
  omega
theorem den_mul_le (x y : Rat) : (x * y).den ≤ x.den * y.den := by
  have := den_divInt_le (a := x.num * y.num) (den_pos' x y)
  rw [divInt_mul, ← Int.natCast_mul] at this
  omega
/-- what is told of an integer with a time of a fraction -/
theorem lin_run {F : FnSem} (hF : RatOk F) (a b : Int) (c : Rat) (hc : c.den < 18446744073709551616) (hm : Fz.MulOk b c.num) :
    (mkFn (tbl [F]) [] [false, false] 2 timesT).run [.tuple [.int b, .int 1], rD c] = .ok (.v (rD ((b : Rat) * c)), []) ∧
    (mkFn (tbl [F]) [] [false, false] 2 addT).run [.tuple [.int a, .int 1], rD ((b : Rat) * c)] = .ok (.v (rD ((a : Rat) + (b : Rat) * c)), []) := by
  have h2 := den_mul_le (b : Rat) c
  rw [Rat.den_intCast] at h2
  rw [← rD_int, ← rD_int]
  exact ⟨times_run hF _ _ (by rw [Rat.den_intCast]; decide) hc (by rw [Rat.num_intCast]; exact hm), add_run hF _ _ (by rw [Rat.den_intCast]; decide) (by omega)⟩
theorem frac_self {F : FnSem} (hF : RatOk F) {c : Rat} (hc : c.den < 2037035976334486086268445688409378161051468393665936250636140449354381299763336706183397376) : F.run [.int c.num, .int c.den] = .ok (.v (rD c), []) := by
  have := c.den_pos
  have e := hF.2 (x := c.num) (y := c.den) (by omega) (by omega) (by omega)
  rwa [Rat.num_divInt_den] at e
theorem cos_iff {c : Rat} : (-1 ≤ c ∧ c ≤ 1) ↔ (-(c.den : Int) ≤ c.num ∧ c.num ≤ c.den) := by
  rw [Rat.le_iff, Rat.le_iff]
  have e1 : (-1 : Rat).num = -1 := rfl
  have e2 : (-1 : Rat).den = 1 := rfl
  have e3 : (1 : Rat).num = 1 := rfl
  have e4 : (1 : Rat).den = 1 := rfl
  rw [e1, e2, e3, e4]
  omega
theorem divInt_cross (a : Int) {b : Int} (hb : 0 < b) : (Rat.divInt a b).num * b = a * (Rat.divInt a b).den := by
  have h := Rat.num_divInt_den (Rat.divInt a b)
  have hd := (Rat.divInt a b).den_pos
  exact (Rat.divInt_eq_divInt_iff (by omega) (by omega)).mp h
/-- a fraction from -1 to 1 -/
theorem cos_of {a b : Int} (hb : 0 < b) (h1 : -b ≤ a) (h2 : a ≤ b) : -1 ≤ Rat.divInt a b ∧ Rat.divInt a b ≤ 1 := by
  rw [cos_iff]
  have e := divInt_cross a hb
  have hd := (Rat.divInt a b).den_pos
  generalize (Rat.divInt a b).num = n at *
  generalize (Rat.divInt a b).den = d at *
  have hd' : (0 : Int) < d := by omega
  constructor
  · apply Int.not_lt.mp
    intro z
    have z1 := Int.mul_lt_mul_of_pos_right z hb
    have z2 := Int.mul_le_mul_of_nonneg_right h1 (Int.le_of_lt hd')
    rw [Int.neg_mul] at z1 z2
    rw [Int.mul_comm b] at z2
    omega
  · apply Int.not_lt.mp
    intro z
    have z1 := Int.mul_lt_mul_of_pos_right z hb
    have z2 := Int.mul_le_mul_of_nonneg_right h2 (Int.le_of_lt hd')
    rw [Int.mul_comm b] at z2
    omega
/-! ### sizes -/
def RB (b : Nat) (x : Rat) : Prop := x.den < 2 ^ b ∧ x.num.natAbs < 2 ^ b
theorem RB.mono {a b : Nat} (h : a ≤ b) {x : Rat} (hx : RB a x) : RB b x :=
  have := Nat.pow_le_pow_right (n := 2) (by decide) h
  ⟨Nat.lt_of_lt_of_le hx.1 this, Nat.lt_of_lt_of_le hx.2 this⟩
theorem num_divInt_le {a b : Int} (hb : 0 < b) : (Rat.divInt a b).num.natAbs ≤ a.natAbs := by
  have hg : 0 < Nat.gcd a.natAbs b.natAbs := Nat.gcd_pos_of_pos_right _ (by omega)
  have e := Int.fdiv_eq_ediv_of_dvd (Int.ofNat_dvd_left.mpr (Nat.gcd_dvd_left a.natAbs b.natAbs))
  rw [(low_pos hb).1, e]
  have := Int.natAbs_ediv_le_natAbs a (Nat.gcd a.natAbs b.natAbs : Nat)
  exact this
theorem RB.divInt {n : Nat} {a b : Int} (hb : 0 < b) (h1 : b.natAbs < 2 ^ n) (h2 : a.natAbs < 2 ^ n) : RB n (Rat.divInt a b) := by
  have := den_divInt_le (a := a) hb
  have := num_divInt_le (a := a) hb
  exact ⟨by omega, by omega⟩
theorem RB.mul {a b : Nat} {x y : Rat} (hx : RB a x) (hy : RB b y) : RB (a + b) (x * y) := by
  rw [← divInt_mul]
  refine RB.divInt (den_pos' x y) ?_ ?_
  · rw [Int.natAbs_mul, Nat.pow_add]
    exact Nat.mul_lt_mul'' hx.1 hy.1
  · rw [Int.natAbs_mul, Nat.pow_add]
    exact Nat.mul_lt_mul'' hx.2 hy.2
theorem RB.add {a b : Nat} {x y : Rat} (hx : RB a x) (hy : RB b y) : RB (a + b + 1) (x + y) := by
  rw [← divInt_add]
  have h1 : x.den * y.den < 2 ^ (a + b) := by rw [Nat.pow_add]; exact Nat.mul_lt_mul'' hx.1 hy.1
  have h2 : (x.num * y.den).natAbs < 2 ^ (a + b) := by rw [Int.natAbs_mul, Nat.pow_add]; exact Nat.mul_lt_mul'' hx.2 hy.1
  have h3 : (y.num * x.den).natAbs < 2 ^ (a + b) := by rw [Int.natAbs_mul, Nat.pow_add, Nat.mul_comm]; exact Nat.mul_lt_mul'' hx.1 hy.2
  have h4 : 2 ^ (a + b + 1) = 2 ^ (a + b) + 2 ^ (a + b) := by rw [Nat.pow_succ]; omega
  refine RB.divInt (den_pos' x y) ?_ ?_
  · rw [h4, ← Int.natCast_mul, Int.natAbs_natCast]; omega
  · rw [h4]; omega
theorem RB.neg {a : Nat} {x : Rat} (hx : RB a x) : RB a (-x) := ⟨by rw [Rat.neg_den]; exact hx.1, by rw [Rat.neg_num, Int.natAbs_neg]; exact hx.2⟩
theorem lit300' : (2 : Nat) ^ 300 = 2037035976334486086268445688409378161051468393665936250636140449354381299763336706183397376 := by decide +kernel
theorem RB.lt {b : Nat} (hb : b ≤ 300) {x : Rat} (h : RB b x) : x.den < 2037035976334486086268445688409378161051468393665936250636140449354381299763336706183397376 ∧ -2037035976334486086268445688409378161051468393665936250636140449354381299763336706183397376 < x.num ∧ x.num < 2037035976334486086268445688409378161051468393665936250636140449354381299763336706183397376 := by
  obtain ⟨h1, h2⟩ := h.mono hb
  rw [lit300'] at h1 h2
  exact ⟨h1, by omega, by omega⟩
theorem RB.lt2 {b : Nat} (hb : b ≤ 300) {z : Int} (h : z.natAbs < 2 ^ b) : -2037035976334486086268445688409378161051468393665936250636140449354381299763336706183397376 < z ∧ z < 2037035976334486086268445688409378161051468393665936250636140449354381299763336706183397376 := by
  have h2 := Nat.lt_of_lt_of_le h (Nat.pow_le_pow_right (n := 2) (by decide) hb)
  rw [lit300'] at h2
  exact ⟨by omega, by omega⟩
theorem add_runB {F : FnSem} (hF : RatOk F) {a b : Nat} {x y : Rat} (hx : RB a x) (hy : RB b y) (h : a + b ≤ 300) : (mkFn (tbl [F]) [] [false, false] 2 addT).run [rD x, rD y] = .ok (.v (rD (x + y)), []) := by
  obtain ⟨x1, x2, x3⟩ := hx.lt (by omega)
  obtain ⟨y1, y2, y3⟩ := hy.lt (by omega)
  have m1 : Fz.MulOk x.num y.den := mul_w ⟨x2, x3⟩ ⟨by omega, by omega⟩
  have m2 : Fz.MulOk y.num x.den := mul_w ⟨y2, y3⟩ ⟨by omega, by omega⟩
  have m3 : Fz.MulOk x.den y.den := mul_w ⟨by omega, by omega⟩ ⟨by omega, by omega⟩
  have hd : ((x.den : Int) * y.den).natAbs < 2 ^ (a + b) := by rw [← Int.natCast_mul, Int.natAbs_natCast, Nat.pow_add]; exact Nat.mul_lt_mul'' hx.1 hy.1
  obtain ⟨d1, d2⟩ := RB.lt2 h hd
  obtain ⟨io, r⟩ := hF
  have e := r (x := x.num * y.den + y.num * x.den) (den_mul_ne x y) d1 d2
  rw [divInt_add] at e
  simp -dsimp -implicitDefEqProofs [addT, mkFn_run, callF, rD, io, m1, m2, m3, e]
theorem times_runB {F : FnSem} (hF : RatOk F) {a b : Nat} {x y : Rat} (hx : RB a x) (hy : RB b y) (h : a + b ≤ 300) : (mkFn (tbl [F]) [] [false, false] 2 timesT).run [rD x, rD y] = .ok (.v (rD (x * y)), []) := by
  obtain ⟨x1, x2, x3⟩ := hx.lt (by omega)
  obtain ⟨y1, y2, y3⟩ := hy.lt (by omega)
  have m1 : Fz.MulOk x.num y.num := mul_w ⟨x2, x3⟩ ⟨y2, y3⟩
  have m3 : Fz.MulOk x.den y.den := mul_w ⟨by omega, by omega⟩ ⟨by omega, by omega⟩
  have hd : ((x.den : Int) * y.den).natAbs < 2 ^ (a + b) := by rw [← Int.natCast_mul, Int.natAbs_natCast, Nat.pow_add]; exact Nat.mul_lt_mul'' hx.1 hy.1
  obtain ⟨d1, d2⟩ := RB.lt2 h hd
  obtain ⟨io, r⟩ := hF
  have e := r (x := x.num * y.num) (den_mul_ne x y) d1 d2
  rw [divInt_mul] at e
  simp -dsimp -implicitDefEqProofs [timesT, mkFn_run, callF, rD, io, m1, m3, e]
/-- one divided by another -/
def partT : T := (.cons (.ret (.call 0 (.cons (.bin .mul (.ix (.var 0) (.int 0)) (.ix (.var 1) (.int 1))) (.cons (.bin .mul (.ix (.var 0) (.int 1)) (.ix (.var 1) (.int 0))) .nil)))) .nil)
theorem divInt_div (x y : Rat) : Rat.divInt (x.num * y.den) (x.den * y.num) = x / y := by
  rw [← Rat.divInt_mul_divInt, Rat.num_divInt_den, Rat.div_def, Rat.inv_def]
theorem part_runB {F : FnSem} (hF : RatOk F) {a b : Nat} {x y : Rat} (hx : RB a x) (hy : RB b y) (h : a + b ≤ 300) (h0 : y ≠ 0) : (mkFn (tbl [F]) [] [false, false] 2 partT).run [rD x, rD y] = .ok (.v (rD (x / y)), []) := by
  obtain ⟨x1, x2, x3⟩ := hx.lt (by omega)
  obtain ⟨y1, y2, y3⟩ := hy.lt (by omega)
  have m1 : Fz.MulOk x.num y.den := mul_w ⟨x2, x3⟩ ⟨by omega, by omega⟩
  have m3 : Fz.MulOk x.den y.num := mul_w ⟨by omega, by omega⟩ ⟨y2, y3⟩
  have hd : ((x.den : Int) * y.num).natAbs < 2 ^ (a + b) := by rw [Int.natAbs_mul, Nat.pow_add]; exact Nat.mul_lt_mul'' hx.1 hy.2
  obtain ⟨d1, d2⟩ := RB.lt2 h hd
  obtain ⟨io, r⟩ := hF
  have hy0 : y.num ≠ 0 := fun z => h0 (Rat.num_eq_zero.mp z)
  have hx0 := x.den_pos
  have e := r (x := x.num * y.den) (Int.mul_ne_zero (by omega) hy0) d1 d2
  rw [divInt_div] at e
  simp -dsimp -implicitDefEqProofs [partT, mkFn_run, callF, rD, io, m1, m3, e]
theorem rD_neg (x : Rat) : rD (-x) = .tuple [.int (-x.num), .int x.den] := by
  unfold rD
  rw [Rat.neg_num, Rat.neg_den]
def negT : T := (.cons (.ret (.call 0 (.cons (.var 0) (.cons (.tup (.cons (.neg (.ix (.var 1) (.int 0))) (.cons (.ix (.var 1) (.int 1)) .nil))) .nil)))) .nil)
theorem less_runB {F : FnSem} (io : F.inout = [false, false]) {x y : Rat} (hF : F.run [rD x, rD (-y)] = .ok (.v (rD (x + -y)), [])) : (mkFn (tbl [F]) [] [false, false] 2 negT).run [rD x, rD y] = .ok (.v (rD (x - y)), []) := by
  rw [Rat.sub_eq_add_neg, rD_neg] at *
  have e : rD y = .tuple [.int y.num, .int y.den] := rfl
  rw [e]
  simp -dsimp -implicitDefEqProofs [negT, mkFn_run, callF, io, hF]
def ltT : T := (.cons (.ret (.cmp .lt (.bin .mul (.ix (.var 0) (.int 0)) (.ix (.var 1) (.int 1))) (.bin .mul (.ix (.var 1) (.int 0)) (.ix (.var 0) (.int 1))))) .nil)
theorem lt_runB {a b : Nat} {x y : Rat} (hx : RB a x) (hy : RB b y) (h : a + b ≤ 300) : (mkFn (tbl []) [] [false, false] 2 ltT).run [rD x, rD y] = .ok (.v (.bool (decide (x < y))), []) := by
  obtain ⟨x1, x2, x3⟩ := hx.lt (by omega)
  obtain ⟨y1, y2, y3⟩ := hy.lt (by omega)
  have m1 : Fz.MulOk x.num y.den := mul_w ⟨x2, x3⟩ ⟨by omega, by omega⟩
  have m2 : Fz.MulOk y.num x.den := mul_w ⟨y2, y3⟩ ⟨by omega, by omega⟩
  have e : decide (x < y) = decide (x.num * y.den < y.num * x.den) := by rw [decide_eq_decide]; exact Rat.lt_iff x y
  rw [e]
  simp -dsimp -implicitDefEqProofs [ltT, mkFn_run, rD, m1, m2]
theorem RB.int {n : Int} {b : Nat} (hb : 0 < b) (h : n.natAbs < 2 ^ b) : RB b (n : Rat) := ⟨by rw [Rat.den_intCast]; exact Nat.one_lt_two_pow (by omega), by rw [Rat.num_intCast]; exact h⟩
theorem RB.zero : RB 1 0 := ⟨by decide, by decide⟩
theorem RB.one : RB 1 1 := ⟨by decide, by decide⟩
theorem RB.two : RB 2 2 := ⟨by decide, by decide⟩
theorem frac_selfB {F : FnSem} (hF : RatOk F) {b : Nat} {c : Rat} (hc : RB b c) (h : b ≤ 300) : F.run [.int c.num, .int c.den] = .ok (.v (rD c), []) := by
  have := c.den_pos
  obtain ⟨x1, x2, x3⟩ := hc.lt h
  have e := hF.2 (x := c.num) (y := c.den) (by omega) (by omega) (by omega)
  rwa [Rat.num_divInt_den] at e
/-- the laws' own divisor -/
def ldivisorT : T := (.cons (.whl (.cmp .gt (.var 1) (.int 0)) (.cons (.par [0, 1] (.cons (.var 1) (.cons (.bin .mod (.bi .int (.cons (.var 0) .nil)) (.var 1)) .nil))) .nil)) (.cons (.ret (.var 0)) .nil))
theorem ldivisor_run (x y : Nat) (k : Nat) (hk : k ≤ 1000000) (hy : y < 2 ^ k) : (mkFn (tbl []) [] [false, false] 2 ldivisorT).run [.int x, .int y] = .ok (.v (.int (Nat.gcd x y : Nat)), []) := by
  obtain ⟨σ', e, rfl⟩ := evWhl (Φ := tbl []) (Γ := []) (c := .cmp .gt (.var 1) (.int 0)) (b := .cons (.par [0, 1] (.cons (.var 1) (.cons (.bin .mod (.bi .int (.cons (.var 0) .nil)) (.var 1)) .nil))) .nil) (σ := [.val (.int (x : Int)), .val (.int (y : Int))])
    (fun n σ => ∃ a b f : Nat, gst f a b = n ∧ b ≤ f ∧ Nat.gcd a b = Nat.gcd x y ∧ σ = [.val (.int (a : Int)), .val (.int (b : Int))]) (fun σ => σ = [.val (.int (Nat.gcd x y : Nat)), .val (.int 0)]) (n := gst y x y) (by
      have := gst_le k y x y hy
      omega) ⟨_, _, _, rfl, Nat.le_refl _, rfl, rfl⟩ (by
      rintro n σ ⟨a, b, f, hn, hb, hg, rfl⟩
      by_cases h : b = 0
      · subst h
        left
        rw [Nat.gcd_zero_right] at hg
        subst hg
        exact ⟨_, by simp -dsimp -implicitDefEqProofs, rfl⟩
      · right
        have l : a % b < b := Nat.mod_lt _ (by omega)
        have hb0 : 0 < b := by omega
        cases f with
        | zero => omega
        | succ f =>
          rw [gst, if_neg h] at hn
          refine ⟨[.val (.int (a : Int)), .val (.int (b : Int))], [.val (.int (b : Int)), .val (.int ((a % b : Nat) : Int))], gst f b (a % b), by simp -dsimp -implicitDefEqProofs [hb0], ?_, by omega, b, a % b, f, rfl, by omega, by rw [← hg, Nat.gcd_comm a b]; exact (Nat.gcd_rec b a).symm ▸ Nat.gcd_comm _ _, rfl⟩
          simp -dsimp -implicitDefEqProofs [h, fmod_nat])
  simp -dsimp -implicitDefEqProofs [ldivisorT, mkFn_run, e]
end Fz

/-! LibEx: refused calls: odd things, what a catcher is told. -/
namespace Fz
open PySem
/-- a thing that no def takes for a number, a text of use, or a tuple of two and more -/
def Odd (d : D) : Prop := d = .none ∨ (∃ s, d = .str s) ∨ d = .dict [] ∨ (∃ x, d = .tuple [x]) ∨ ∃ x, d = .list [x]
theorem Odd.nd {d : D} (h : Odd d) : isDictD d = false := by
  rcases h with rfl | ⟨s, rfl⟩ | rfl | ⟨x, rfl⟩ | ⟨x, rfl⟩ <;> rfl
theorem Odd.ni {d : D} (h : Odd d) : isIntD d = false := by
  rcases h with rfl | ⟨s, rfl⟩ | rfl | ⟨x, rfl⟩ | ⟨x, rfl⟩ <;> rfl
/-- the lowest terms of a fraction whose bottom is positive -/
def lowPT : T := (.cons (.par [2, 3] (.cons (.bi .abs (.cons (.var 0) .nil)) (.cons (.var 1) .nil))) (.cons (.whl (.cmp .gt (.var 3) (.int 0)) (.cons (.par [2, 3] (.cons (.var 3) (.cons (.bin .mod (.bi .int (.cons (.var 2) .nil)) (.var 3)) .nil))) .nil)) (.cons (.ret (.tup (.cons (.bin .fdiv (.var 0) (.var 2)) (.cons (.bin .fdiv (.var 1) (.var 2)) .nil)))) .nil)))
theorem lowP_run {x y : Int} (h : 0 < y) (h2 : y < 2037035976334486086268445688409378161051468393665936250636140449354381299763336706183397376) : (mkFn (tbl []) [] [false, false] 4 lowPT).run [.int x, .int y] = .ok (.v (rD (Rat.divInt x y)), []) := by
  have hg : 0 < Nat.gcd x.natAbs y.natAbs := Nat.gcd_pos_of_pos_right _ (by omega)
  have hle := Nat.le_of_dvd (by omega) (Nat.gcd_dvd_right x.natAbs y.natAbs)
  have e := low_whl x y 300 (by decide) (by omega)
  have ey : ((y.natAbs : Nat) : Int) = y := by omega
  have hd : DivOk (Nat.gcd x.natAbs y.natAbs : Nat) := ⟨by omega, by omega, by omega⟩
  unfold rD
  obtain ⟨l1, l2⟩ := low_pos (a := x) h
  rw [l1, l2]
  generalize Nat.gcd x.natAbs y.natAbs = g at *
  rw [ey] at e
  simp -dsimp -implicitDefEqProofs [lowPT, mkFn_run, absI_nat, e, h, hd]
theorem catRun_ex {Φ : Fns} {Γ : List D} {n ie : Nat} {tl : Option (Nat × Str)} {σ1 σ2 σ3 : Sts} {hs : List (Str × XI × T)} {t1 t : T} {c : Str} {as : List D} {r : D} (hl : ∃ xi, hs.lookup c = some (xi, t) ∧ asB as xi.fld = true) (e1 : evB Φ Γ t (excSt n ie) = .ok (.nx, σ2)) (hn : ((σ2.set ie .no).all Slot.nex) = true) (e2 : evS Φ Γ t1 (σ2.set ie .no) = .ok (.rt (.v r), σ3)) :
    catRun Φ Γ n ie tl σ1 hs t1 [.tuple (.str c :: as)] = .ok (.v r, []) := by
  obtain ⟨xi, h1, h2⟩ := hl
  show (match hs.lookup c with
      | some (xi, t) => if asB as xi.fld = true then (match evB Φ Γ t (excSt n ie) with
        | .ok (.nx, σ2) => if ((σ2.set ie .no).all Slot.nex) = true then catEnd (evS Φ Γ t1 (σ2.set ie .no)) else .no
        | _ => .no) else .no
      | none => .no) = _
  rw [h1]
  simp only [h2, if_true, e1, hn, e2]
  rfl
theorem catRun_told {Φ : Fns} {Γ : List D} {n ie : Nat} {tl : Option (Nat × Str)} {σ1 σ3 : Sts} {hs : List (Str × XI × T)} {t1 : T} {d r : D} (e2 : evS Φ Γ t1 (toldSt tl σ1 d) = .ok (.rt (.v r), σ3)) : catRun Φ Γ n ie tl σ1 hs t1 [.tuple [.none, d]] = .ok (.v r, []) := by
  show catEnd (evS Φ Γ t1 (toldSt tl σ1 d)) = _
  rw [e2]
  rfl
@[simp] theorem eqv_bb (a b : Bool) : PyData.eqv (.bool a) (.bool b) = (a == b) := by
  cases a <;> cases b <;> rfl
end Fz

/-! LibShow: when the repr of a tuple or a list is told. -/
namespace Fz
open PySem
/-- short leaves, few levels, no dict -/
def sm : Nat → D → Bool
  | _, .none => true
  | _, .bool _ => true
  | _, .int i => decide (i.natAbs < 1000000000000)
  | _, .str x => x.cps.toList.all fun c => decide (c < 16 ^ 8)
  | n + 1, .list xs => xs.all (sm n)
  | n + 1, .tuple xs => xs.all (sm n)
  | _, _ => false
theorem sm_int_le {i : Int} (h : i.natAbs < 1000000000000) : (PyData.shown (.int i)).length ≤ 13 ∧ i.natAbs.log2 < 1920 := by
  have h10 : i.natAbs < 10 ^ 12 := h
  refine ⟨?_, ?_⟩
  · have := int_text_length_le10 (a := i) (k := 12) (by decide) h10
    simp only [PyData.shown]
    rw [PySem.ofString_length]
    exact this
  · by_cases z : i.natAbs = 0
    · rw [z]; decide
    · have h2 : i.natAbs < 2 ^ 1920 := Nat.lt_of_lt_of_le h10 (by decide +kernel)
      exact (Nat.log2_lt z).mpr h2
theorem sm_all {P : D → Bool} {PA : List D → Bool} (hn : PA [] = true) (hc : ∀ x xs, P x = true → PA xs = true → PA (x :: xs) = true) {n : Nat} (h : ∀ x, sm n x = true → P x = true) : ∀ xs : List D, xs.all (sm n) = true → PA xs = true
  | [], _ => hn
  | x :: xs, e => by
    rw [List.all_cons, Bool.and_eq_true] at e
    exact hc x xs (h x e.1) (sm_all hn hc h xs e.2)
theorem sm_leaves : ∀ (n : Nat) (d : D), sm n d = true → d.leavesShort 13 = true
  | n, .none, _ => rfl
  | n, .bool _, _ => rfl
  | n, .int i, h => by
    have h : decide (i.natAbs < 1000000000000) = true := by cases n <;> exact h
    exact decide_eq_true (sm_int_le (of_decide_eq_true h)).1
  | n, .str x, h => by cases n <;> exact h
  | 0, .list xs, h => by cases h
  | 0, .tuple xs, h => by cases h
  | n + 1, .list xs, h => sm_all (PA := PyData.leavesShortAll 13) rfl (fun x xs a b => by simp only [PyData.leavesShortAll, a, b]; rfl) (sm_leaves n) xs h
  | n + 1, .tuple xs, h => sm_all (PA := PyData.leavesShortAll 13) rfl (fun x xs a b => by simp only [PyData.leavesShortAll, a, b]; rfl) (sm_leaves n) xs h
  | n, .dict _, h => by cases n <;> cases h
theorem sm_showable : ∀ (n : Nat) (d : D), sm n d = true → d.showable = true
  | n, .none, _ => rfl
  | n, .bool _, _ => rfl
  | n, .int i, h => by
    have h : decide (i.natAbs < 1000000000000) = true := by cases n <;> exact h
    exact decide_eq_true (sm_int_le (of_decide_eq_true h)).2
  | n, .str x, h => rfl
  | 0, .list xs, h => by cases h
  | 0, .tuple xs, h => by cases h
  | n + 1, .list xs, h => sm_all (PA := PyData.showableAll) rfl (fun x xs a b => by simp only [PyData.showableAll, a, b]; rfl) (sm_showable n) xs h
  | n + 1, .tuple xs, h => sm_all (PA := PyData.showableAll) rfl (fun x xs a b => by simp only [PyData.showableAll, a, b]; rfl) (sm_showable n) xs h
  | n, .dict _, h => by cases n <;> cases h
theorem sm_nodict : ∀ (n : Nat) (d : D), sm n d = true → (!d.hasDict) = true
  | n, .none, _ => rfl
  | n, .bool _, _ => rfl
  | n, .int i, h => rfl
  | n, .str x, h => rfl
  | 0, .list xs, h => by cases h
  | 0, .tuple xs, h => by cases h
  | n + 1, .list xs, h => sm_all (P := fun d => !d.hasDict) (PA := fun l => !PyData.hasDictAll l) rfl (fun x xs a b => by simp only [PyData.hasDictAll, Bool.not_eq_true'] at *; simp [a, b]) (sm_nodict n) xs h
  | n + 1, .tuple xs, h => sm_all (P := fun d => !d.hasDict) (PA := fun l => !PyData.hasDictAll l) rfl (fun x xs a b => by simp only [PyData.hasDictAll, Bool.not_eq_true'] at *; simp [a, b]) (sm_nodict n) xs h
  | n, .dict _, h => by cases n <;> cases h
theorem sm_shp : ∀ (n : Nat) (d : D), sm n d = true → shp n d = true
  | n, .none, _ => by cases n <;> rfl
  | n, .bool _, _ => by cases n <;> rfl
  | n, .int i, h => by cases n <;> rfl
  | n, .str x, h => by cases n <;> rfl
  | 0, .list xs, h => by cases h
  | 0, .tuple xs, h => by cases h
  | n + 1, .list xs, h => sm_all (P := shp n) (PA := fun l => l.all (shp n)) rfl (fun x xs a b => by simp only [List.all_cons, a, b]; rfl) (sm_shp n) xs h
  | n + 1, .tuple xs, h => sm_all (P := shp n) (PA := fun l => l.all (shp n)) rfl (fun x xs a b => by simp only [List.all_cons, a, b]; rfl) (sm_shp n) xs h
  | n, .dict _, h => by cases n <;> cases h
/-- what may be shown -/
theorem showOk_of {d : D} (h : sm 40 d = true) (hb : d.bulk ≤ 1048576) : ShowOk d :=
  ⟨sm_shp 40 d h, sm_showable 40 d h, by have := sm_nodict 40 d h; simpa using this, PyData.shown_fits_bulk (B := 13) (by decide) (by decide) (sm_leaves 40 d h) hb⟩
theorem bi_show_t {xs : List D} (h : sm 40 (.tuple xs) = true) (hb : PyData.bulk (.tuple xs) ≤ 1048576) : biD .show [.tuple xs] = .ok (.v (.str (PyData.shown (.tuple xs)))) := if_pos (showOk_of h hb)
theorem bi_show_l {xs : List D} (h : sm 40 (.list xs) = true) (hb : PyData.bulk (.list xs) ≤ 1048576) : biD .show [.list xs] = .ok (.v (.str (PyData.shown (.list xs)))) := if_pos (showOk_of h hb)
@[simp] theorem bi_show_n : biD .show [.none] = .ok (.v (.str "None")) := rfl
@[simp] theorem bi_show_b (b : Bool) : biD .show [.bool b] = .ok (.v (.str (if b then "True" else "False"))) := rfl
theorem bi_show_i {a : Int} (h : ReprOk a) : biD .show [.int a] = .ok (.v (.str (toString a))) := if_pos h
section
variable (n : Nat) (i : Int) (b : Bool) (xs : List D)
@[simp] theorem sm_non : sm n .none = true := by cases n <;> rfl
@[simp] theorem sm_bool : sm n (.bool b) = true := by cases n <;> rfl
@[simp] theorem sm_int : sm n (.int i) = decide (i.natAbs < 1000000000000) := by cases n <;> rfl
@[simp] theorem sm_list : sm (n + 1) (.list xs) = xs.all (sm n) := rfl
@[simp] theorem sm_tuple : sm (n + 1) (.tuple xs) = xs.all (sm n) := rfl
theorem sm_ints {α : Type} (f : α → Int) (l : List α) (h : ∀ x ∈ l, (f x).natAbs < 1000000000000) : (l.map fun x => PyData.int (f x)).all (sm n) = true := by
  rw [List.all_map, List.all_eq_true]
  intro x hx
  simp only [Function.comp, sm_int]
  exact decide_eq_true (h x hx)
theorem bulk_ints {α : Type} (f : α → Int) : ∀ l : List α, PyData.bulkAll (l.map fun x => PyData.int (f x)) = l.length
  | [] => rfl
  | x :: l => by
    rw [List.map_cons, PyData.bulkAll, bulk_ints f l, List.length_cons]
    simp only [PyData.bulk]
    omega
end
end Fz

/-! LibMin: the least of tuples, sorted tuples. -/
namespace Fz
open PySem
theorem lxI_asym : ∀ {a b : List Int}, lxI a b = true → lxI b a = false
  | [], [], h => by cases h
  | [], _ :: _, _ => rfl
  | _ :: _, [], h => by cases h
  | x :: a, y :: b, h => by
    rw [lxI_cons] at h ⊢
    by_cases e : x = y
    · subst e
      rw [if_pos rfl] at h ⊢
      exact lxI_asym h
    · rw [if_neg e] at h
      rw [if_neg (fun z => e z.symm)]
      have := of_decide_eq_true h
      exact decide_eq_false (by omega)
theorem lxI_eq : ∀ {a b : List Int}, lxI a b = false → lxI b a = false → a = b
  | [], [], _, _ => rfl
  | [], _ :: _, h, _ => by cases h
  | _ :: _, [], _, h => by cases h
  | x :: a, y :: b, h, k => by
    rw [lxI_cons] at h k
    by_cases e : x = y
    · subst e
      rw [if_pos rfl] at h k
      rw [lxI_eq h k]
    · rw [if_neg e] at h
      rw [if_neg (fun z => e z.symm)] at k
      have := of_decide_eq_false h
      have := of_decide_eq_false k
      omega
/-- not less, one after the other -/
theorem lxI_ntr : ∀ {a b c : List Int}, lxI b a = false → lxI c b = false → lxI c a = false
  | [], _, [], _, _ => rfl
  | [], _, _ :: _, _, _ => rfl
  | _ :: _, [], _, h, _ => by cases h
  | _ :: _, _ :: _, [], _, k => by cases k
  | x :: a, y :: b, z :: c, h, k => by
    rw [lxI_cons] at h k ⊢
    by_cases e : y = x
    · subst e
      rw [if_pos rfl] at h
      by_cases e2 : z = y
      · subst e2
        rw [if_pos rfl] at k ⊢
        exact lxI_ntr h k
      · rw [if_neg e2] at k ⊢
        exact k
    · rw [if_neg e] at h
      have := of_decide_eq_false h
      by_cases e2 : z = y
      · subst e2
        rw [if_neg e]
        exact h
      · rw [if_neg e2] at k
        have := of_decide_eq_false k
        rw [if_neg (by omega)]
        exact decide_eq_false (by omega)
theorem lxI_self : ∀ a : List Int, lxI a a = false
  | [] => rfl
  | x :: a => by rw [lxI_cons, if_pos rfl]; exact lxI_self a
/-- data that are told apart by rows of numbers -/
structure KeyOf {α : Type} (f : α → D) (key : α → List Int) : Prop where
  al : ∀ a b, PySem.W.alike (f a) (f b) = true
  sh : ∀ a, (shp 40 (f a) && !isNoneD (f a)) = true
  lt : ∀ a b, PySem.W.dataLt (f a) (f b) = lxI (key a) (key b)
section
variable {α : Type} {f : α → D} {key : α → List Int}
theorem KeyOf.alike (K : KeyOf f key) (l : List α) : AlikeB (l.map f) = true := by
  unfold AlikeB
  rw [Bool.and_eq_true, List.all_eq_true, List.all_eq_true]
  refine ⟨fun x hx => ?_, fun x hx => ?_⟩
  · obtain ⟨a, _, rfl⟩ := List.mem_map.mp hx
    rw [List.all_eq_true]
    intro y hy
    obtain ⟨b, _, rfl⟩ := List.mem_map.mp hy
    exact K.al a b
  · obtain ⟨a, _, rfl⟩ := List.mem_map.mp hx
    exact K.sh a
theorem minF (K : KeyOf f key) : ∀ (l : List α) (x : α), ∃ m, PySem.W.minD (f x) (l.map f) = f m ∧ m ∈ x :: l ∧ ∀ y ∈ x :: l, lxI (key y) (key m) = false
  | [], x => ⟨x, rfl, List.mem_cons_self, fun y hy => by rw [List.mem_singleton.mp hy]; exact lxI_self _⟩
  | z :: l, x => by
    have e : PySem.W.minD (f x) ((z :: l).map f) = PySem.W.minD (if lxI (key z) (key x) = true then f z else f x) (l.map f) := by
      rw [← K.lt]
      rfl
    by_cases h : lxI (key z) (key x) = true
    · obtain ⟨m, e1, h1, h2⟩ := minF K l z
      refine ⟨m, by rw [e, if_pos h, e1], List.mem_cons_of_mem _ h1, fun y hy => ?_⟩
      rcases List.mem_cons.mp hy with rfl | hy
      · exact lxI_ntr (h2 z List.mem_cons_self) (lxI_asym h)
      · exact h2 y hy
    · obtain ⟨m, e1, h1, h2⟩ := minF K l x
      have h' : lxI (key z) (key x) = false := by simpa using h
      refine ⟨m, by rw [e, if_neg h, e1], ?_, fun y hy => ?_⟩
      · rcases List.mem_cons.mp h1 with rfl | h1
        · exact List.mem_cons_self
        · exact List.mem_cons_of_mem _ (List.mem_cons_of_mem _ h1)
      · rcases List.mem_cons.mp hy with rfl | hy
        · exact h2 y List.mem_cons_self
        · rcases List.mem_cons.mp hy with rfl | hy
          · exact lxI_ntr (h2 x List.mem_cons_self) h'
          · exact h2 y (List.mem_cons_of_mem _ hy)
theorem min_key (K : KeyOf f key) {l : List α} (hl : l ≠ []) : ∃ m, biD .min1 [.list (l.map f)] = .ok (.v (f m)) ∧ m ∈ l ∧ ∀ y ∈ l, lxI (key y) (key m) = false := by
  cases l with
  | nil => exact absurd rfl hl
  | cons x l =>
    obtain ⟨m, e, h1, h2⟩ := minF K l x
    have a := K.alike (x :: l)
    refine ⟨m, ?_, h1, h2⟩
    rw [List.map_cons] at a ⊢
    simp only [biD, items, a, if_true, e]
def kle (key : α → List Int) (a b : α) : Bool := !lxI (key b) (key a)
theorem kle_tr (a b c : α) (h : kle key a b = true) (k : kle key b c = true) : kle key a c = true := by
  unfold kle at *
  rw [Bool.not_eq_true'] at *
  exact lxI_ntr h k
theorem kle_tot (a b : α) : (kle key a b || kle key b a) = true := by
  unfold kle
  cases h : lxI (key b) (key a)
  · rfl
  · rw [lxI_asym h] <;> rfl
theorem sorted_key (K : KeyOf f key) (hn : ∀ a, neTupD (f a) = true) (l : List α) : biD .sorted [.list (l.map f)] = .ok (.t ((l.mergeSort (kle key)).map f)) := by
  have h1 := K.alike l
  have h2 : SortB (l.map f) = true := by
    unfold SortB
    rw [Bool.or_eq_true, List.all_eq_true]
    refine .inl fun x hx => ?_
    obtain ⟨a, _, rfl⟩ := List.mem_map.mp hx
    exact hn a
  have e := List.map_mergeSort (r := kle key) (s := PySem.W.dataLe false id) (f := f) (l := l) fun a _ b _ => by
    rw [PySem.W.dataLe_eq]
    show (!lxI (key b) (key a)) = !PySem.W.dataLt (f b) (f a)
    rw [K.lt]
  rw [e]
  simp only [biD, h1, h2, and_self, if_true]
theorem sort_head {l : List α} {h : α} {r : List α} (e : l.mergeSort (kle key) = h :: r) : h ∈ l ∧ ∀ y ∈ l, lxI (key y) (key h) = false := by
  have p := List.mergeSort_perm l (kle key)
  have s := List.pairwise_mergeSort (le := kle key) kle_tr kle_tot l
  rw [e] at p s
  refine ⟨p.mem_iff.mp List.mem_cons_self, fun y hy => ?_⟩
  rcases List.mem_cons.mp (p.mem_iff.mpr hy) with rfl | hy
  · exact lxI_self _
  · have := (List.pairwise_cons.mp s).1 y hy
    unfold kle at this
    simpa using this
end
/-- a number and a row -/
def kD (p : Int × List Int) : D := .tuple [.int p.1, itD p.2]
theorem lt_it (a b : List Int) : PySem.W.dataLt (itD a) (itD b) = lxI a b := by
  unfold itD
  rw [PySem.W.dataLt_tuple, lexLt_ints]
theorem al_it (a b : List Int) : PySem.W.alike (itD a) (itD b) = true := by
  unfold itD
  rw [PySem.W.alike]
  exact alikeAll_ints a b
theorem itK : KeyOf itD fun x => x := ⟨al_it, fun a => by simp [itD, isNoneD], lt_it⟩
theorem ppK : KeyOf (fun p : Int × Int => .tuple [.int p.1, .int p.2]) fun p => [p.1, p.2] :=
  ⟨fun a b => al_it [a.1, a.2] [b.1, b.2], fun a => by simp [isNoneD], fun a b => lt_it [a.1, a.2] [b.1, b.2]⟩
theorem kdK : KeyOf kD fun p => p.1 :: p.2 := by
  refine ⟨fun a b => ?_, fun a => by simp [kD, itD, isNoneD], fun a b => ?_⟩
  · unfold kD
    rw [PySem.W.alike, PySem.W.alikeAll, PySem.W.alikeAll, al_it, PySem.W.alikeAll]
    simp [PySem.W.alike]
  · unfold kD
    rw [PySem.W.dataLt_tuple, lxI_cons]
    by_cases h : a.1 = b.1
    · rw [if_pos h, PySem.W.dataLt_all_yes (x := .int a.1) (y := .int b.1) (by simp [PySem.W.alike]) (by simp [PyData.eqv, h])]
      by_cases h2 : a.2 = b.2
      · rw [h2, lxI_self]
        rw [PySem.W.dataLt_all_yes (x := itD b.2) (y := itD b.2) (al_it _ _) (by rw [eqv_pl 40 _ _ (pl_it _) (pl_it _)]; simp)]
        rfl
      · rw [PySem.W.dataLt_all_no (al_it _ _) (by rw [eqv_pl 40 _ _ (pl_it _) (pl_it _)]; exact decide_eq_false fun z => h2 ((List.map_inj_right (fun x y e => PyData.int.inj e)).mp (PyData.tuple.inj z))), lt_it]
    · rw [if_neg h, PySem.W.dataLt_all_no (x := .int a.1) (y := .int b.1) (by simp [PySem.W.alike]) (by simp [PyData.eqv, h]), PySem.W.dataLt_int]
theorem zip_ints : ∀ ns ms : List Int, zipL (ns.map .int) (ms.map .int) = (ns.zip ms).map fun p => .tuple [.int p.1, .int p.2]
  | [], _ => rfl
  | _ :: _, [] => rfl
  | n :: ns, m :: ms => by
    rw [List.map_cons, List.map_cons, zipL, zip_ints ns ms]
    rfl
theorem asc_next : ∀ {ns : List Int}, ns.Pairwise (· < ·) → ∀ p ∈ ns.zip (ns.drop 1), p.1 < p.2
  | [], _, p, h => by cases h
  | [a], _, p, h => by cases h
  | a :: b :: r, h, p, hp => by
    obtain ⟨h1, h2⟩ := List.pairwise_cons.mp h
    rcases List.mem_cons.mp hp with rfl | hp
    · exact h1 b List.mem_cons_self
    · exact asc_next h2 p hp
end Fz

/-! Loops over a mapped list as a fold; filters of comprehensions. -/
namespace Fz
open PySem
variable {Φ : Fns} {Γ : List D}
theorem rs_fold {α β : Type} {xs : List α} {f : α → D} {g it b r : T} {σ σ1 : Sts} {Q : R → Sts → Prop} (step : β → α → β) (S : Nat → β → Sts → Prop) (b0 : β) (hi : evI Φ Γ it σ = .ok (xs.map f, σ1)) (h0 : S 0 b0 σ1)
    (hs : ∀ i c x σ, x ∈ xs → i < xs.length → S i c σ → ∃ σ', Fz.forTurn Φ Γ g b (f x) σ = .ok (.nx, σ') ∧ S (i + 1) (step c x) σ') (k : ∀ σ', S xs.length (xs.foldl step b0) σ' → RetsTo Φ Γ r σ' Q) : RetsTo Φ Γ (.cons (.forr g it b) r) σ Q := by
  refine rs_for (P := fun i σ => S i ((xs.take i).foldl step b0) σ) hi h0 (fun i d σ hd hp => ?_) (fun σ' hp => k σ' ?_)
  · rw [List.getElem?_map] at hd
    obtain ⟨x, hx, rfl⟩ := Option.map_eq_some_iff.mp hd
    obtain ⟨σ', e, p⟩ := hs i _ x σ (List.mem_of_getElem? hx) (List.getElem?_eq_some_iff.mp hx).1 hp
    refine ⟨σ', e, ?_⟩
    rw [List.take_add_one, hx, List.foldl_append]
    exact p
  · rw [List.length_map, List.take_length] at hp
    exact hp
theorem fm_filter {α β : Type} (p : α → Bool) (g : α → β) : ∀ l : List α, (l.filterMap fun x => if p x = true then some (g x) else none) = (l.filter p).map g
  | [] => rfl
  | x :: l => by
    rw [List.filterMap_cons, List.filter_cons, fm_filter p g l]
    by_cases q : p x = true
    · rw [if_pos q, if_pos q]; rfl
    · rw [if_neg q, if_neg q]
theorem fold_app {α β : Type} (g : α → β) : ∀ (xs : List α) (acc : List β), xs.foldl (fun a x => a ++ [g x]) acc = acc ++ xs.map g
  | [], acc => (List.append_nil acc).symm
  | x :: xs, acc => by rw [List.foldl_cons, fold_app g xs, List.map_cons, List.append_assoc]; rfl
theorem fold_filt {α β : Type} (c : β → Bool) (g : β → α) : ∀ (xs : List β) (acc : List α), xs.foldl (fun a x => if c x = true then a ++ [g x] else a) acc = acc ++ (xs.filter c).map g
  | [], acc => (List.append_nil acc).symm
  | x :: xs, acc => by
    rw [List.foldl_cons, fold_filt c g xs, List.filter_cons]
    by_cases q : c x = true
    · rw [if_pos q, if_pos q, List.map_cons, List.append_assoc]; rfl
    · rw [if_neg q, if_neg q]
theorem fold_flat {α β : Type} (g : β → List α) : ∀ (xs : List β) (acc : List α), xs.foldl (fun a x => a ++ g x) acc = acc ++ xs.flatMap g
  | [], acc => (List.append_nil acc).symm
  | x :: xs, acc => by
    rw [List.foldl_cons, fold_flat g xs, List.flatMap_cons, List.append_assoc]
/-- the first turn that returns -/
theorem ev_find {α : Type} {xs : List α} {f : α → D} {g it b : T} {σ σ1 : Sts} (hit : α → Option R) (S E : Sts → Prop) (hi : evI Φ Γ it σ = .ok (xs.map f, σ1)) (h0 : S σ1)
    (hs : ∀ x σ, x ∈ xs → S σ → match hit x with | none => ∃ σ', Fz.forTurn Φ Γ g b (f x) σ = .ok (.nx, σ') ∧ S σ' | some v => ∃ σ', Fz.forTurn Φ Γ g b (f x) σ = .ok (.rt v, σ') ∧ E σ') :
    match xs.findSome? hit with | none => ∃ σ', evS Φ Γ (.forr g it b) σ = .ok (.nx, σ') ∧ S σ' | some v => ∃ σ', evS Φ Γ (.forr g it b) σ = .ok (.rt v, σ') ∧ E σ' := by
  have main : ∀ (xs : List α) (σ : Sts), S σ → (∀ x σ, x ∈ xs → S σ → match hit x with | none => ∃ σ', Fz.forTurn Φ Γ g b (f x) σ = .ok (.nx, σ') ∧ S σ' | some v => ∃ σ', Fz.forTurn Φ Γ g b (f x) σ = .ok (.rt v, σ') ∧ E σ') →
      match xs.findSome? hit with | none => ∃ σ', forLoop (Fz.forTurn Φ Γ g b) (xs.map f) σ = .ok (.nx, σ') ∧ S σ' | some v => ∃ σ', forLoop (Fz.forTurn Φ Γ g b) (xs.map f) σ = .ok (.rt v, σ') ∧ E σ' := by
    intro xs
    induction xs with
    | nil => intro σ h _; exact ⟨σ, rfl, h⟩
    | cons x xs ih =>
      intro σ h hs
      have hx := hs x σ List.mem_cons_self h
      rw [List.findSome?_cons]
      cases hh : hit x with
      | none =>
        rw [hh] at hx
        obtain ⟨σ2, e, h2⟩ := hx
        have i := ih σ2 h2 fun y σ hy => hs y σ (List.mem_cons_of_mem _ hy)
        simp only [List.map_cons, forLoop, e, bind_ok']
        exact i
      | some v =>
        rw [hh] at hx
        obtain ⟨σ2, e, h2⟩ := hx
        exact ⟨σ2, by simp only [List.map_cons, forLoop, e, bind_ok'], h2⟩
  have m := main xs σ1 h0 hs
  have e : evS Φ Γ (.forr g it b) σ = forLoop (Fz.forTurn Φ Γ g b) (xs.map f) σ1 := by simp only [evS_forr', hi, bind_ok']
  rw [e]
  exact m
theorem ev_fold {α β : Type} {xs : List α} {f : α → D} {g it b : T} {σ σ1 : Sts} (step : β → α → β) (S : Nat → β → Sts → Prop) (b0 : β) (hi : evI Φ Γ it σ = .ok (xs.map f, σ1)) (h0 : S 0 b0 σ1)
    (hs : ∀ i c x σ, x ∈ xs → i < xs.length → S i c σ → ∃ σ', Fz.forTurn Φ Γ g b (f x) σ = .ok (.nx, σ') ∧ S (i + 1) (step c x) σ') : ∃ σ', evS Φ Γ (.forr g it b) σ = .ok (.nx, σ') ∧ S xs.length (xs.foldl step b0) σ' := by
  obtain ⟨σ', e, p⟩ := evFor (g := g) (b := b) (P := fun i σ => S i ((xs.take i).foldl step b0) σ) hi h0 (fun i d σ hd hp => by
    rw [List.getElem?_map] at hd
    obtain ⟨x, hx, rfl⟩ := Option.map_eq_some_iff.mp hd
    obtain ⟨σ', e, p⟩ := hs i _ x σ (List.mem_of_getElem? hx) (List.getElem?_eq_some_iff.mp hx).1 hp
    refine ⟨σ', e, ?_⟩
    rw [List.take_add_one, hx, List.foldl_append]
    exact p)
  rw [List.length_map, List.take_length] at p
  exact ⟨σ', e, p⟩
theorem any_eqv {x : D} {xs : List D} (hx : pl 40 x = true) (h : xs.all (pl 40) = true) : (xs.any fun y => PyData.eqv y x) = decide (x ∈ xs) := by
  rw [List.all_eq_true] at h
  rw [Bool.eq_iff_iff, List.any_eq_true, decide_eq_true_iff]
  constructor
  · rintro ⟨y, hy, e⟩
    rw [eqv_pl 40 y x (h y hy) hx, decide_eq_true_iff] at e
    exact e ▸ hy
  · intro hm
    exact ⟨x, hm, by rw [eqv_pl 40 x x hx hx]; exact decide_eq_true rfl⟩
theorem all_shp {xs : List D} (h : xs.all (pl 40) = true) : xs.all (shp 40) = true := by
  rw [List.all_eq_true] at h ⊢
  exact fun x hx => pl_shp 40 x (h x hx)
theorem in_pl {x : D} {xs : List D} (hx : pl 40 x = true) (h : xs.all (pl 40) = true) : inD x (.list xs) = .ok (decide (x ∈ xs)) ∧ inD x (.tuple xs) = .ok (decide (x ∈ xs)) := by
  have e := any_eqv hx h
  constructor
  · show (if shp 40 x = true ∧ xs.all (shp 40) = true then Res.ok (xs.any fun y => PyData.eqv y x) else .no) = _
    rw [if_pos ⟨pl_shp 40 x hx, all_shp h⟩, e]
  · show (if shp 40 x = true ∧ xs.all (shp 40) = true then Res.ok (xs.any fun y => PyData.eqv y x) else .no) = _
    rw [if_pos ⟨pl_shp 40 x hx, all_shp h⟩, e]
theorem index_pl {x : D} {xs : List D} (hx : pl 40 x = true) (h : xs.all (pl 40) = true) {j : Nat} (hj : xs.findIdx? (fun y => decide (y = x)) = some j) : mtD .index (.list xs) x = .ok (.v (.int j)) := by
  have e : xs.findIdx? (fun y => PyData.eqv y x) = xs.findIdx? (fun y => decide (y = x)) := by
    rw [List.all_eq_true] at h
    clear hj
    induction xs with
    | nil => rfl
    | cons y xs ih =>
      rw [List.findIdx?_cons, List.findIdx?_cons, eqv_pl 40 y x (h y List.mem_cons_self) hx, ih fun z hz => h z (List.mem_cons_of_mem _ hz)]
  show (if shp 40 x = true ∧ xs.all (shp 40) = true then (match xs.findIdx? (fun y => PyData.eqv y x) with | some j => Res.ok (R.v (.int j)) | none => .no) else .no) = _
  rw [if_pos ⟨pl_shp 40 x hx, all_shp h⟩, e, hj]
theorem in_ints (c : List Int) (d : Int) : inD (.int d) (.tuple (c.map .int)) = .ok (decide (d ∈ c)) := by
  have := (in_pl (x := .int d) (by simp) (pl_mapInt (n := 40) (fun i : Int => i) c)).2
  rw [this]
  simp
theorem in_nats (row : List Nat) (a : Nat) : inD (.int (a : Int)) (.tuple (row.map fun a : Nat => .int (a : Int))) = .ok (decide (a ∈ row)) := by
  have := (in_pl (x := .int (a : Int)) (by simp) (pl_mapInt (n := 40) (fun i : Nat => (i : Int)) row)).2
  rw [this]
  congr 1
  rw [decide_eq_decide, List.mem_map]
  constructor
  · rintro ⟨b, hb, e⟩
    injection e with e
    have : b = a := by omega
    exact this ▸ hb
  · intro h
    exact ⟨a, h, rfl⟩
theorem enum_get : ∀ (n : Nat) (xs : List D) (i : Nat), (enumL n xs)[i]? = xs[i]?.map fun x => .tuple [.int ((n + i : Nat) : Int), x]
  | _, [], _ => by simp [enumL]
  | n, x :: xs, 0 => rfl
  | n, x :: xs, i + 1 => by
    rw [enumL, List.getElem?_cons_succ, List.getElem?_cons_succ, enum_get (n + 1) xs i]
    congr 1
    funext x
    rw [show n + 1 + i = n + (i + 1) by omega]
theorem enum_its {α : Type} (g : α → D) (z : α) (cs : List α) : enumL 0 (cs.map g) = (List.range cs.length).map fun a : Nat => .tuple [.int (a : Int), g (cs.getD a z)] := by
  refine List.ext_getElem? fun i => ?_
  rw [enum_get, List.getElem?_map, List.getElem?_map]
  by_cases h : i < cs.length
  · rw [List.getElem?_range h, List.getElem?_eq_getElem h, Option.map_some, Option.map_some, Option.map_some, List.getD_eq_getElem?_getD, List.getElem?_eq_getElem h, Nat.zero_add]
    rfl
  · rw [List.getElem?_eq_none (by omega), List.getElem?_eq_none (by rw [List.length_range]; omega)]
    rfl
end Fz

/-! K45E: the law by its terms. HEAD -/
namespace HeadK45
open PySem PySem.Spec PyProof.Rows L2 Fz
def top (i : Nat) : PySem.Stmt := PySem.Challenge.pw_fewskies_k45_whole_wheel_pairs_judged_an.main.body.getD i (.Pass ⟨0, 0, 0, 0⟩)
def mkD (x : Str) (i : Nat) : He.DefD := ⟨(x, none), x, x, defArgs (top i), defBody (top i), defScope (top i), [], []⟩
def fn : List He.DefD := [mkD "_law_hand" 29, mkD "is_tuple" 3, mkD "is_integer" 1, mkD "is_within" 2, mkD "check_pair" 17, mkD "parts_of" 20, mkD "divisor" 9, mkD "reduced" 10, mkD "turn_cosine" 26, mkD "_law_draw" 30, mkD "_law_some" 31, mkD "_law_wheel_pair" 38, mkD "bound_of" 23, mkD "back_or_not" 24, mkD "_law_bound" 41, mkD "_law_low" 35, mkD "_law_cosine" 39, mkD "_law_deep" 33, mkD "_law_is" 32, mkD "is_fraction" 13, mkD "is_cosine" 18, mkD "added" 11, mkD "times" 12, mkD "is_back" 21, mkD "is_back_or_not" 25, mkD "_law_is_cosine" 43, mkD "_law_plus" 36, mkD "_law_times" 37, mkD "_law_speed" 40, mkD "_law_judged" 44, mkD "_law_is_right" 45, mkD "check_cosine" 19, mkD "goes_back" 22, mkD "seen_square" 27, mkD "_law_word" 34, mkD "_law_is_refused" 46, mkD "law" 47, mkD "_law_flags" 42]
def fa : List He.Fa := [.glo "_law_hand", .glo "is_tuple", .glo "is_integer", .glo "is_within", .glo "check_pair", .glo "parts_of", .glo "divisor", .glo "reduced", .glo "turn_cosine", .glo "_law_draw", .glo "_law_some", .glo "_law_wheel_pair", .glo "bound_of", .glo "back_or_not", .glo "_law_bound", .glo "_law_low", .glo "_law_cosine", .glo "_law_deep", .glo "_law_is", .glo "is_fraction", .glo "is_cosine", .glo "added", .glo "times", .glo "is_back", .glo "is_back_or_not", .glo "_law_is_cosine", .glo "_law_plus", .glo "_law_times", .glo "_law_speed", .glo "_law_judged", .glo "_law_is_right", .glo "check_cosine", .glo "goes_back", .glo "seen_square", .glo "_law_word", .glo "_law_is_refused", .glo "law", .glo "_law_flags", .free "len", .free "int", .free "abs", .free "tuple", .free "list", .free "all", .free "any", .free "sum", .free "sorted", .free "min", .free "max", .free "isinstance", .free "bool", .free "str", .free "dict", .free "range", .free "zip", .free "enumerate", .free "set", .free "repr", .glo "SkyError", .int "MOST_RADIUS" (60), .int "MOST_TURNS" (40)]
def tf : List He.Defn := [("_law_is_refused", none)]
def mo : More := ⟨[], "SkyError", PySem.Challenge.pw_fewskies_k45_whole_wheel_pairs_judged_an.main.file, [("NoWheelPair" : PySem.Str), ("NoCosine" : PySem.Str)], [("NoWheelPair", [("ValueError", true), ("NoWheelPair", true), ("NoCosine", false)], false), ("NoCosine", [("ValueError", true), ("NoWheelPair", false), ("NoCosine", true)], false)], [], []⟩
def loose : List Str := [("is_integer" : PySem.Str), ("is_within" : PySem.Str), ("is_tuple" : PySem.Str), ("SkyError" : PySem.Str), ("NoWheelPair" : PySem.Str), ("NoCosine" : PySem.Str), ("divisor" : PySem.Str), ("reduced" : PySem.Str), ("added" : PySem.Str), ("times" : PySem.Str), ("is_fraction" : PySem.Str), ("MOST_RADIUS" : PySem.Str), ("MOST_TURNS" : PySem.Str), ("check_pair" : PySem.Str), ("is_cosine" : PySem.Str), ("check_cosine" : PySem.Str), ("parts_of" : PySem.Str), ("is_back" : PySem.Str), ("goes_back" : PySem.Str), ("bound_of" : PySem.Str), ("back_or_not" : PySem.Str), ("is_back_or_not" : PySem.Str), ("turn_cosine" : PySem.Str), ("seen_square" : PySem.Str), ("_law_hand" : PySem.Str), ("_law_draw" : PySem.Str), ("_law_some" : PySem.Str), ("_law_is" : PySem.Str), ("_law_deep" : PySem.Str), ("_law_word" : PySem.Str), ("_law_low" : PySem.Str), ("_law_plus" : PySem.Str), ("_law_times" : PySem.Str), ("_law_wheel_pair" : PySem.Str), ("_law_cosine" : PySem.Str), ("_law_speed" : PySem.Str), ("_law_bound" : PySem.Str), ("_law_flags" : PySem.Str), ("_law_is_cosine" : PySem.Str), ("_law_judged" : PySem.Str), ("_law_is_right" : PySem.Str), ("_law_is_refused" : PySem.Str)]
abbrev R : PySem.W.OpenRow := PySem.W.OpenLaw.row PySem.Challenge.rw_fewskies_k45_whole_wheel_pairs_judged_an
abbrev hk : PySem.W.Hook := hookZ 5 fa fn tf (moreB mo tf) (tabsOf mo.ds)
def ob (s : PySem.W.SharedT) : He.AlX := obsZ 5 fa fn tf (moreB mo tf) (tabsOf mo.ds) (HandSHeadRun.getT s)
theorem ob_eq (s : PySem.W.SharedT) : ob s = hk.obs s.abs := obsZ_eq (HandSHeadRun.getT_eq s)
theorem run (w : World) : HandSHeadRun.RunEq R (PySem.W.view R.prog [47]) hk ob 12000 loose w := by
  intro os
  kernel_rfl
end HeadK45

/-! K45T: the terms of the law's defs. -/
namespace LawK45
open PySem Fz
noncomputable section
/-- _law_hand(script): 0 script, 1 cells, 2 cell; calls  -/
def bl_hand : T := (.cons (.asg (.gn 1) (.lc (.gn 2) (.itv (.slc (.var 0) .nil (.cons (.int 63) .nil))) .nil (.bi .abs (.cons (.bi .int (.cons (.var 2) .nil)) .nil)) [2])) (.cons (.ret (.lst (.cons (.var 1) (.cons (.int 0) (.cons (.int 0) (.cons (.bin .add (.int 251) (.bi .len (.cons (.var 1) .nil))) (.cons (.int 0) .nil))))))) .nil))
def l_hand : FnSem := mkFn (tbl []) [] [false] 3 bl_hand
@[simp] theorem l_hand_io : l_hand.inout = [false] := rfl
/-- is_tuple(thing, least, most): 0 thing, 1 least, 2 most; calls  -/
def bq_is_tuple : T := (.cons (.ret (.and (.bi .isTuple (.cons (.var 0) .nil)) (.chn .le .le (.var 1) (.bi .len (.cons (.var 0) .nil)) (.var 2)))) .nil)
def q_is_tuple : FnSem := mkFn (tbl []) [] [false, false, false] 3 bq_is_tuple
@[simp] theorem q_is_tuple_io : q_is_tuple.inout = [false, false, false] := rfl
/-- is_integer(thing): 0 thing; calls  -/
def bq_is_integer : T := (.cons (.ret (.and (.bi .isInt (.cons (.var 0) .nil)) (.not (.bi .isBool (.cons (.var 0) .nil))))) .nil)
def q_is_integer : FnSem := mkFn (tbl []) [] [false] 1 bq_is_integer
@[simp] theorem q_is_integer_io : q_is_integer.inout = [false] := rfl
/-- is_within(thing, low, high): 0 thing, 1 low, 2 high; calls 0 is_integer -/
def bq_is_within : T := (.cons (.ret (.and (.call 0 (.cons (.var 0) .nil)) (.chn .le .le (.var 1) (.var 0) (.var 2)))) .nil)
def q_is_within : FnSem := mkFn (tbl [q_is_integer]) [] [false, false, false] 3 bq_is_within
@[simp] theorem q_is_within_io : q_is_within.inout = [false, false, false] := rfl
/-- check_pair(pair): 0 pair, 1 r, 2 p, 3 s, 4 q; calls 0 is_tuple, 1 is_within -/
def bq_check_pair : T := (.cons (.iff (.not (.call 0 (.cons (.var 0) (.cons (.int 4) (.cons (.int 4) .nil))))) (.cons (.rse ("NoWheelPair" : Str) .nil) .nil) .nil) (.cons (.asg (.gt (.cons (.gn 1) (.cons (.gn 2) (.cons (.gn 3) (.cons (.gn 4) .nil))))) (.var 0)) (.cons (.iff (.or (.not (.call 1 (.cons (.var 1) (.cons (.int 1) (.cons (.glb 0) .nil))))) (.not (.call 1 (.cons (.var 3) (.cons (.int 1) (.cons (.glb 0) .nil)))))) (.cons (.rse ("NoWheelPair" : Str) .nil) .nil) .nil) (.cons (.iff (.or (.not (.call 1 (.cons (.var 2) (.cons (.int 1) (.cons (.glb 1) .nil))))) (.not (.call 1 (.cons (.var 4) (.cons (.bin .sub (.int 0) (.glb 1)) (.cons (.glb 1) .nil)))))) (.cons (.rse ("NoWheelPair" : Str) .nil) .nil) .nil) .nil))))
def q_check_pair : FnSem := mkFn (tbl [q_is_tuple, q_is_within]) [(.int (60)), (.int (40))] [false] 5 bq_check_pair
@[simp] theorem q_check_pair_io : q_check_pair.inout = [false] := rfl
/-- parts_of(pair): 0 pair, 1 r, 2 p, 3 s, 4 q; calls  -/
def bq_parts_of : T := (.cons (.asg (.gt (.cons (.gn 1) (.cons (.gn 2) (.cons (.gn 3) (.cons (.gn 4) .nil))))) (.var 0)) (.cons (.ret (.tup (.cons (.bin .add (.bin .mul (.bin .mul (.var 1) (.var 1)) (.var 2)) (.bin .mul (.bin .mul (.var 3) (.var 3)) (.var 4))) (.cons (.bin .mul (.bin .mul (.var 1) (.var 3)) (.bin .add (.var 2) (.var 4))) .nil)))) .nil))
def q_parts_of : FnSem := mkFn (tbl []) [] [false] 5 bq_parts_of
@[simp] theorem q_parts_of_io : q_parts_of.inout = [false] := rfl
/-- divisor(one, other): 0 one, 1 other; calls  -/
def bq_divisor : T := (.cons (.par [0, 1] (.cons (.bi .abs (.cons (.var 0) .nil)) (.cons (.bi .abs (.cons (.var 1) .nil)) .nil))) (.cons (.whl (.cmp .ne (.var 1) (.int 0)) (.cons (.par [0, 1] (.cons (.var 1) (.cons (.bin .mod (.var 0) (.var 1)) .nil))) .nil)) (.cons (.ret (.var 0)) .nil)))
def q_divisor : FnSem := mkFn (tbl []) [] [false, false] 2 bq_divisor
@[simp] theorem q_divisor_io : q_divisor.inout = [false, false] := rfl
/-- reduced(top, bottom): 0 top, 1 bottom, 2 low, 3 sign; calls 0 divisor -/
def bq_reduced : T := (.cons (.asg (.gn 2) (.call 0 (.cons (.var 0) (.cons (.var 1) .nil)))) (.cons (.asg (.gn 3) (.ifx (.cmp .gt (.var 1) (.int 0)) (.int 1) (.neg (.int 1)))) (.cons (.ret (.tup (.cons (.bin .fdiv (.bin .mul (.var 3) (.var 0)) (.var 2)) (.cons (.bin .fdiv (.bin .mul (.var 3) (.var 1)) (.var 2)) .nil)))) .nil)))
def q_reduced : FnSem := mkFn (tbl [q_divisor]) [] [false, false] 4 bq_reduced
@[simp] theorem q_reduced_io : q_reduced.inout = [false, false] := rfl
/-- turn_cosine(pair): 0 pair, 1 still, 2 turned; calls 0 check_pair, 1 parts_of, 2 reduced -/
def bq_turn_cosine : T := (.cons (.drp (.call 0 (.cons (.var 0) .nil))) (.cons (.asg (.gt (.cons (.gn 1) (.cons (.gn 2) .nil))) (.call 1 (.cons (.var 0) .nil))) (.cons (.iff (.or (.cmp .eq (.var 2) (.int 0)) (.cmp .gt (.bi .abs (.cons (.var 1) .nil)) (.bi .abs (.cons (.var 2) .nil)))) (.cons (.ret .non) .nil) .nil) (.cons (.ret (.call 2 (.cons (.ifx (.cmp .gt (.var 2) (.int 0)) (.bin .sub (.int 0) (.var 1)) (.var 1)) (.cons (.bi .abs (.cons (.var 2) .nil)) .nil)))) .nil))))
def q_turn_cosine : FnSem := mkFn (tbl [q_check_pair, q_parts_of, q_reduced]) [] [false] 3 bq_turn_cosine
@[simp] theorem q_turn_cosine_io : q_turn_cosine.inout = [false] := rfl
/-- _law_draw(hand, limit): 0 hand, 1 limit, 2 number, 3 cell, 4 digit; calls  -/
def bl_draw : T := (.cons (.iff (.and (.cmp .eq (.ix (.var 0) (.int 2)) (.int 0)) (.cmp .lt (.ix (.var 0) (.int 1)) (.bi .len (.cons (.ix (.var 0) (.int 0)) .nil)))) (.cons (.asg (.gn 3) (.ix (.ix (.var 0) (.int 0)) (.ix (.var 0) (.int 1)))) (.cons (.sti 0 (.int 1) (.bin .add (.ix (.var 0) (.int 1)) (.int 1))) (.cons (.sti 0 (.int 3) (.bin .mod (.bi .int (.cons (.bin .add (.bin .add (.bin .mul (.ix (.var 0) (.int 3)) (.int 69621)) (.var 3)) (.int 347)) .nil)) (.int 2147483629))) (.cons (.iff (.cmp .ge (.var 3) (.bin .pow (.int 10) (.int 18))) (.cons (.sti 0 (.int 2) (.var 3)) .nil) .nil) .nil)))) .nil) (.cons (.iff (.cmp .gt (.ix (.var 0) (.int 2)) (.int 0)) (.cons (.asg (.gn 4) (.bin .mod (.bi .int (.cons (.ix (.var 0) (.int 2)) .nil)) (.var 1))) (.cons (.sti 0 (.int 2) (.bin .fdiv (.ix (.var 0) (.int 2)) (.var 1))) (.cons (.ret (.var 4)) .nil))) .nil) (.cons (.sti 0 (.int 4) (.bin .add (.ix (.var 0) (.int 4)) (.int 1))) (.cons (.asg (.gn 2) (.bin .mod (.bi .int (.cons (.bin .mul (.bi .int (.cons (.bin .add (.ix (.var 0) (.int 3)) (.bin .mul (.int 7919) (.ix (.var 0) (.int 4)))) .nil)) (.int 48271)) .nil)) (.int 2147483647))) (.cons (.asg (.gn 2) (.bin .mod (.bi .int (.cons (.bin .mul (.var 2) (.bin .add (.bin .fdiv (.var 2) (.int 1009)) (.int 69621))) .nil)) (.int 2147483647))) (.cons (.asg (.gn 2) (.bin .mod (.bi .int (.cons (.bin .mul (.var 2) (.bin .add (.bin .fdiv (.var 2) (.int 2003)) (.int 40692))) .nil)) (.int 2147483399))) (.cons (.ret (.bin .mod (.bi .int (.cons (.bin .fdiv (.var 2) (.int 16)) .nil)) (.var 1))) .nil)))))))
def l_draw : FnSem := mkFn (tbl []) [] [true, false] 5 bl_draw
@[simp] theorem l_draw_io : l_draw.inout = [true, false] := rfl
/-- _law_some(hand, items): 0 hand, 1 items; calls 0 _law_draw -/
def bl_some : T := (.cons (.ret (.ix (.var 1) (.call 0 (.cons (.var 0) (.cons (.bi .len (.cons (.var 1) .nil)) .nil))))) .nil)
def l_some : FnSem := mkFn (tbl [l_draw]) [] [true, false] 2 bl_some
@[simp] theorem l_some_io : l_some.inout = [true, false] := rfl
/-- _law_wheel_pair(hand): 0 hand, 1 most, 2 turns, 3 first; calls 0 _law_some, 1 _law_draw -/
def bl_wheel_pair : T := (.cons (.asg (.gn 1) (.call 0 (.cons (.var 0) (.cons (.lst (.cons (.int 6) (.cons (.int 60) .nil))) .nil)))) (.cons (.asg (.gn 2) (.call 0 (.cons (.var 0) (.cons (.lst (.cons (.int 4) (.cons (.int 40) .nil))) .nil)))) (.cons (.asg (.gn 3) (.tup (.cons (.bin .add (.int 1) (.call 1 (.cons (.var 0) (.cons (.var 1) .nil)))) (.cons (.bin .add (.int 1) (.call 1 (.cons (.var 0) (.cons (.var 2) .nil)))) .nil)))) (.cons (.ret (.bin .add (.var 3) (.tup (.cons (.bin .add (.int 1) (.call 1 (.cons (.var 0) (.cons (.var 1) .nil)))) (.cons (.bin .sub (.call 1 (.cons (.var 0) (.cons (.bin .add (.bin .mul (.int 2) (.var 2)) (.int 1)) .nil))) (.var 2)) .nil))))) .nil))))
def l_wheel_pair : FnSem := mkFn (tbl [l_some, l_draw]) [] [true] 4 bl_wheel_pair
@[simp] theorem l_wheel_pair_io : l_wheel_pair.inout = [true] := rfl
/-- bound_of(pair): 0 pair, 1 still, 2 turned; calls 0 parts_of -/
def bq_bound_of : T := (.cons (.asg (.gt (.cons (.gn 1) (.cons (.gn 2) .nil))) (.call 0 (.cons (.var 0) .nil))) (.cons (.ret (.bin .sub (.var 1) (.bi .abs (.cons (.var 2) .nil)))) .nil))
def q_bound_of : FnSem := mkFn (tbl [q_parts_of]) [] [false] 3 bq_bound_of
@[simp] theorem q_bound_of_io : q_bound_of.inout = [false] := rfl
/-- back_or_not(pair): 0 pair; calls 0 check_pair, 1 bound_of, 2 parts_of -/
def bq_back_or_not : T := (.cons (.drp (.call 0 (.cons (.var 0) .nil))) (.cons (.iff (.cmp .ge (.call 1 (.cons (.var 0) .nil)) (.int 0)) (.cons (.ret (.tup (.cons (.str ("never" : Str)) (.cons (.call 1 (.cons (.var 0) .nil)) .nil)))) .nil) .nil) (.cons (.ret (.tup (.cons (.str ("back" : Str)) (.cons (.tup (.cons (.ifx (.cmp .gt (.ix (.call 2 (.cons (.var 0) .nil)) (.int 1)) (.int 0)) (.neg (.int 1)) (.int 1)) (.cons (.int 1) .nil))) .nil)))) .nil)))
def q_back_or_not : FnSem := mkFn (tbl [q_check_pair, q_bound_of, q_parts_of]) [] [false] 1 bq_back_or_not
@[simp] theorem q_back_or_not_io : q_back_or_not.inout = [false] := rfl
/-- _law_bound(pair): 0 pair, 1 r, 2 p, 3 s, 4 q; calls  -/
def bl_bound : T := (.cons (.asg (.gt (.cons (.gn 1) (.cons (.gn 2) (.cons (.gn 3) (.cons (.gn 4) .nil))))) (.var 0)) (.cons (.ret (.bin .sub (.bin .add (.bin .mul (.bin .mul (.var 1) (.var 1)) (.var 2)) (.bin .mul (.bin .mul (.var 3) (.var 3)) (.var 4))) (.bin .mul (.bin .mul (.var 1) (.var 3)) (.bi .abs (.cons (.bin .add (.var 2) (.var 4)) .nil))))) .nil))
def l_bound : FnSem := mkFn (tbl []) [] [false] 5 bl_bound
@[simp] theorem l_bound_io : l_bound.inout = [false] := rfl
/-- _law_low(top, bottom): 0 top, 1 bottom, 2 one, 3 other; calls  -/
def bl_low : T := (.cons (.par [2, 3] (.cons (.bi .abs (.cons (.var 0) .nil)) (.cons (.bi .abs (.cons (.var 1) .nil)) .nil))) (.cons (.whl (.cmp .gt (.var 3) (.int 0)) (.cons (.par [2, 3] (.cons (.var 3) (.cons (.bin .mod (.bi .int (.cons (.var 2) .nil)) (.var 3)) .nil))) .nil)) (.cons (.asg (.gn 2) (.ifx (.cmp .gt (.var 1) (.int 0)) (.var 2) (.bin .sub (.int 0) (.var 2)))) (.cons (.ret (.tup (.cons (.bin .fdiv (.var 0) (.var 2)) (.cons (.bin .fdiv (.var 1) (.var 2)) .nil)))) .nil))))
def l_low : FnSem := mkFn (tbl []) [] [false, false] 4 bl_low
@[simp] theorem l_low_io : l_low.inout = [false, false] := rfl
/-- _law_cosine(hand): 0 hand, 1 bottom; calls 0 _law_draw, 1 _law_low -/
def bl_cosine : T := (.cons (.asg (.gn 1) (.bin .add (.int 1) (.call 0 (.cons (.var 0) (.cons (.int 9) .nil))))) (.cons (.ret (.call 1 (.cons (.bin .sub (.call 0 (.cons (.var 0) (.cons (.bin .add (.bin .mul (.int 2) (.var 1)) (.int 1)) .nil))) (.var 1)) (.cons (.var 1) .nil)))) .nil))
def l_cosine : FnSem := mkFn (tbl [l_draw, l_low]) [] [true] 2 bl_cosine
@[simp] theorem l_cosine_io : l_cosine.inout = [true] := rfl
/-- _law_deep(turns): 0 turns, 1 thing, 2 turn; calls  -/
def bl_deep : T := (.cons (.asg (.gn 1) (.str ("-" : Str))) (.cons (.forr (.gn 2) (.itr (.cons (.var 0) .nil)) (.cons (.asg (.gn 1) (.ifx (.cmp .lt (.var 2) (.int 5)) (.tup (.cons (.var 1) .nil)) (.lst (.cons (.var 1) .nil)))) .nil)) (.cons (.ret (.var 1)) .nil)))
def l_deep : FnSem := mkFn (tbl []) [] [false] 3 bl_deep
@[simp] theorem l_deep_io : l_deep.inout = [false] := rfl
/-- _law_is(thing, due): 0 thing, 1 due, 2 one, 3 its; calls 0 _law_is -/
def bl_is : T := (.cons (.iff (.or (.bi .isTuple (.cons (.var 1) .nil)) (.bi .isList (.cons (.var 1) .nil))) (.cons (.iff (.or (.cmp .ne (.bi .isTuple (.cons (.var 1) .nil)) (.bi .isTuple (.cons (.var 0) .nil))) (.cmp .ne (.bi .isList (.cons (.var 1) .nil)) (.bi .isList (.cons (.var 0) .nil)))) (.cons (.ret (.bl false)) .nil) .nil) (.cons (.ret (.and (.cmp .eq (.bi .len (.cons (.var 0) .nil)) (.bi .len (.cons (.var 1) .nil))) (.bi .all (.cons (.lc (.gt (.cons (.gn 2) (.cons (.gn 3) .nil))) (.itz (.var 0) (.var 1)) .nil (.call 0 (.cons (.var 2) (.cons (.var 3) .nil))) [2, 3]) .nil)))) .nil)) .nil) (.cons (.iff (.or (.bi .isDict (.cons (.var 1) .nil)) (.bi .isDict (.cons (.var 0) .nil))) (.cons (.ret (.and (.bi .isDict (.cons (.var 1) .nil)) (.and (.bi .isDict (.cons (.var 0) .nil)) (.cmp .eq (.var 0) (.var 1))))) .nil) .nil) (.cons (.iff (.or (.cmp .is (.var 1) .non) (.cmp .is (.var 0) .non)) (.cons (.ret (.and (.cmp .is (.var 1) .non) (.cmp .is (.var 0) .non))) .nil) .nil) (.cons (.iff (.or (.bi .isBool (.cons (.var 1) .nil)) (.bi .isBool (.cons (.var 0) .nil))) (.cons (.ret (.and (.bi .isBool (.cons (.var 1) .nil)) (.and (.bi .isBool (.cons (.var 0) .nil)) (.cmp .eq (.var 0) (.var 1))))) .nil) .nil) (.cons (.iff (.or (.bi .isStr (.cons (.var 1) .nil)) (.bi .isStr (.cons (.var 0) .nil))) (.cons (.ret (.and (.bi .isStr (.cons (.var 1) .nil)) (.and (.bi .isStr (.cons (.var 0) .nil)) (.cmp .eq (.var 0) (.var 1))))) .nil) .nil) (.cons (.ret (.and (.bi .isInt (.cons (.var 0) .nil)) (.cmp .eq (.var 0) (.var 1)))) .nil))))))
def l_is_0 : FnSem := ⟨[false, false], fun _ => .no⟩
@[simp] theorem l_is_0_io : l_is_0.inout = [false, false] := rfl
def l_is_1 : FnSem := mkFn (tbl [l_is_0]) [] [false, false] 4 bl_is
@[simp] theorem l_is_1_io : l_is_1.inout = [false, false] := rfl
def l_is_2 : FnSem := mkFn (tbl [l_is_1]) [] [false, false] 4 bl_is
@[simp] theorem l_is_2_io : l_is_2.inout = [false, false] := rfl
def l_is_3 : FnSem := mkFn (tbl [l_is_2]) [] [false, false] 4 bl_is
@[simp] theorem l_is_3_io : l_is_3.inout = [false, false] := rfl
def l_is_4 : FnSem := mkFn (tbl [l_is_3]) [] [false, false] 4 bl_is
@[simp] theorem l_is_4_io : l_is_4.inout = [false, false] := rfl
/-- is_fraction(thing): 0 thing, 1 one; calls 0 is_tuple, 1 reduced -/
def bq_is_fraction : T := (.cons (.iff (.or (.not (.call 0 (.cons (.var 0) (.cons (.int 2) (.cons (.int 2) .nil))))) (.not (.bi .all (.cons (.lc (.gn 1) (.itv (.var 0)) .nil (.and (.bi .isInt (.cons (.var 1) .nil)) (.not (.bi .isBool (.cons (.var 1) .nil)))) [1]) .nil)))) (.cons (.ret (.bl false)) .nil) .nil) (.cons (.ret (.and (.cmp .gt (.ix (.var 0) (.int 1)) (.int 0)) (.cmp .eq (.call 1 (.cons (.ix (.var 0) (.int 0)) (.cons (.ix (.var 0) (.int 1)) .nil))) (.var 0)))) .nil))
def q_is_fraction : FnSem := mkFn (tbl [q_is_tuple, q_reduced]) [] [false] 2 bq_is_fraction
@[simp] theorem q_is_fraction_io : q_is_fraction.inout = [false] := rfl
/-- is_cosine(thing): 0 thing; calls 0 is_fraction -/
def bq_is_cosine : T := (.cons (.ret (.and (.call 0 (.cons (.var 0) .nil)) (.cmp .le (.bi .abs (.cons (.ix (.var 0) (.int 0)) .nil)) (.ix (.var 0) (.int 1))))) .nil)
def q_is_cosine : FnSem := mkFn (tbl [q_is_fraction]) [] [false] 1 bq_is_cosine
@[simp] theorem q_is_cosine_io : q_is_cosine.inout = [false] := rfl
/-- added(one, other): 0 one, 1 other; calls 0 reduced -/
def bq_added : T := (.cons (.ret (.call 0 (.cons (.bin .add (.bin .mul (.ix (.var 0) (.int 0)) (.ix (.var 1) (.int 1))) (.bin .mul (.ix (.var 1) (.int 0)) (.ix (.var 0) (.int 1)))) (.cons (.bin .mul (.ix (.var 0) (.int 1)) (.ix (.var 1) (.int 1))) .nil)))) .nil)
def q_added : FnSem := mkFn (tbl [q_reduced]) [] [false, false] 2 bq_added
@[simp] theorem q_added_io : q_added.inout = [false, false] := rfl
/-- times(one, other): 0 one, 1 other; calls 0 reduced -/
def bq_times : T := (.cons (.ret (.call 0 (.cons (.bin .mul (.ix (.var 0) (.int 0)) (.ix (.var 1) (.int 0))) (.cons (.bin .mul (.ix (.var 0) (.int 1)) (.ix (.var 1) (.int 1))) .nil)))) .nil)
def q_times : FnSem := mkFn (tbl [q_reduced]) [] [false, false] 2 bq_times
@[simp] theorem q_times_io : q_times.inout = [false, false] := rfl
/-- is_back(pair, c): 0 pair, 1 c, 2 still, 3 turned; calls 0 parts_of, 1 added, 2 times -/
def bq_is_back : T := (.cons (.asg (.gt (.cons (.gn 2) (.cons (.gn 3) .nil))) (.call 0 (.cons (.var 0) .nil))) (.cons (.ret (.cmp .lt (.ix (.call 1 (.cons (.tup (.cons (.var 2) (.cons (.int 1) .nil))) (.cons (.call 2 (.cons (.tup (.cons (.var 3) (.cons (.int 1) .nil))) (.cons (.var 1) .nil))) .nil))) (.int 0)) (.int 0))) .nil))
def q_is_back : FnSem := mkFn (tbl [q_parts_of, q_added, q_times]) [] [false, false] 4 bq_is_back
@[simp] theorem q_is_back_io : q_is_back.inout = [false, false] := rfl
/-- is_back_or_not(pair, thing): 0 pair, 1 thing; calls 0 check_pair, 1 is_tuple, 2 is_cosine, 3 is_back, 4 is_integer, 5 bound_of -/
def bq_is_back_or_not : T := (.cons (.drp (.call 0 (.cons (.var 0) .nil))) (.cons (.iff (.or (.not (.call 1 (.cons (.var 1) (.cons (.int 2) (.cons (.int 2) .nil))))) (.not (.bi .isStr (.cons (.ix (.var 1) (.int 0)) .nil)))) (.cons (.ret (.bl false)) .nil) .nil) (.cons (.iff (.cmp .eq (.ix (.var 1) (.int 0)) (.str ("back" : Str))) (.cons (.ret (.and (.call 2 (.cons (.ix (.var 1) (.int 1)) .nil)) (.call 3 (.cons (.var 0) (.cons (.ix (.var 1) (.int 1)) .nil))))) .nil) .nil) (.cons (.ret (.and (.cmp .eq (.ix (.var 1) (.int 0)) (.str ("never" : Str))) (.and (.call 4 (.cons (.ix (.var 1) (.int 1)) .nil)) (.and (.cmp .eq (.ix (.var 1) (.int 1)) (.call 5 (.cons (.var 0) .nil))) (.cmp .ge (.ix (.var 1) (.int 1)) (.int 0)))))) .nil))))
def q_is_back_or_not : FnSem := mkFn (tbl [q_check_pair, q_is_tuple, q_is_cosine, q_is_back, q_is_integer, q_bound_of]) [] [false, false] 2 bq_is_back_or_not
@[simp] theorem q_is_back_or_not_io : q_is_back_or_not.inout = [false, false] := rfl
/-- _law_is_cosine(thing): 0 thing, 1 one; calls 0 _law_low -/
def bl_is_cosine : T := (.cons (.iff (.or (.not (.bi .isTuple (.cons (.var 0) .nil))) (.cmp .ne (.bi .len (.cons (.var 0) .nil)) (.int 2))) (.cons (.ret (.bl false)) .nil) .nil) (.cons (.iff (.or (.not (.bi .all (.cons (.lc (.gn 1) (.itv (.var 0)) .nil (.and (.bi .isInt (.cons (.var 1) .nil)) (.not (.bi .isBool (.cons (.var 1) .nil)))) [1]) .nil))) (.cmp .le (.ix (.var 0) (.int 1)) (.int 0))) (.cons (.ret (.bl false)) .nil) .nil) (.cons (.ret (.and (.cmp .eq (.call 0 (.cons (.ix (.var 0) (.int 0)) (.cons (.ix (.var 0) (.int 1)) .nil))) (.var 0)) (.cmp .le (.bi .abs (.cons (.ix (.var 0) (.int 0)) .nil)) (.ix (.var 0) (.int 1))))) .nil)))
def l_is_cosine : FnSem := mkFn (tbl [l_low]) [] [false] 2 bl_is_cosine
@[simp] theorem l_is_cosine_io : l_is_cosine.inout = [false] := rfl
/-- _law_plus(one, other): 0 one, 1 other; calls 0 _law_low -/
def bl_plus : T := (.cons (.ret (.call 0 (.cons (.bin .add (.bin .mul (.ix (.var 0) (.int 0)) (.ix (.var 1) (.int 1))) (.bin .mul (.ix (.var 1) (.int 0)) (.ix (.var 0) (.int 1)))) (.cons (.bin .mul (.ix (.var 0) (.int 1)) (.ix (.var 1) (.int 1))) .nil)))) .nil)
def l_plus : FnSem := mkFn (tbl [l_low]) [] [false, false] 2 bl_plus
@[simp] theorem l_plus_io : l_plus.inout = [false, false] := rfl
/-- _law_times(one, other): 0 one, 1 other; calls 0 _law_low -/
def bl_times : T := (.cons (.ret (.call 0 (.cons (.bin .mul (.ix (.var 0) (.int 0)) (.ix (.var 1) (.int 0))) (.cons (.bin .mul (.ix (.var 0) (.int 1)) (.ix (.var 1) (.int 1))) .nil)))) .nil)
def l_times : FnSem := mkFn (tbl [l_low]) [] [false, false] 2 bl_times
@[simp] theorem l_times_io : l_times.inout = [false, false] := rfl
/-- _law_speed(pair, c): 0 pair, 1 c, 2 r, 3 p, 4 s, 5 q; calls 0 _law_plus, 1 _law_times -/
def bl_speed : T := (.cons (.asg (.gt (.cons (.gn 2) (.cons (.gn 3) (.cons (.gn 4) (.cons (.gn 5) .nil))))) (.var 0)) (.cons (.ret (.call 0 (.cons (.tup (.cons (.bin .add (.bin .mul (.bin .mul (.var 2) (.var 2)) (.var 3)) (.bin .mul (.bin .mul (.var 4) (.var 4)) (.var 5))) (.cons (.int 1) .nil))) (.cons (.call 1 (.cons (.tup (.cons (.bin .mul (.bin .mul (.var 2) (.var 4)) (.bin .add (.var 3) (.var 5))) (.cons (.int 1) .nil))) (.cons (.var 1) .nil))) .nil)))) .nil))
def l_speed : FnSem := mkFn (tbl [l_plus, l_times]) [] [false, false] 6 bl_speed
@[simp] theorem l_speed_io : l_speed.inout = [false, false] := rfl
/-- _law_judged(pair, thing): 0 pair, 1 thing; calls 0 _law_is_cosine, 1 _law_speed, 2 _law_bound -/
def bl_judged : T := (.cons (.iff (.or (.not (.bi .isTuple (.cons (.var 1) .nil))) (.or (.cmp .ne (.bi .len (.cons (.var 1) .nil)) (.int 2)) (.not (.bi .isStr (.cons (.ix (.var 1) (.int 0)) .nil))))) (.cons (.ret (.bl false)) .nil) .nil) (.cons (.iff (.cmp .eq (.ix (.var 1) (.int 0)) (.str ("back" : Str))) (.cons (.ret (.and (.call 0 (.cons (.ix (.var 1) (.int 1)) .nil)) (.cmp .lt (.ix (.call 1 (.cons (.var 0) (.cons (.ix (.var 1) (.int 1)) .nil))) (.int 0)) (.int 0)))) .nil) .nil) (.cons (.iff (.or (.cmp .ne (.ix (.var 1) (.int 0)) (.str ("never" : Str))) (.or (.not (.bi .isInt (.cons (.ix (.var 1) (.int 1)) .nil))) (.bi .isBool (.cons (.ix (.var 1) (.int 1)) .nil)))) (.cons (.ret (.bl false)) .nil) .nil) (.cons (.ret (.and (.cmp .ge (.call 2 (.cons (.var 0) .nil)) (.int 0)) (.cmp .eq (.ix (.var 1) (.int 1)) (.call 2 (.cons (.var 0) .nil))))) .nil))))
def l_judged : FnSem := mkFn (tbl [l_is_cosine, l_speed, l_bound]) [] [false, false] 2 bl_judged
@[simp] theorem l_judged_io : l_judged.inout = [false, false] := rfl
/-- _law_is_right(hand): 0 hand, 1 pair, 2 things, 3 thing, 4 r, 5 p, 6 s, 7 q, 8 told, 9 bound, 10 kept, 11 c, 12 turn; calls 0 _law_wheel_pair, 1 back_or_not, 2 _law_bound, 3 _law_cosine, 4 _law_deep, 5 _law_is, 6 is_back_or_not, 7 _law_judged, 8 _law_low, 9 turn_cosine -/
def bl_is_right : T := (.cons (.asg (.gn 1) (.call 0 (.cons (.var 0) .nil))) (.cons (.asg (.gt (.cons (.gn 4) (.cons (.gn 5) (.cons (.gn 6) (.cons (.gn 7) .nil))))) (.var 1)) (.cons (.par [8, 9] (.cons (.call 1 (.cons (.var 1) .nil)) (.cons (.call 2 (.cons (.var 1) .nil)) .nil))) (.cons (.asg (.gn 2) (.lst (.cons (.var 8) (.cons (.bi .list (.cons (.var 8) .nil)) (.cons (.bin .add (.var 8) (.tup (.cons (.int 0) .nil))) (.cons (.slc (.var 8) .nil (.cons (.int 1) .nil)) (.cons .non (.cons (.tup .nil) (.cons (.int 0) (.cons (.dic .nil .nil) (.cons (.str ("back" : Str)) (.cons (.tup (.cons (.str ("Back" : Str)) (.cons (.ix (.var 8) (.int 1)) .nil))) .nil)))))))))))) (.cons (.asg (.gn 2) (.bin .add (.var 2) (.lst (.cons (.tup (.cons (.str ("back" : Str)) (.cons .non .nil))) (.cons (.tup (.cons (.str ("never" : Str)) (.cons .non .nil))) .nil))))) (.cons (.asg (.gn 2) (.bin .add (.bin .add (.var 2) (.lc (.gn 12) (.itr (.cons (.int 5) .nil)) .nil (.tup (.cons (.str ("back" : Str)) (.cons (.call 3 (.cons (.var 0) .nil)) .nil))) [12])) (.lst (.cons (.tup (.cons (.str ("back" : Str)) (.cons (.tup (.cons (.int 1) (.cons (.int 1) .nil))) .nil))) (.cons (.tup (.cons (.str ("back" : Str)) (.cons (.tup (.cons (.neg (.int 1)) (.cons (.int 1) .nil))) .nil))) .nil))))) (.cons (.asg (.gn 2) (.bin .add (.var 2) (.lst (.cons (.tup (.cons (.str ("back" : Str)) (.cons (.tup (.cons (.int 2) (.cons (.int 1) .nil))) .nil))) .nil)))) (.cons (.asg (.gn 2) (.bin .add (.var 2) (.lst (.cons (.tup (.cons (.str ("never" : Str)) (.cons (.var 9) .nil))) (.cons (.tup (.cons (.str ("never" : Str)) (.cons (.bin .add (.var 9) (.int 1)) .nil))) (.cons (.tup (.cons (.str ("never" : Str)) (.cons (.int 0) .nil))) (.cons (.tup (.cons (.str ("never" : Str)) (.cons (.bl true) .nil))) (.cons (.tup (.cons (.str ("back" : Str)) (.cons (.tup (.cons (.neg (.int 2)) (.cons (.int 2) .nil))) .nil))) .nil)))))))) (.cons (.asg (.gn 2) (.bin .add (.var 2) (.lst (.cons (.tup (.cons (.str ("back" : Str)) (.cons (.lst (.cons (.neg (.int 1)) (.cons (.int 1) .nil))) .nil))) .nil)))) (.cons (.forr (.gn 3) (.itv (.bin .add (.var 2) (.lst (.cons (.tup (.cons (.str ("back" : Str)) (.cons (.tup (.cons (.bl true) (.cons (.int 1) .nil))) .nil))) (.cons (.tup (.cons (.str ("back" : Str)) (.cons (.neg (.int 1)) .nil))) (.cons (.tup (.cons (.str ("never" : Str)) (.cons (.tup (.cons (.var 9) (.cons (.int 1) .nil))) .nil))) (.cons (.call 4 (.cons (.int 12) .nil)) .nil))))))) (.cons (.asg (.gn 10) (.bi .show (.cons (.var 3) .nil))) (.cons (.iff (.or (.not (.call 5 (.cons (.call 6 (.cons (.var 1) (.cons (.var 3) .nil))) (.cons (.call 7 (.cons (.var 1) (.cons (.var 3) .nil))) .nil)))) (.cmp .ne (.bi .show (.cons (.var 3) .nil)) (.var 10))) (.cons (.ret (.bl false)) .nil) .nil) .nil))) (.cons (.iff (.cmp .ne (.bin .add (.var 5) (.var 7)) (.int 0)) (.cons (.asg (.gn 11) (.call 8 (.cons (.bin .sub (.bin .sub (.int 0) (.bin .mul (.bin .mul (.var 4) (.var 4)) (.var 5))) (.bin .mul (.bin .mul (.var 6) (.var 6)) (.var 7))) (.cons (.bin .mul (.bin .mul (.var 4) (.var 6)) (.bin .add (.var 5) (.var 7))) .nil)))) (.cons (.iff (.not (.call 5 (.cons (.call 9 (.cons (.var 1) .nil)) (.cons (.ifx (.cmp .le (.bi .abs (.cons (.ix (.var 11) (.int 0)) .nil)) (.ix (.var 11) (.int 1))) (.var 11) .non) .nil)))) (.cons (.ret (.bl false)) .nil) .nil) .nil)) .nil) (.cons (.ret (.bl true)) .nil))))))))))))
def l_is_right : FnSem := mkFn (tbl [l_wheel_pair, q_back_or_not, l_bound, l_cosine, l_deep, l_is_4, q_is_back_or_not, l_judged, l_low, q_turn_cosine]) [] [true] 13 bl_is_right
@[simp] theorem l_is_right_io : l_is_right.inout = [true] := rfl
/-- check_cosine(c): 0 c; calls 0 is_cosine -/
def bq_check_cosine : T := (.cons (.iff (.not (.call 0 (.cons (.var 0) .nil))) (.cons (.rse ("NoCosine" : Str) .nil) .nil) .nil) .nil)
def q_check_cosine : FnSem := mkFn (tbl [q_is_cosine]) [] [false] 1 bq_check_cosine
@[simp] theorem q_check_cosine_io : q_check_cosine.inout = [false] := rfl
/-- goes_back(pair, c): 0 pair, 1 c; calls 0 check_pair, 1 check_cosine, 2 is_back -/
def bq_goes_back : T := (.cons (.drp (.call 0 (.cons (.var 0) .nil))) (.cons (.drp (.call 1 (.cons (.var 1) .nil))) (.cons (.ret (.call 2 (.cons (.var 0) (.cons (.var 1) .nil)))) .nil)))
def q_goes_back : FnSem := mkFn (tbl [q_check_pair, q_check_cosine, q_is_back]) [] [false, false] 2 bq_goes_back
@[simp] theorem q_goes_back_io : q_goes_back.inout = [false, false] := rfl
/-- seen_square(pair, c): 0 pair, 1 c, 2 r, 3 p, 4 s, 5 q; calls 0 check_pair, 1 check_cosine, 2 added, 3 times -/
def bq_seen_square : T := (.cons (.drp (.call 0 (.cons (.var 0) .nil))) (.cons (.drp (.call 1 (.cons (.var 1) .nil))) (.cons (.asg (.gt (.cons (.gn 2) (.cons (.gn 3) (.cons (.gn 4) (.cons (.gn 5) .nil))))) (.var 0)) (.cons (.ret (.call 2 (.cons (.tup (.cons (.bin .add (.bin .mul (.var 2) (.var 2)) (.bin .mul (.var 4) (.var 4))) (.cons (.int 1) .nil))) (.cons (.call 3 (.cons (.tup (.cons (.bin .mul (.bin .mul (.int 2) (.var 2)) (.var 4)) (.cons (.int 1) .nil))) (.cons (.var 1) .nil))) .nil)))) .nil))))
def q_seen_square : FnSem := mkFn (tbl [q_check_pair, q_check_cosine, q_added, q_times]) [] [false, false] 6 bq_seen_square
@[simp] theorem q_seen_square_io : q_seen_square.inout = [false, false] := rfl
/-- _law_word(call): 0 call, 1 found, 2 error, 3 flags; it catches -/
def bl_word_0 : T := (.asg (.gn 1) (.tup (.cons (.str ("other" : Str)) .nil)))
def bl_word_1 : T := (.ret (.var 1))
def bl_word_NoWheelPair : T := (.cons (.asg (.gn 3) (.xc 2 (.lst (.cons (.bl true) (.cons (.bl false) .nil))))) (.cons (.iff (.and (.cmp .eq (.mt .count (.var 3) (.bl true)) (.int 1)) (.xc 2 (.bl true))) (.cons (.asg (.gn 1) (.tup (.cons (.mt .index (.var 3) (.bl true)) .nil))) .nil) .nil) .nil))
def bl_word_NoCosine : T := (.cons (.asg (.gn 3) (.xc 2 (.lst (.cons (.bl false) (.cons (.bl true) .nil))))) (.cons (.iff (.and (.cmp .eq (.mt .count (.var 3) (.bl true)) (.int 1)) (.xc 2 (.bl true))) (.cons (.asg (.gn 1) (.tup (.cons (.mt .index (.var 3) (.bl true)) .nil))) .nil) .nil) .nil))
def hl_word : List (Str × XI × T) := [("NoWheelPair", ⟨"error", [("ValueError", true), ("NoWheelPair", true), ("NoCosine", false)], [], [("_law_flags", [true, false])], none⟩, bl_word_NoWheelPair), ("NoCosine", ⟨"error", [("ValueError", true), ("NoWheelPair", false), ("NoCosine", true)], [], [("_law_flags", [false, true])], none⟩, bl_word_NoCosine)]
def bl_word_l_flags_NoWheelPair : T := (.cons (.ret (.lst (.cons (.xc 0 (.bl true)) (.cons (.xc 0 (.bl false)) .nil)))) .nil)
def bl_word_l_flags_NoCosine : T := (.cons (.ret (.lst (.cons (.xc 0 (.bl false)) (.cons (.xc 0 (.bl true)) .nil)))) .nil)
def sl_word : Sts := [.no, .val (.tuple [(.str "other")]), .no, .no]
def l_word : FnSem := ⟨[false], catRun (tbl []) [] 4 2 (some (1, "told")) sl_word hl_word bl_word_1⟩
@[simp] theorem l_word_io : l_word.inout = [false] := rfl
/-- _law_is_refused(hand): 0 hand, 1 none, 2 c, 3 words, 4 ask; calls 0 _law_deep, 1 _law_some, 2 goes_back, 3 seen_square, 4 _law_word, 5 back_or_not, 6 turn_cosine, 7 is_back_or_not -/
def bl_is_refused : T := (.cons (.asg (.gn 1) (.lst (.cons .non (.cons (.int 0) (.cons (.tup .nil) (.cons (.tup (.cons (.int 1) (.cons (.int 1) (.cons (.int 1) .nil)))) (.cons (.lst (.cons (.int 1) (.cons (.int 1) (.cons (.int 1) (.cons (.int 1) .nil))))) (.cons (.tup (.cons (.int 0) (.cons (.int 1) (.cons (.int 1) (.cons (.int 1) .nil))))) (.cons (.tup (.cons (.int 61) (.cons (.int 1) (.cons (.int 1) (.cons (.int 1) .nil))))) (.cons (.tup (.cons (.int 1) (.cons (.int 0) (.cons (.int 1) (.cons (.int 1) .nil))))) (.cons (.tup (.cons (.int 1) (.cons (.int 41) (.cons (.int 1) (.cons (.int 1) .nil))))) .nil))))))))))) (.cons (.asg (.gn 1) (.bin .add (.var 1) (.lst (.cons (.tup (.cons (.int 1) (.cons (.int 1) (.cons (.int 0) (.cons (.int 1) .nil))))) (.cons (.tup (.cons (.int 1) (.cons (.int 1) (.cons (.int 1) (.cons (.int 41) .nil))))) .nil))))) (.cons (.asg (.gn 1) (.bin .add (.var 1) (.lst (.cons (.tup (.cons (.int 1) (.cons (.int 1) (.cons (.int 1) (.cons (.neg (.int 41)) .nil))))) (.cons (.tup (.cons (.int 1) (.cons (.neg (.int 1)) (.cons (.int 1) (.cons (.int 1) .nil))))) (.cons (.tup (.cons (.bl true) (.cons (.int 1) (.cons (.int 1) (.cons (.int 1) .nil))))) (.cons (.tup (.cons (.int 1) (.cons (.int 1) (.cons (.int 1) (.cons .non .nil))))) (.cons (.str ("1111" : Str)) (.cons (.dic .nil .nil) (.cons (.tup (.cons (.int 1) (.cons (.int 1) (.cons (.int 1) (.cons (.int 1) (.cons (.int 1) .nil)))))) .nil)))))))))) (.cons (.asg (.gn 1) (.bin .add (.var 1) (.lst (.cons (.call 0 (.cons (.int 12) .nil)) .nil)))) (.cons (.asg (.gn 1) (.call 1 (.cons (.var 0) (.cons (.var 1) .nil)))) (.cons (.asg (.gn 2) (.call 1 (.cons (.var 0) (.cons (.lst (.cons .non (.cons (.int 0) (.cons (.tup (.cons (.int 2) (.cons (.int 1) .nil))) (.cons (.tup (.cons (.neg (.int 3)) (.cons (.int 2) .nil))) (.cons (.tup (.cons (.int 2) (.cons (.int 4) .nil))) (.cons (.tup (.cons (.int 1) (.cons (.int 0) .nil))) (.cons (.lst (.cons (.int 1) (.cons (.int 2) .nil))) (.cons (.tup (.cons (.bl true) (.cons (.int 1) .nil))) (.cons (.str ("12" : Str)) (.cons (.dic .nil .nil) (.cons (.tup (.cons (.int 1) .nil)) (.cons (.tup (.cons (.int 1) (.cons (.neg (.int 2)) .nil))) .nil))))))))))))) .nil)))) (.cons (.asg (.gn 3) (.lst .nil)) (.cons (.forr (.gn 4) (.itv (.tup (.cons (.glb 0) (.cons (.glb 1) .nil)))) (.cons (.app 3 (.lamv 4 4 [(("goes_back" : Str), 2), (("seen_square" : Str), 3)] (.cons (.var 1) (.cons (.var 2) .nil)))) (.cons (.app 3 (.lamv 4 4 [(("goes_back" : Str), 2), (("seen_square" : Str), 3)] (.cons (.tup (.cons (.int 3) (.cons (.int 1) (.cons (.int 2) (.cons (.int 5) .nil))))) (.cons (.var 2) .nil)))) .nil))) (.cons (.app 3 (.lam 4 5 (.cons (.var 1) .nil))) (.cons (.app 3 (.lam 4 6 (.cons (.var 1) .nil))) (.cons (.app 3 (.lam 4 7 (.cons (.var 1) (.cons .non .nil)))) (.cons (.ret (.cmp .eq (.var 3) (.bin .add (.bin .mul (.lst (.cons (.tup (.cons (.int 0) .nil)) (.cons (.tup (.cons (.int 1) .nil)) .nil))) (.int 2)) (.bin .mul (.lst (.cons (.tup (.cons (.int 0) .nil)) .nil)) (.int 3))))) .nil))))))))))))
def l_is_refused : FnSem := mkFn (tbl [l_deep, l_some, q_goes_back, q_seen_square, l_word, q_back_or_not, q_turn_cosine, q_is_back_or_not]) [(fnD "goes_back"), (fnD "seen_square")] [true] 5 bl_is_refused
@[simp] theorem l_is_refused_io : l_is_refused.inout = [true] := rfl
/-- law(script): 0 script, 1 hand, 2 turn; calls 0 _law_hand, 1 turn_cosine, 2 _law_is_right, 3 _law_is_refused -/
def bq_law : T := (.cons (.asg (.gn 1) (.call 0 (.cons (.var 0) .nil))) (.cons (.iff (.or (.cmp .ne (.call 1 (.cons (.tup (.cons (.int 10) (.cons (.int 1) (.cons (.int 5) (.cons (.int 10) .nil))))) .nil)) (.tup (.cons (.neg (.int 7)) (.cons (.int 11) .nil)))) (.cmp .isnot (.call 1 (.cons (.tup (.cons (.int 10) (.cons (.int 1) (.cons (.int 1) (.cons (.int 1) .nil))))) .nil)) .non)) (.cons (.ret (.bl false)) .nil) .nil) (.cons (.ret (.bi .all (.cons (.lc (.gn 2) (.itr (.cons (.int 6) .nil)) .nil (.and (.call 2 (.cons (.var 1) .nil)) (.call 3 (.cons (.var 1) .nil))) [2]) .nil))) .nil)))
def q_law : FnSem := mkFn (tbl [l_hand, q_turn_cosine, l_is_right, l_is_refused]) [] [false] 3 bq_law
@[simp] theorem q_law_io : q_law.inout = [false] := rfl
end
end LawK45

/-! K45A: pairs of wheels. -/
namespace LawK45
open PySem Fz
@[simp] theorem is_integer_r (x : Int) : q_is_integer.run [.int x] = .ok (.v (.bool true), []) := by rfl
theorem is_within_r (x lo hi : Int) (h1 : lo ≤ x) (h2 : x ≤ hi) : q_is_within.run [.int x, .int lo, .int hi] = .ok (.v (.bool true), []) := by
  simp -dsimp -implicitDefEqProofs [q_is_within, bq_is_within, mkFn_run, callF, h1, h2]
theorem is_tuple_r (xs : List D) (lo hi : Int) (h1 : lo ≤ xs.length) (h2 : xs.length ≤ hi) : q_is_tuple.run [.tuple xs, .int lo, .int hi] = .ok (.v (.bool true), []) := by
  simp -dsimp -implicitDefEqProofs [q_is_tuple, bq_is_tuple, mkFn_run, callF, h1, h2]

theorem draw_ok : DrawOk l_draw := drawOk1 (h1 := 69621) (h2 := 347) (h3 := 2147483629) (a1 := 7919) (a2 := 48271) (m1 := 2147483647) (d2 := 1009) (c2 := 69621) (m2 := 2147483647) (d3 := 2003) (c3 := 40692) (m3 := 2147483399)
  ⟨by decide, by decide, by decide, by decide, by decide, ⟨by decide, by decide, by decide⟩, ⟨by decide, by decide, by decide⟩⟩ (by decide) (by decide)
theorem hand_ok (ns : List Int) : ∃ ds, l_hand.run [scrD ns] = .ok (.t ds, []) ∧ HandOk ds := hand1_r ns
theorem some_ok' : SomeOk l_some := some_ok draw_ok rfl

theorem is_integer_d {d : D} (h : isDictD d = false) : q_is_integer.run [d] = .ok (.v (.bool (isIntD d && !isBoolD d)), []) := by
  cases q : isIntD d <;> simp -dsimp -implicitDefEqProofs [q_is_integer, bq_is_integer, mkFn_run, h, q]
theorem is_within_d {d : D} (h : isDictD d = false) (h2 : (isIntD d && !isBoolD d) = false) (lo hi : D) : q_is_within.run [d, lo, hi] = .ok (.v (.bool false), []) := by
  have e := is_integer_d h
  rw [h2] at e
  simp -dsimp -implicitDefEqProofs [q_is_within, bq_is_within, mkFn_run, callF, e]
theorem is_within_i (x lo hi : Int) : q_is_within.run [.int x, .int lo, .int hi] = .ok (.v (.bool (decide (lo ≤ x ∧ x ≤ hi))), []) := by
  by_cases h1 : lo ≤ x <;> by_cases h2 : x ≤ hi <;> simp -dsimp -implicitDefEqProofs [q_is_within, bq_is_within, mkFn_run, callF, h1, h2]
theorem is_tuple_n {d : D} (h : isDictD d = false) (h2 : isTupleD d = false) (lo hi : D) : q_is_tuple.run [d, lo, hi] = .ok (.v (.bool false), []) := by
  simp -dsimp -implicitDefEqProofs [q_is_tuple, bq_is_tuple, mkFn_run, h, h2]
theorem is_tuple_d (xs : List D) (lo hi : Int) : q_is_tuple.run [.tuple xs, .int lo, .int hi] = .ok (.v (.bool (decide (lo ≤ xs.length ∧ (xs.length : Int) ≤ hi))), []) := by
  by_cases h1 : lo ≤ (xs.length : Int) <;> by_cases h2 : (xs.length : Int) ≤ hi <;> simp -dsimp -implicitDefEqProofs [q_is_tuple, bq_is_tuple, mkFn_run, h1, h2]

theorem llow_ok : RatOk l_low := low_ok
theorem red_ok : RatOk q_reduced := reduced_ok
def prD (r p s q : Int) : D := .tuple [.int r, .int p, .int s, .int q]
structure COk (c : Rat) : Prop where
  den : c.den < 1000
  lo : -1 ≤ c
  hi : c ≤ 1
theorem COk.num {c : Rat} (h : COk c) : -(c.den : Int) ≤ c.num ∧ c.num ≤ c.den := cos_iff.mp ⟨h.lo, h.hi⟩
theorem is_fraction_r {c : Rat} (h : c.den < 1073741824) : q_is_fraction.run [rD c] = .ok (.v (.bool true), []) := by
  have e := frac_self red_ok (c := c) (by omega)
  have hp : (0 : Int) < c.den := by have := c.den_pos; omega
  have hp' := c.den_pos
  have g := eqD_rD c c
  rw [decide_eq_true rfl] at g
  unfold rD at e g ⊢
  simp -dsimp -implicitDefEqProofs [q_is_fraction, bq_is_fraction, mkFn_run, callF, is_tuple_r, evE_lc', lcTurn, lcLoop, hp, hp', e, g]
structure POk (r p s q : Int) : Prop where
  r : 1 ≤ r ∧ r ≤ 60
  p : 1 ≤ p ∧ p ≤ 40
  s : 1 ≤ s ∧ s ≤ 60
  q : -40 ≤ q ∧ q ≤ 40
theorem check_pair_r {r p s q : Int} (h : POk r p s q) : q_check_pair.run [prD r p s q] = .ok (.v .none, []) := by
  obtain ⟨⟨r1, r2⟩, ⟨p1, p2⟩, ⟨s1, s2⟩, ⟨q1, q2⟩⟩ := h
  simp -dsimp -implicitDefEqProofs [q_check_pair, bq_check_pair, mkFn_run, callF, prD, is_tuple_r, is_within_r r 1 60 r1 r2, is_within_r p 1 40 p1 p2, is_within_r s 1 60 s1 s2, is_within_r q (-40) 40 q1 q2]
def stl (r p s q : Int) : Int := r * r * p + s * s * q
def trn (r p s q : Int) : Int := r * s * (p + q)
theorem mulB {a b : Int} (h : -1000000000000 ≤ a ∧ a ≤ 1000000000000) : Fz.MulOk a b := mul_l ⟨by omega, by omega⟩
theorem bnd {a b m n : Int} (ha : -m ≤ a ∧ a ≤ m) (hb : -n ≤ b ∧ b ≤ n) : -(m * n) ≤ a * b ∧ a * b ≤ m * n := by
  have hm : 0 ≤ m := by omega
  have hn : 0 ≤ n := by omega
  have h1 := Int.mul_nonneg (show 0 ≤ m - a by omega) (show 0 ≤ n - b by omega)
  have h2 := Int.mul_nonneg (show 0 ≤ m + a by omega) (show 0 ≤ n + b by omega)
  have h3 := Int.mul_nonneg (show 0 ≤ m - a by omega) (show 0 ≤ n + b by omega)
  have h4 := Int.mul_nonneg (show 0 ≤ m + a by omega) (show 0 ≤ n - b by omega)
  simp only [Int.sub_mul, Int.add_mul, Int.mul_sub, Int.mul_add] at h1 h2 h3 h4
  omega
structure Bds (r p s q : Int) : Prop where
  rr : -3600 ≤ r * r ∧ r * r ≤ 3600
  ss : -3600 ≤ s * s ∧ s * s ≤ 3600
  rs : -3600 ≤ r * s ∧ r * s ≤ 3600
  st : -288000 ≤ stl r p s q ∧ stl r p s q ≤ 288000
  tr : -288000 ≤ trn r p s q ∧ trn r p s q ≤ 288000
theorem POk.bds {r p s q : Int} (h : POk r p s q) : Bds r p s q := by
  obtain ⟨⟨r1, r2⟩, ⟨p1, p2⟩, ⟨s1, s2⟩, ⟨q1, q2⟩⟩ := h
  have a1 := bnd (a := r) (b := r) (m := 60) (n := 60) ⟨by omega, by omega⟩ ⟨by omega, by omega⟩
  have a2 := bnd (a := s) (b := s) (m := 60) (n := 60) ⟨by omega, by omega⟩ ⟨by omega, by omega⟩
  have a3 := bnd (a := r) (b := s) (m := 60) (n := 60) ⟨by omega, by omega⟩ ⟨by omega, by omega⟩
  have a4 := bnd (a := r * r) (b := p) (m := 3600) (n := 40) a1 ⟨by omega, by omega⟩
  have a5 := bnd (a := s * s) (b := q) (m := 3600) (n := 40) a2 ⟨by omega, by omega⟩
  have a6 := bnd (a := r * s) (b := p + q) (m := 3600) (n := 80) a3 ⟨by omega, by omega⟩
  refine ⟨a1, a2, a3, ?_, ?_⟩
  · unfold stl; omega
  · unfold trn; omega
theorem parts_of_r {r p s q : Int} (h : POk r p s q) : q_parts_of.run [prD r p s q] = .ok (.v (.tuple [.int (stl r p s q), .int (trn r p s q)]), []) := by
  have b := h.bds
  obtain ⟨⟨r1, r2⟩, ⟨p1, p2⟩, ⟨s1, s2⟩, ⟨q1, q2⟩⟩ := h
  have m1 : ∀ z, Fz.MulOk r z := fun z => mulB ⟨by omega, by omega⟩
  have m2 : ∀ z, Fz.MulOk s z := fun z => mulB ⟨by omega, by omega⟩
  have m3 : ∀ z, Fz.MulOk (r * r) z := fun z => mulB ⟨by have := b.rr; omega, by have := b.rr; omega⟩
  have m4 : ∀ z, Fz.MulOk (s * s) z := fun z => mulB ⟨by have := b.ss; omega, by have := b.ss; omega⟩
  have m5 : ∀ z, Fz.MulOk (r * s) z := fun z => mulB ⟨by have := b.rs; omega, by have := b.rs; omega⟩
  simp -dsimp -implicitDefEqProofs [q_parts_of, bq_parts_of, mkFn_run, prD, m1, m2, m3, m4, m5, stl, trn]
def spd (r p s q : Int) (c : Rat) : Rat := (stl r p s q : Rat) + (trn r p s q : Rat) * c
theorem is_back_r {r p s q : Int} (h : POk r p s q) {c : Rat} (hc : COk c) : q_is_back.run [prD r p s q, rD c] = .ok (.v (.bool (decide (spd r p s q c < 0))), []) := by
  have b := h.bds
  have e1 := parts_of_r h
  obtain ⟨e2, e3⟩ := lin_run reduced_ok (stl r p s q) (trn r p s q) c (by have := hc.den; omega) (mulB ⟨by have := b.tr; omega, by have := b.tr; omega⟩)
  have e2' : q_times.run [.tuple [.int (trn r p s q), .int 1], rD c] = .ok (.v (rD ((trn r p s q : Rat) * c)), []) := e2
  have e3' : q_added.run [.tuple [.int (stl r p s q), .int 1], rD ((trn r p s q : Rat) * c)] = .ok (.v (rD (spd r p s q c)), []) := e3
  have e4 : ∀ x : Rat, ixD (rD x) (.int 0) = .ok (.v (.int x.num)) := fun x => rfl
  have e5 : decide ((spd r p s q c).num < 0) = decide (spd r p s q c < 0) := by
    rw [decide_eq_decide]; exact num_neg'
  simp -dsimp -implicitDefEqProofs [q_is_back, bq_is_back, mkFn_run, callF, e1, e2', e3', e4, e5]
def bnd' (r p s q : Int) : Int := stl r p s q - absI (trn r p s q)
theorem bound_of_r {r p s q : Int} (h : POk r p s q) : q_bound_of.run [prD r p s q] = .ok (.v (.int (bnd' r p s q)), []) := by
  simp -dsimp -implicitDefEqProofs [q_bound_of, bq_bound_of, mkFn_run, callF, parts_of_r h, bnd']
def toldD (r p s q : Int) : D := if 0 ≤ bnd' r p s q then .tuple [.str "never", .int (bnd' r p s q)] else .tuple [.str "back", .tuple [.int (if 0 < trn r p s q then -1 else 1), .int 1]]
theorem back_or_not_r {r p s q : Int} (h : POk r p s q) : q_back_or_not.run [prD r p s q] = .ok (.v (toldD r p s q), []) := by
  have e1 := check_pair_r h
  have e2 := bound_of_r h
  have e3 := parts_of_r h
  unfold toldD
  by_cases hb : 0 ≤ bnd' r p s q
  · simp -dsimp -implicitDefEqProofs [q_back_or_not, bq_back_or_not, mkFn_run, callF, e1, e2, hb]
  · by_cases ht : 0 < trn r p s q
    · simp -dsimp -implicitDefEqProofs [q_back_or_not, bq_back_or_not, mkFn_run, callF, e1, e2, e3, hb, ht]
    · simp -dsimp -implicitDefEqProofs [q_back_or_not, bq_back_or_not, mkFn_run, callF, e1, e2, e3, hb, ht]
theorem low_r {x y : Int} (h : y ≠ 0) (h1 : -1073741824 < y) (h2 : y < 1073741824) : l_low.run [.int x, .int y] = .ok (.v (rD (Rat.divInt x y)), []) := llow_ok.2 h (by omega) (by omega)
theorem speed_r {r p s q : Int} (h : POk r p s q) {c : Rat} (hc : COk c) : l_speed.run [prD r p s q, rD c] = .ok (.v (rD (spd r p s q c)), []) := by
  have b := h.bds
  obtain ⟨e2, e3⟩ := lin_run low_ok (stl r p s q) (trn r p s q) c (by have := hc.den; omega) (mulB ⟨by have := b.tr; omega, by have := b.tr; omega⟩)
  have e2' : l_times.run [.tuple [.int (r * s * (p + q)), .int 1], rD c] = .ok (.v (rD ((trn r p s q : Rat) * c)), []) := e2
  have e3' : l_plus.run [.tuple [.int (r * r * p + s * s * q), .int 1], rD ((trn r p s q : Rat) * c)] = .ok (.v (rD (spd r p s q c)), []) := e3
  generalize (trn r p s q : Rat) * c = X at e2' e3'
  obtain ⟨⟨r1, r2⟩, ⟨p1, p2⟩, ⟨s1, s2⟩, ⟨q1, q2⟩⟩ := h
  have m1 : ∀ z, Fz.MulOk r z := fun z => mulB ⟨by omega, by omega⟩
  have m2 : ∀ z, Fz.MulOk s z := fun z => mulB ⟨by omega, by omega⟩
  have m3 : ∀ z, Fz.MulOk (r * r) z := fun z => mulB ⟨by have := b.rr; omega, by have := b.rr; omega⟩
  have m4 : ∀ z, Fz.MulOk (s * s) z := fun z => mulB ⟨by have := b.ss; omega, by have := b.ss; omega⟩
  have m5 : ∀ z, Fz.MulOk (r * s) z := fun z => mulB ⟨by have := b.rs; omega, by have := b.rs; omega⟩
  unfold prD
  simp -dsimp -implicitDefEqProofs [l_speed, bl_speed, mkFn_run, callF, m1, m2, m3, m4, m5, e2', e3']
theorem lbound_r {r p s q : Int} (h : POk r p s q) : l_bound.run [prD r p s q] = .ok (.v (.int (bnd' r p s q)), []) := by
  have b := h.bds
  obtain ⟨⟨r1, r2⟩, ⟨p1, p2⟩, ⟨s1, s2⟩, ⟨q1, q2⟩⟩ := h
  have m1 : ∀ z, Fz.MulOk r z := fun z => mulB ⟨by omega, by omega⟩
  have m2 : ∀ z, Fz.MulOk s z := fun z => mulB ⟨by omega, by omega⟩
  have m3 : ∀ z, Fz.MulOk (r * r) z := fun z => mulB ⟨by have := b.rr; omega, by have := b.rr; omega⟩
  have m4 : ∀ z, Fz.MulOk (s * s) z := fun z => mulB ⟨by have := b.ss; omega, by have := b.ss; omega⟩
  have m5 : ∀ z, Fz.MulOk (r * s) z := fun z => mulB ⟨by have := b.rs; omega, by have := b.rs; omega⟩
  have ha : r * s * absI (p + q) = absI (trn r p s q) := by
    have hrs : 0 ≤ r * s := Int.mul_nonneg (by omega) (by omega)
    unfold trn absI
    by_cases z : p + q < 0
    · rw [if_pos z, Int.mul_neg]
      by_cases w : r * s * (p + q) < 0
      · rw [if_pos w]
      · have := Int.mul_nonpos_of_nonneg_of_nonpos hrs (show p + q ≤ 0 by omega)
        rw [if_neg w]
        omega
    · rw [if_neg z]
      have := Int.mul_nonneg hrs (show 0 ≤ p + q by omega)
      rw [if_neg (by omega)]
  simp -dsimp -implicitDefEqProofs [l_bound, bl_bound, mkFn_run, prD, m1, m2, m3, m4, m5, ha, bnd', stl]
theorem pair_r {ds : List D} (h : HandOk ds) : ∃ r p s q ds', l_wheel_pair.run [.list ds] = .ok (.v (prD r p s q), [ds']) ∧ POk r p s q ∧ HandOk ds' := by
  obtain ⟨m, ds1, e1, hm, h⟩ := some_int some_ok' h 6 [60] (by decide)
  obtain ⟨t, ds2, e2, ht, h⟩ := some_int some_ok' h 4 [40] (by decide)
  have hm' : 6 ≤ m ∧ m ≤ 60 := by simp at hm; omega
  have ht' : 4 ≤ t ∧ t ≤ 40 := by simp at ht; omega
  obtain ⟨r, ds3, e3, r1, h⟩ := draw_nat draw_ok h (m := m) (by omega) (by omega)
  obtain ⟨p, ds4, e4, p1, h⟩ := draw_nat draw_ok h (m := t) (by omega) (by omega)
  obtain ⟨s, ds5, e5, s1, h⟩ := draw_nat draw_ok h (m := m) (by omega) (by omega)
  obtain ⟨q, ds6, e6, q1, h⟩ := draw_nat draw_ok h (m := 2 * t + 1) (by omega) (by omega)
  have mm : Fz.MulOk 2 t := mul_l (by decide)
  simp only [List.map_cons, List.map_nil] at e1 e2
  refine ⟨1 + r, 1 + p, 1 + s, q - t, ds6, ?_, ⟨by omega, by omega, by omega, by omega⟩, h⟩
  simp -dsimp -implicitDefEqProofs [l_wheel_pair, bl_wheel_pair, mkFn_run, callF, e1, e2, e3, e4, e5, e6, mm, prD]
theorem cosine_r {ds : List D} (h : HandOk ds) : ∃ c ds', l_cosine.run [.list ds] = .ok (.v (rD c), [ds']) ∧ COk c ∧ HandOk ds' := by
  obtain ⟨b, ds1, e1, b1, h⟩ := draw_nat draw_ok h (m := 9) (by decide) (by decide)
  obtain ⟨a, ds2, e2, a1, h⟩ := draw_nat draw_ok h (m := 2 * (1 + (b : Int)) + 1) (by omega) (by omega)
  have mm : Fz.MulOk 2 (1 + (b : Int)) := mul_l (by decide)
  have e3 := low_r (x := a - (1 + (b : Int))) (y := 1 + b) (by omega) (by omega) (by omega)
  obtain ⟨c1, c2⟩ := cos_of (a := (a : Int) - (1 + (b : Int))) (b := 1 + b) (by omega) (by omega) (by omega)
  have c3 := den_divInt_le (a := (a : Int) - (1 + (b : Int))) (b := 1 + b) (by omega)
  refine ⟨_, ds2, ?_, ⟨by omega, c1, c2⟩, h⟩
  simp -dsimp -implicitDefEqProofs [l_cosine, bl_cosine, mkFn_run, callF, e1, e2, e3, mm]
theorem one_cos : COk 1 := ⟨by decide, by decide, by decide⟩
theorem neg_cos : COk (-1) := ⟨by decide, by decide, by decide⟩
theorem is_bool (b : Bool) : l_is_4.run [.bool b, .bool b] = .ok (.v (.bool true), []) := (is_next (.inr (is_next (.inr is_base))) : IsOk 2 l_is_4).self (by decide) (sz_bool _ b)
theorem is4_ok : IsOk 2 l_is_4 := is_next (.inr (is_next (.inr is_base)))
theorem is_cosine_r {c : Rat} (h : COk c) : q_is_cosine.run [rD c] = .ok (.v (.bool true), []) := by
  have e := is_fraction_r (c := c) (by have := h.den; omega)
  obtain ⟨n1, n2⟩ := h.num
  have ha : absI c.num ≤ c.den := absI_le.mpr ⟨n1, n2⟩
  unfold rD at e ⊢
  simp -dsimp -implicitDefEqProofs [q_is_cosine, bq_is_cosine, mkFn_run, callF, e, ha]
theorem lis_cosine_r {c : Rat} (h : COk c) : l_is_cosine.run [rD c] = .ok (.v (.bool true), []) := by
  have e := frac_self llow_ok (c := c) (by have := h.den; omega)
  have hp := c.den_pos
  have hp' : ¬ ((c.den : Int) ≤ 0) := by omega
  have hp2 : c.den ≠ 0 := by omega
  have g := eqD_rD c c
  rw [decide_eq_true rfl] at g
  obtain ⟨n1, n2⟩ := h.num
  have ha : absI c.num ≤ c.den := absI_le.mpr ⟨n1, n2⟩
  unfold rD at e g ⊢
  simp -dsimp -implicitDefEqProofs [l_is_cosine, bl_is_cosine, mkFn_run, callF, evE_lc', lcTurn, lcLoop, hp', hp2, e, g, ha]
/-- what is no cosine -/
def NoCos (x : D) : Prop := q_is_cosine.run [x] = .ok (.v (.bool false), []) ∧ l_is_cosine.run [x] = .ok (.v (.bool false), [])
theorem nc_n {x : D} (h : isDictD x = false) (h2 : isTupleD x = false) : NoCos x := by
  have t := is_tuple_n h h2 (.int 2) (.int 2)
  have f : q_is_fraction.run [x] = .ok (.v (.bool false), []) := by simp -dsimp -implicitDefEqProofs [q_is_fraction, bq_is_fraction, mkFn_run, callF, t]
  exact ⟨by simp -dsimp -implicitDefEqProofs [q_is_cosine, bq_is_cosine, mkFn_run, callF, f], by simp -dsimp -implicitDefEqProofs [l_is_cosine, bl_is_cosine, mkFn_run, callF, h, h2]⟩
theorem nc_b (b : Bool) (n : Int) : NoCos (.tuple [.bool b, .int n]) := by
  have t := is_tuple_r [.bool b, .int n] 2 2 (by simp) (by simp)
  have f : q_is_fraction.run [.tuple [.bool b, .int n]] = .ok (.v (.bool false), []) := by simp -dsimp -implicitDefEqProofs [q_is_fraction, bq_is_fraction, mkFn_run, callF, t, evE_lc', lcTurn, lcLoop]
  exact ⟨by simp -dsimp -implicitDefEqProofs [q_is_cosine, bq_is_cosine, mkFn_run, callF, f], by simp -dsimp -implicitDefEqProofs [l_is_cosine, bl_is_cosine, mkFn_run, callF, evE_lc', lcTurn, lcLoop]⟩
theorem nc_len (xs : List D) (h : xs.length ≠ 2) : NoCos (.tuple xs) := by
  have t := is_tuple_d xs 2 2
  rw [decide_eq_false (by omega)] at t
  have f : q_is_fraction.run [.tuple xs] = .ok (.v (.bool false), []) := by simp -dsimp -implicitDefEqProofs [q_is_fraction, bq_is_fraction, mkFn_run, callF, t]
  have l2 : ¬ ((xs.length : Int) = 2) := by omega
  exact ⟨by simp -dsimp -implicitDefEqProofs [q_is_cosine, bq_is_cosine, mkFn_run, callF, f], by simp -dsimp -implicitDefEqProofs [l_is_cosine, bl_is_cosine, mkFn_run, callF, l2]⟩
/-- two ints that are no lowest terms, or too far -/
theorem nc_i {a b : Int} (hb : 0 < b) (hb2 : b < 1000000) (h : ¬ (rD (Rat.divInt a b) = .tuple [.int a, .int b] ∧ absI a ≤ b)) : NoCos (.tuple [.int a, .int b]) := by
  have t := is_tuple_r [.int a, .int b] 2 2 (by simp) (by simp)
  have r1 : q_reduced.run [.int a, .int b] = .ok (.v (rD (Rat.divInt a b)), []) := red_ok.2 (by omega) (by omega) (by omega)
  have r2 : l_low.run [.int a, .int b] = .ok (.v (rD (Rat.divInt a b)), []) := llow_ok.2 (by omega) (by omega) (by omega)
  have g : eqD (rD (Rat.divInt a b)) (.tuple [.int a, .int b]) = .ok (decide (rD (Rat.divInt a b) = .tuple [.int a, .int b])) := eqD_pl (by simp) (by simp)
  obtain ⟨u, hu⟩ : ∃ u, rD (Rat.divInt a b) = u := ⟨_, rfl⟩
  rw [hu] at r1 r2 g h
  have b1 : ¬ b ≤ 0 := by omega
  by_cases z : u = .tuple [.int a, .int b]
  · have z2 : ¬ absI a ≤ b := fun q => h ⟨z, q⟩
    rw [decide_eq_true z] at g
    have f : q_is_fraction.run [.tuple [.int a, .int b]] = .ok (.v (.bool true), []) := by simp -dsimp -implicitDefEqProofs [q_is_fraction, bq_is_fraction, mkFn_run, callF, t, evE_lc', lcTurn, lcLoop, hb, r1, g]
    exact ⟨by simp -dsimp -implicitDefEqProofs [q_is_cosine, bq_is_cosine, mkFn_run, callF, f, z2], by simp -dsimp -implicitDefEqProofs [l_is_cosine, bl_is_cosine, mkFn_run, callF, evE_lc', lcTurn, lcLoop, b1, r2, g, z2]⟩
  · rw [decide_eq_false z] at g
    have f : q_is_fraction.run [.tuple [.int a, .int b]] = .ok (.v (.bool false), []) := by simp -dsimp -implicitDefEqProofs [q_is_fraction, bq_is_fraction, mkFn_run, callF, t, evE_lc', lcTurn, lcLoop, hb, r1, g]
    exact ⟨by simp -dsimp -implicitDefEqProofs [q_is_cosine, bq_is_cosine, mkFn_run, callF, f], by simp -dsimp -implicitDefEqProofs [l_is_cosine, bl_is_cosine, mkFn_run, callF, evE_lc', lcTurn, lcLoop, b1, r2, g]⟩
theorem nc_0 {a b : Int} (hb : b ≤ 0) : NoCos (.tuple [.int a, .int b]) := by
  have t := is_tuple_r [.int a, .int b] 2 2 (by simp) (by simp)
  have b1 : ¬ 0 < b := by omega
  have f : q_is_fraction.run [.tuple [.int a, .int b]] = .ok (.v (.bool false), []) := by simp -dsimp -implicitDefEqProofs [q_is_fraction, bq_is_fraction, mkFn_run, callF, t, evE_lc', lcTurn, lcLoop, b1]
  exact ⟨by simp -dsimp -implicitDefEqProofs [q_is_cosine, bq_is_cosine, mkFn_run, callF, f], by simp -dsimp -implicitDefEqProofs [l_is_cosine, bl_is_cosine, mkFn_run, callF, evE_lc', lcTurn, lcLoop, hb]⟩
def Judge (r p s q : Int) (t : D) : Prop := ∃ b, q_is_back_or_not.run [prD r p s q, t] = .ok (.v (.bool b), []) ∧ l_judged.run [prD r p s q, t] = .ok (.v (.bool b), [])
section
variable {r p s q : Int}
theorem j_not (h : POk r p s q) {t : D} (h1 : isDictD t = false) (h2 : isTupleD t = false) : Judge r p s q t := by
  have c := check_pair_r h
  have it := is_tuple_n h1 h2 (.int 2) (.int 2)
  unfold Judge
  generalize prD r p s q = P at c ⊢
  exact ⟨false, by simp -dsimp -implicitDefEqProofs [q_is_back_or_not, bq_is_back_or_not, mkFn_run, callF, c, it], by simp -dsimp -implicitDefEqProofs [l_judged, bl_judged, mkFn_run, callF, h1, h2]⟩
theorem j_len (h : POk r p s q) {xs : List D} (hl : xs.length ≠ 2) : Judge r p s q (.tuple xs) := by
  have c := check_pair_r h
  have it := is_tuple_d xs 2 2
  rw [decide_eq_false (by omega)] at it
  have l2 : ¬ ((xs.length : Int) = 2) := by omega
  unfold Judge
  generalize prD r p s q = P at c ⊢
  exact ⟨false, by simp -dsimp -implicitDefEqProofs [q_is_back_or_not, bq_is_back_or_not, mkFn_run, callF, c, it], by simp -dsimp -implicitDefEqProofs [l_judged, bl_judged, mkFn_run, callF, l2]⟩
theorem t2 (x y : D) : q_is_tuple.run [.tuple [x, y], .int 2, .int 2] = .ok (.v (.bool true), []) := is_tuple_r [x, y] 2 2 (by simp) (by simp)
theorem nb_s : ¬ (("never" : Str) = "back") := by decide
theorem j_other (h : POk r p s q) {w : Str} (w1 : ¬ w = "back") (w2 : ¬ w = "never") (x : D) : Judge r p s q (.tuple [.str w, x]) := by
  have c := check_pair_r h
  have it := t2 (.str w) x
  unfold Judge
  generalize prD r p s q = P at c ⊢
  exact ⟨false, by simp -dsimp -implicitDefEqProofs [q_is_back_or_not, bq_is_back_or_not, mkFn_run, callF, c, it, w1, w2], by simp -dsimp -implicitDefEqProofs [l_judged, bl_judged, mkFn_run, callF, w1, w2]⟩
theorem j_nc (h : POk r p s q) {x : D} (n : NoCos x) : Judge r p s q (.tuple [.str "back", x]) := by
  have c := check_pair_r h
  have it := t2 (.str "back") x
  obtain ⟨n1, n2⟩ := n
  unfold Judge
  generalize prD r p s q = P at c ⊢
  exact ⟨false, by simp -dsimp -implicitDefEqProofs [q_is_back_or_not, bq_is_back_or_not, mkFn_run, callF, c, it, n1], by simp -dsimp -implicitDefEqProofs [l_judged, bl_judged, mkFn_run, callF, n2]⟩
theorem j_cos (h : POk r p s q) {x : Rat} (hx : COk x) : Judge r p s q (.tuple [.str "back", rD x]) := by
  have c := check_pair_r h
  have it := t2 (.str "back") (rD x)
  have n1 := is_cosine_r hx
  have n2 := lis_cosine_r hx
  have b1 := is_back_r h hx
  have b2 := speed_r h hx
  have e4 : ∀ x : Rat, ixD (rD x) (.int 0) = .ok (.v (.int x.num)) := fun x => rfl
  have e5 : decide ((spd r p s q x).num < 0) = decide (spd r p s q x < 0) := by
    rw [decide_eq_decide]; exact num_neg'
  have e6 := e4 (spd r p s q x)
  obtain ⟨v, hv⟩ : ∃ v, rD (spd r p s q x) = v := ⟨_, rfl⟩
  obtain ⟨u, hu⟩ : ∃ u, rD x = u := ⟨_, rfl⟩
  rw [hv] at b2 e6
  rw [hu] at it n1 n2 b1 b2 ⊢
  unfold Judge
  generalize prD r p s q = P at c b1 b2 ⊢
  refine ⟨decide (spd r p s q x < 0), by simp -dsimp -implicitDefEqProofs [q_is_back_or_not, bq_is_back_or_not, mkFn_run, callF, c, it, n1, b1], ?_⟩
  rw [← e5]
  simp -dsimp -implicitDefEqProofs [l_judged, bl_judged, mkFn_run, callF, n2, b2, e6]
theorem j_nev (h : POk r p s q) (n : Int) : Judge r p s q (.tuple [.str "never", .int n]) := by
  have c := check_pair_r h
  have it := t2 (.str "never") (.int n)
  have b1 := bound_of_r h
  have b2 := lbound_r h
  have ii : q_is_integer.run [.int n] = .ok (.v (.bool true), []) := is_integer_r n
  obtain ⟨b, hb⟩ : ∃ b, bnd' r p s q = b := ⟨_, rfl⟩
  rw [hb] at b1 b2
  unfold Judge
  generalize prD r p s q = P at c b1 b2 ⊢
  by_cases h1 : n = b
  · subst h1
    by_cases h2 : 0 ≤ n
    · exact ⟨true, by simp -dsimp -implicitDefEqProofs [q_is_back_or_not, bq_is_back_or_not, mkFn_run, callF, c, it, ii, b1, h2, nb_s], by simp -dsimp -implicitDefEqProofs [l_judged, bl_judged, mkFn_run, callF, b2, h2, nb_s]⟩
    · exact ⟨false, by simp -dsimp -implicitDefEqProofs [q_is_back_or_not, bq_is_back_or_not, mkFn_run, callF, c, it, ii, b1, h2, nb_s], by simp -dsimp -implicitDefEqProofs [l_judged, bl_judged, mkFn_run, callF, b2, h2, nb_s]⟩
  · by_cases h2 : 0 ≤ b
    · exact ⟨false, by simp -dsimp -implicitDefEqProofs [q_is_back_or_not, bq_is_back_or_not, mkFn_run, callF, c, it, ii, b1, h1, nb_s], by simp -dsimp -implicitDefEqProofs [l_judged, bl_judged, mkFn_run, callF, b2, h1, h2, nb_s]⟩
    · exact ⟨false, by simp -dsimp -implicitDefEqProofs [q_is_back_or_not, bq_is_back_or_not, mkFn_run, callF, c, it, ii, b1, h1, nb_s], by simp -dsimp -implicitDefEqProofs [l_judged, bl_judged, mkFn_run, callF, b2, h1, h2, nb_s]⟩
theorem j_nevn (h : POk r p s q) {x : D} (h1 : isDictD x = false) (h2 : isIntD x = false) : Judge r p s q (.tuple [.str "never", x]) := by
  have c := check_pair_r h
  have it := t2 (.str "never") x
  have ii := is_integer_d h1
  rw [h2] at ii
  unfold Judge
  generalize prD r p s q = P at c ⊢
  exact ⟨false, by simp -dsimp -implicitDefEqProofs [q_is_back_or_not, bq_is_back_or_not, mkFn_run, callF, c, it, ii, nb_s], by simp -dsimp -implicitDefEqProofs [l_judged, bl_judged, mkFn_run, callF, h1, h2, nb_s]⟩
theorem j_nevb (h : POk r p s q) (b : Bool) : Judge r p s q (.tuple [.str "never", .bool b]) := by
  have c := check_pair_r h
  have it := t2 (.str "never") (.bool b)
  have ii := is_integer_d (d := .bool b) rfl
  have e : (isIntD (.bool b) && !isBoolD (.bool b)) = false := rfl
  rw [e] at ii
  unfold Judge
  generalize prD r p s q = P at c ⊢
  exact ⟨false, by simp -dsimp -implicitDefEqProofs [q_is_back_or_not, bq_is_back_or_not, mkFn_run, callF, c, it, ii, nb_s], by simp -dsimp -implicitDefEqProofs [l_judged, bl_judged, mkFn_run, callF, nb_s, isIntD, isBoolD]⟩
end
def Sh (t : D) : Prop := ∃ z, biD .show [t] = .ok (.v (.str z))
theorem Fz_sh_t {xs : List D} (h : sm 40 (.tuple xs) = true) (hb : PyData.bulk (.tuple xs) ≤ 1048576) : Sh (.tuple xs) := ⟨_, bi_show_t h hb⟩
theorem Fz_sh_l {xs : List D} (h : sm 40 (.list xs) = true) (hb : PyData.bulk (.list xs) ≤ 1048576) : Sh (.list xs) := ⟨_, bi_show_l h hb⟩
theorem sm_s (n : Nat) (x : Str) : sm n (.str x) = sm 0 (.str x) := by cases n <;> rfl
theorem sm_b : sm 0 (.str "back") = true ∧ sm 0 (.str "never") = true ∧ sm 0 (.str "Back") = true ∧ sm 0 (.str "-") = true := by decide
theorem bk : PyData.bulk (.str "back") ≤ 100 ∧ PyData.bulk (.str "never") ≤ 100 ∧ PyData.bulk (.str "Back") ≤ 100 ∧ PyData.bulk (.str "-") ≤ 100 := by decide
/-- what may be shown, by parts -/
def Sq (n B : Nat) (d : D) : Prop := sm n d = true ∧ d.bulk ≤ B
theorem sq_i (n : Nat) {i : Int} (h : i.natAbs < 1000000000000) : Sq n 0 (.int i) := ⟨by rw [sm_int]; exact decide_eq_true h, Nat.le_refl _⟩
theorem sq_n (n : Nat) : Sq n 0 .none := ⟨sm_non n, Nat.le_refl _⟩
theorem sq_b (n : Nat) (b : Bool) : Sq n 0 (.bool b) := ⟨sm_bool n b, Nat.le_refl _⟩
theorem sq_s (n : Nat) {x : Str} (h : x = "back" ∨ x = "never" ∨ x = "Back" ∨ x = "-") : Sq n 100 (.str x) := by
  rcases h with rfl | rfl | rfl | rfl
  · exact ⟨by rw [sm_s]; exact sm_b.1, bk.1⟩
  · exact ⟨by rw [sm_s]; exact sm_b.2.1, bk.2.1⟩
  · exact ⟨by rw [sm_s]; exact sm_b.2.2.1, bk.2.2.1⟩
  · exact ⟨by rw [sm_s]; exact sm_b.2.2.2, bk.2.2.2⟩
theorem sq_0 (n : Nat) : sm n (.int 0) = true := by rw [sm_int]; decide
/-- lists of such -/
theorem sq_all {n B : Nat} : ∀ {xs : List D}, (∀ x ∈ xs, Sq n B x) → xs.all (sm n) = true ∧ PyData.bulkAll xs ≤ (B + 1) * xs.length
  | [], _ => ⟨rfl, Nat.zero_le _⟩
  | x :: xs, h => by
    obtain ⟨a, b⟩ := sq_all (xs := xs) fun y hy => h y (List.mem_cons_of_mem _ hy)
    obtain ⟨c, d⟩ := h x List.mem_cons_self
    refine ⟨by rw [List.all_cons, a, c]; rfl, ?_⟩
    rw [PyData.bulkAll, List.length_cons, Nat.mul_add, Nat.mul_one]
    omega
theorem sq_t {n B C : Nat} {xs : List D} (h : ∀ x ∈ xs, Sq n B x) (hc : (B + 1) * xs.length ≤ C) : Sq (n + 1) C (.tuple xs) := by
  obtain ⟨a, b⟩ := sq_all h
  exact ⟨by rw [sm_tuple]; exact a, by rw [PyData.bulk]; omega⟩
theorem sq_l {n B C : Nat} {xs : List D} (h : ∀ x ∈ xs, Sq n B x) (hc : (B + 1) * xs.length ≤ C) : Sq (n + 1) C (.list xs) := by
  obtain ⟨a, b⟩ := sq_all h
  exact ⟨by rw [sm_list]; exact a, by rw [PyData.bulk]; omega⟩
theorem Sq.up {n A B : Nat} {d : D} (h : Sq n A d) (hb : A ≤ B) : Sq n B d := ⟨h.1, Nat.le_trans h.2 hb⟩
theorem sq_2 {n B : Nat} {x y : D} (hx : Sq n B x) (hy : Sq n B y) : ∀ z ∈ [x, y], Sq n B z := fun z hz => by
  simp only [List.mem_cons, List.not_mem_nil, or_false] at hz
  rcases hz with rfl | rfl <;> assumption
theorem Sq.sh_t {B : Nat} {xs : List D} (h : Sq 40 B (.tuple xs)) (hb : B ≤ 1000000) : Sh (.tuple xs) := Fz_sh_t h.1 (Nat.le_trans h.2 (by omega))
theorem Sq.sh_l {B : Nat} {xs : List D} (h : Sq 40 B (.list xs)) (hb : B ≤ 1000000) : Sh (.list xs) := Fz_sh_l h.1 (Nat.le_trans h.2 (by omega))
/-- a word with a thing -/
theorem sh_w {w : Str} {x : D} (h : w = "back" ∨ w = "never" ∨ w = "Back" ∨ w = "-") (hx : Sq 39 1000 x) : Sh (.tuple [.str w, x]) :=
  (sq_t (C := 10000) (sq_2 ((sq_s 39 h).up (by decide)) hx) (by simp)).sh_t (by decide)
theorem sq_pair {a b : Int} (ha : a.natAbs < 1000000000000) (hb : b.natAbs < 1000000000000) : Sq 39 1000 (.tuple [.int a, .int b]) :=
  sq_t (n := 38) (B := 0) (C := 1000) (sq_2 (sq_i _ ha) (sq_i _ hb)) (by simp)
/-- the cosine at which it stands still, bottom above 0 -/
def topN (r p s q : Int) : Int := if 0 < trn r p s q then -stl r p s q else stl r p s q
def stand (r p s q : Int) : Rat := Rat.divInt (topN r p s q) (absI (trn r p s q))
theorem stand_eq {r p s q : Int} (h : trn r p s q ≠ 0) : Rat.divInt (-stl r p s q) (trn r p s q) = stand r p s q := by
  unfold stand topN absI
  by_cases z : 0 < trn r p s q
  · rw [if_pos z, if_neg (by omega)]
  · rw [if_neg z, if_pos (by omega), Rat.divInt_neg']
theorem abs_fits {x y : Int} (hy : 0 < y) : (absI (Rat.divInt x y).num ≤ (Rat.divInt x y).den) ↔ absI x ≤ y := by
  have e := divInt_cross x hy
  have hd := (Rat.divInt x y).den_pos
  rw [absI_le, absI_le]
  generalize (Rat.divInt x y).num = n at *
  obtain ⟨d, hd'⟩ : ∃ d : Int, ((Rat.divInt x y).den : Int) = d := ⟨_, rfl⟩
  rw [hd'] at e ⊢
  have d0 : 0 < d := by omega
  constructor
  · rintro ⟨h1, h2⟩
    have a := Int.mul_le_mul_of_nonneg_right h2 (show 0 ≤ y by omega)
    have b := Int.mul_le_mul_of_nonneg_right h1 (show 0 ≤ y by omega)
    rw [e] at a b
    rw [Int.mul_comm d y] at a
    rw [Int.neg_mul, Int.mul_comm d y, ← Int.neg_mul] at b
    exact ⟨Int.le_of_mul_le_mul_right b d0, Int.le_of_mul_le_mul_right a d0⟩
  · rintro ⟨h1, h2⟩
    have a := Int.mul_le_mul_of_nonneg_right h2 (show 0 ≤ d by omega)
    have b := Int.mul_le_mul_of_nonneg_right h1 (show 0 ≤ d by omega)
    rw [← e] at a b
    rw [Int.mul_comm y d] at a
    rw [Int.neg_mul, Int.mul_comm y d, ← Int.neg_mul] at b
    exact ⟨Int.le_of_mul_le_mul_right b hy, Int.le_of_mul_le_mul_right a hy⟩
theorem turn_cosine_r {r p s q : Int} (h : POk r p s q) : q_turn_cosine.run [prD r p s q] = .ok (.v (if trn r p s q = 0 ∨ absI (trn r p s q) < absI (stl r p s q) then .none else rD (stand r p s q)), []) := by
  have c := check_pair_r h
  have e := parts_of_r h
  have b := h.bds
  have ds : trn r p s q ≠ 0 → q_reduced.run [.int (topN r p s q), .int (absI (trn r p s q))] = .ok (.v (rD (stand r p s q)), []) := fun z => red_ok.2 (by unfold absI; split <;> omega) (by have := b.tr; unfold absI; split <;> omega) (by have := b.tr; unfold absI; split <;> omega)
  have et : topN r p s q = if 0 < trn r p s q then -stl r p s q else stl r p s q := rfl
  rw [et] at ds
  generalize prD r p s q = P at c e
  generalize rD (stand r p s q) = S at ds ⊢
  generalize trn r p s q = t at e ds ⊢
  generalize stl r p s q = u at e ds ⊢
  by_cases z : t = 0
  · subst z
    rw [if_pos (.inl rfl)]
    simp -dsimp -implicitDefEqProofs [q_turn_cosine, bq_turn_cosine, mkFn_run, callF, c, e]
  · have ds := ds z
    by_cases z2 : absI t < absI u
    · rw [if_pos (.inr z2)]
      simp -dsimp -implicitDefEqProofs [q_turn_cosine, bq_turn_cosine, mkFn_run, callF, c, e, z, z2]
    · rw [if_neg (fun w => w.elim z z2)]
      by_cases z3 : 0 < t
      · rw [if_pos z3] at ds
        simp -dsimp -implicitDefEqProofs [q_turn_cosine, bq_turn_cosine, mkFn_run, callF, c, e, z, z2, z3, ds]
      · rw [if_neg z3] at ds
        simp -dsimp -implicitDefEqProofs [q_turn_cosine, bq_turn_cosine, mkFn_run, callF, c, e, z, z2, z3, ds]
theorem abs_top {r p s q : Int} : absI (topN r p s q) = absI (stl r p s q) := by
  unfold topN
  split
  · unfold absI
    split <;> split <;> omega
  · rfl
def deepI : D := .list [.list [.list [.list [.list [.list [.tuple [.tuple [.tuple [.tuple [.tuple [.str "-"]]]]]]]]]]]
def deepD : D := .list [deepI]
theorem deep_r : l_deep.run [.int 12] = .ok (.t [deepI], []) := by
  have z : rngOk 12 := ⟨by decide, by decide⟩
  have r : rng 0 12 = [.int 0, .int 1, .int 2, .int 3, .int 4, .int 5, .int 6, .int 7, .int 8, .int 9, .int 10, .int 11] := rfl
  unfold deepI
  simp -dsimp -implicitDefEqProofs [l_deep, bl_deep, mkFn_run, evS_forr', forLoop, Fz.forTurn, callF, z, r]
theorem deep_sh : Sh (.list [deepI]) := Fz_sh_l (by decide) (by decide)
def Okt (r p s q : Int) (t : D) : Prop := Judge r p s q t ∧ Sh t
theorem rD_1 : rD 1 = .tuple [.int 1, .int 1] := rfl
theorem rD_m1 : rD (-1) = .tuple [.int (-1), .int 1] := rfl
section
variable {r p s q : Int}
theorem bnd_small (h : POk r p s q) : (bnd' r p s q).natAbs < 1000000 := by
  have b := h.bds
  have s1 := b.st
  have t1 := b.tr
  unfold bnd' absI
  split <;> omega
theorem told_form (h : POk r p s q) : ∃ (w : Str) (x : D), toldD r p s q = .tuple [.str w, x] ∧ Okt r p s q (.tuple [.str w, x]) ∧ Okt r p s q (.tuple [.str "Back", x]) ∧ Sq 39 1000 x ∧ (w = "never" ∨ w = "back") := by
  have bs := bnd_small h
  have key : ∃ (w : Str) (x : D), toldD r p s q = .tuple [.str w, x] ∧ Judge r p s q (.tuple [.str w, x]) ∧ Sq 39 1000 x ∧ (w = "never" ∨ w = "back") := by
    unfold toldD
    by_cases z : 0 ≤ bnd' r p s q
    · rw [if_pos z]
      exact ⟨_, _, rfl, j_nev h _, (sq_i 39 (by omega)).up (by decide), .inl rfl⟩
    · rw [if_neg z]
      by_cases z2 : 0 < trn r p s q
      · rw [if_pos z2]
        exact ⟨_, _, rfl, rD_m1 ▸ j_cos h neg_cos, sq_pair (by decide) (by decide), .inr rfl⟩
      · rw [if_neg z2]
        exact ⟨_, _, rfl, rD_1 ▸ j_cos h one_cos, sq_pair (by decide) (by decide), .inr rfl⟩
  obtain ⟨w, x, e, j, sx, hw⟩ := key
  refine ⟨w, x, e, ⟨j, sh_w (hw.elim (fun q => .inr (.inl q)) .inl) sx⟩, ⟨j_other h (by decide) (by decide) x, sh_w (.inr (.inr (.inl rfl))) sx⟩, sx, hw⟩
theorem ok_1 (h : POk r p s q) {w : Str} {x : D} (hw : w = "never" ∨ w = "back") (sx : Sq 39 1000 x) : ∀ t ∈ [PyData.list [.str w, x], .tuple [.str w, x, .int 0], .tuple [.str w], .none, .tuple [], .int 0, .dict [], .str "back"], Okt r p s q t := by
  have sw : Sq 39 1000 (.str w) := (sq_s 39 (hw.elim (fun q => .inr (.inl q)) .inl)).up (by decide)
  intro t ht
  simp only [List.mem_cons, List.not_mem_nil, or_false] at ht
  rcases ht with rfl | rfl | rfl | rfl | rfl | rfl | rfl | rfl
  · exact ⟨j_not h rfl rfl, (sq_l (C := 10000) (sq_2 sw sx) (by simp)).sh_l (by decide)⟩
  · refine ⟨j_len h (by simp), (sq_t (n := 39) (B := 1000) (C := 10000) (fun y hy => ?_) (by simp)).sh_t (by decide)⟩
    simp only [List.mem_cons, List.not_mem_nil, or_false] at hy
    rcases hy with rfl | rfl | rfl
    · exact sw
    · exact sx
    · exact (sq_i 39 (by decide)).up (by decide)
  · refine ⟨j_len h (by simp), (sq_t (n := 39) (B := 1000) (C := 10000) (fun y hy => ?_) (by simp)).sh_t (by decide)⟩
    rw [List.mem_singleton.mp hy]
    exact sw
  · exact ⟨j_not h rfl rfl, _, bi_show_n⟩
  · exact ⟨j_len h (by simp), (sq_t (n := 39) (B := 0) (C := 0) (fun y hy => by cases hy) (by simp)).sh_t (by decide)⟩
  · exact ⟨j_not h rfl rfl, _, bi_show_i (by unfold ReprOk; omega)⟩
  · exact ⟨j_not h rfl rfl, _, rfl⟩
  · exact ⟨j_not h rfl rfl, _, bi_show_s (showOk_of (by decide) (by decide))⟩
theorem ok_w (h : POk r p s q) {x : D} (j : Judge r p s q (.tuple [.str "back", x])) (sx : Sq 39 1000 x) : Okt r p s q (.tuple [.str "back", x]) := ⟨j, sh_w (.inl rfl) sx⟩
theorem ok_v (h : POk r p s q) {x : D} (j : Judge r p s q (.tuple [.str "never", x])) (sx : Sq 39 1000 x) : Okt r p s q (.tuple [.str "never", x]) := ⟨j, sh_w (.inr (.inl rfl)) sx⟩
theorem ok_cos (h : POk r p s q) {c : Rat} (hc : COk c) : Okt r p s q (.tuple [.str "back", rD c]) := by
  have n := hc.num
  have d := hc.den
  exact ok_w h (j_cos h hc) (sq_pair (by omega) (by omega))
theorem ok_2 (h : POk r p s q) : ∀ t ∈ [PyData.tuple [.str "back", .none], .tuple [.str "never", .none]], Okt r p s q t := by
  intro t ht
  simp only [List.mem_cons, List.not_mem_nil, or_false] at ht
  rcases ht with rfl | rfl
  · exact ok_w h (j_nc h (nc_n rfl rfl)) ((sq_n 39).up (by decide))
  · exact ok_v h (j_nevn h rfl rfl) ((sq_n 39).up (by decide))
theorem nc_21 : NoCos (.tuple [.int 2, .int 1]) := nc_i (by decide) (by decide) (by unfold absI; omega)
theorem nc_22 : NoCos (.tuple [.int (-2), .int 2]) := nc_i (by decide) (by decide) (fun z => by
  have e : Rat.divInt (-2) 2 = -1 := by decide +kernel
  have z1 := z.1
  rw [e, rD_m1] at z1
  injection z1 with z1
  injection z1 with z1
  injection z1 with z1
  omega)
theorem ok_3 (h : POk r p s q) : ∀ t ∈ [PyData.tuple [.str "back", .tuple [.int 1, .int 1]], .tuple [.str "back", .tuple [.int (-1), .int 1]], .tuple [.str "back", .tuple [.int 2, .int 1]]], Okt r p s q t := by
  intro t ht
  simp only [List.mem_cons, List.not_mem_nil, or_false] at ht
  rcases ht with rfl | rfl | rfl
  · exact rD_1 ▸ ok_cos h one_cos
  · exact rD_m1 ▸ ok_cos h neg_cos
  · exact ok_w h (j_nc h nc_21) (sq_pair (by decide) (by decide))
theorem ok_4 (h : POk r p s q) : ∀ t ∈ [PyData.tuple [.str "never", .int (bnd' r p s q)], .tuple [.str "never", .int (bnd' r p s q + 1)], .tuple [.str "never", .int 0], .tuple [.str "never", .bool true], .tuple [.str "back", .tuple [.int (-2), .int 2]], .tuple [.str "back", .list [.int (-1), .int 1]],
    .tuple [.str "back", .tuple [.bool true, .int 1]], .tuple [.str "back", .int (-1)], .tuple [.str "never", .tuple [.int (bnd' r p s q), .int 1]], .list [deepI]], Okt r p s q t := by
  have bs := bnd_small h
  intro t ht
  simp only [List.mem_cons, List.not_mem_nil, or_false] at ht
  rcases ht with rfl | rfl | rfl | rfl | rfl | rfl | rfl | rfl | rfl | rfl
  · exact ok_v h (j_nev h _) ((sq_i 39 (by omega)).up (by decide))
  · exact ok_v h (j_nev h _) ((sq_i 39 (by omega)).up (by decide))
  · exact ok_v h (j_nev h _) ((sq_i 39 (by decide)).up (by decide))
  · exact ok_v h (j_nevb h _) ((sq_b 39 _).up (by decide))
  · exact ok_w h (j_nc h nc_22) (sq_pair (by decide) (by decide))
  · exact ok_w h (j_nc h (nc_n rfl rfl)) (sq_l (n := 38) (B := 0) (C := 1000) (sq_2 (sq_i _ (by decide)) (sq_i _ (by decide))) (by simp))
  · exact ok_w h (j_nc h (nc_b _ _)) (sq_t (n := 38) (B := 0) (C := 1000) (sq_2 (sq_b _ _) (sq_i _ (by decide))) (by simp))
  · exact ok_w h (j_nc h (nc_n rfl rfl)) ((sq_i 39 (by decide)).up (by decide))
  · exact ok_v h (j_nevn h rfl rfl) (sq_pair (by omega) (by decide))
  · exact ⟨j_not h rfl rfl, deep_sh⟩
end
theorem is_right_r {ds : List D} (h : HandOk ds) : ∃ ds', l_is_right.run [.list ds] = .ok (.v (.bool true), [ds']) ∧ HandOk ds' := by
  obtain ⟨r, p, s, q, ds1, e1, ok, h⟩ := pair_r h
  obtain ⟨c1, ds2, e2, k1, h⟩ := cosine_r h
  obtain ⟨c2, ds3, e3, k2, h⟩ := cosine_r h
  obtain ⟨c3, ds4, e4, k3, h⟩ := cosine_r h
  obtain ⟨c4, ds5, e5, k4, h⟩ := cosine_r h
  obtain ⟨c5, ds6, e6, k5, h⟩ := cosine_r h
  have ob := ok.bds
  have q1 := ok_cos ok k1
  have q2 := ok_cos ok k2
  have q3 := ok_cos ok k3
  have q4 := ok_cos ok k4
  have q5 := ok_cos ok k5
  have o2 := ok_2 ok
  have o3 := ok_3 ok
  have o4 := ok_4 ok
  obtain ⟨w, x, et, ot, oB, sx, hw⟩ := told_form ok
  have o1 := ok_1 ok hw sx
  have bn := back_or_not_r ok
  rw [et] at bn
  have lb := lbound_r ok
  have tc := turn_cosine_r ok
  have dp := deep_r
  have lw : trn r p s q ≠ 0 → l_low.run [.int (-stl r p s q), .int (trn r p s q)] = .ok (.v (rD (stand r p s q)), []) := fun z => by
    rw [low_r z (by have := ob.tr; omega) (by have := ob.tr; omega), stand_eq z]
  have fits : trn r p s q ≠ 0 → ((absI (stand r p s q).num ≤ (stand r p s q).den) ↔ absI (stl r p s q) ≤ absI (trn r p s q)) := fun z => by
    have y0 : 0 < absI (trn r p s q) := by unfold absI; split <;> omega
    have ex := abs_top (r := r) (p := p) (s := s) (q := q)
    have := abs_fits (x := topN r p s q) y0
    rw [ex] at this
    exact this
  have selfS : l_is_4.run [rD (stand r p s q), rD (stand r p s q)] = .ok (.v (.bool true), []) := is4_ok.self (by decide) (sz_rD _)
  have selfN : l_is_4.run [.none, .none] = .ok (.v (.bool true), []) := is4_ok.self (by decide) (by simp)
  have est : stl r p s q = r * r * p + s * s * q := rfl
  have etr : trn r p s q = r * s * (p + q) := rfl
  have z0 : p + q ≠ 0 → trn r p s q ≠ 0 := fun z w => by
    have r1 := ok.r
    have s1 := ok.s
    rw [etr] at w
    rcases Int.mul_eq_zero.mp w with w | w
    · rcases Int.mul_eq_zero.mp w with w | w <;> omega
    · exact z w
  have tz : p + q = 0 → trn r p s q = 0 := fun z => by rw [etr, z, Int.mul_zero]
  have m1 : ∀ z, Fz.MulOk r z := fun z => mulB ⟨by have := ok.r; omega, by have := ok.r; omega⟩
  have m2 : ∀ z, Fz.MulOk s z := fun z => mulB ⟨by have := ok.s; omega, by have := ok.s; omega⟩
  have m3 : ∀ z, Fz.MulOk (r * r) z := fun z => mulB ⟨by have := ob.rr; omega, by have := ob.rr; omega⟩
  have m4 : ∀ z, Fz.MulOk (s * s) z := fun z => mulB ⟨by have := ob.ss; omega, by have := ob.ss; omega⟩
  have m5 : ∀ z, Fz.MulOk (r * s) z := fun z => mulB ⟨by have := ob.rs; omega, by have := ob.rs; omega⟩
  have ng : -(r * r * p) - s * s * q = -stl r p s q := by rw [est]; omega
  have isb := is_bool
  have c1' := cut_take [PyData.str w, x] 1
  have i1 : ((1 : Nat) : Int) = 1 := rfl
  rw [i1] at c1'
  simp only [List.take] at c1'
  have r5 : rngOk 5 := ⟨by decide, by decide⟩
  have g5 : rng 0 5 = [.int 0, .int 1, .int 2, .int 3, .int 4] := rfl
  obtain ⟨u1, hu1⟩ : ∃ u, rD c1 = u := ⟨_, rfl⟩
  obtain ⟨u2, hu2⟩ : ∃ u, rD c2 = u := ⟨_, rfl⟩
  obtain ⟨u3, hu3⟩ : ∃ u, rD c3 = u := ⟨_, rfl⟩
  obtain ⟨u4, hu4⟩ : ∃ u, rD c4 = u := ⟨_, rfl⟩
  obtain ⟨u5, hu5⟩ : ∃ u, rD c5 = u := ⟨_, rfl⟩
  rw [hu1] at e2 q1
  rw [hu2] at e3 q2
  rw [hu3] at e4 q3
  rw [hu4] at e5 q4
  rw [hu5] at e6 q5
  have sm : stand r p s q = stand r p s q := rfl
  obtain ⟨b, hb⟩ : ∃ b, bnd' r p s q = b := ⟨_, rfl⟩
  rw [hb] at lb o4
  have Jd : ∀ t, Okt r p s q t → ∃ b z, q_is_back_or_not.run [.tuple [.int r, .int p, .int s, .int q], t] = .ok (.v (.bool b), []) ∧ l_judged.run [.tuple [.int r, .int p, .int s, .int q], t] = .ok (.v (.bool b), []) ∧ biD .show [t] = .ok (.v (.str z)) := fun t ⟨⟨b, j1, j2⟩, z, hz⟩ => ⟨b, z, j1, j2, hz⟩
  unfold prD at e1 bn lb tc
  obtain ⟨out, eo, ds', rfl, h'⟩ := fn_rets (Φ := tbl [l_wheel_pair, q_back_or_not, l_bound, l_cosine, l_deep, l_is_4, q_is_back_or_not, l_judged, l_low, q_turn_cosine]) (Γ := []) (io := [true]) (n := 13) (b := bl_is_right) (as := [.list ds]) (Q := fun out => ∃ ds', out = (.v (.bool true), [ds']) ∧ HandOk ds') rfl (by
    unfold bl_is_right
    refine rs_step (σ1 := [.own ds1, .val (.tuple [.int r, .int p, .int s, .int q]), .no, .no, .no, .no, .no, .no, .no, .no, .no, .no, .no]) (by simp -dsimp -implicitDefEqProofs [callF, e1]) ?_
    refine rs_step (σ1 := [.own ds1, .val (.tuple [.int r, .int p, .int s, .int q]), .no, .no, .val (.int r), .val (.int p), .val (.int s), .val (.int q), .no, .no, .no, .no, .no]) (by simp -dsimp -implicitDefEqProofs []) ?_
    refine rs_step (σ1 := [.own ds1, .val (.tuple [.int r, .int p, .int s, .int q]), .no, .no, .val (.int r), .val (.int p), .val (.int s), .val (.int q), .val (.tuple [.str w, x]), .val (.int b), .no, .no, .no]) (by simp -dsimp -implicitDefEqProofs [callF, bn, lb]) ?_
    refine rs_step (σ1 := [.own ds1, .val (.tuple [.int r, .int p, .int s, .int q]), .own [.tuple [.str w, x], .list [.str w, x], .tuple [.str w, x, .int 0], .tuple [.str w], .none, .tuple [], .int 0, .dict [], .str "back", .tuple [.str "Back", x]], .no, .val (.int r), .val (.int p), .val (.int s), .val (.int q), .val (.tuple [.str w, x]), .val (.int b), .no, .no, .no]) (by simp -dsimp -implicitDefEqProofs [c1']) ?_
    have oA : ∀ t ∈ [PyData.tuple [.str w, x], .list [.str w, x], .tuple [.str w, x, .int 0], .tuple [.str w], .none, .tuple [], .int 0, .dict [], .str "back", .tuple [.str "Back", x]], Okt r p s q t := by
      intro t ht
      rcases List.mem_cons.mp ht with rfl | ht
      · exact ot
      · have ht : t ∈ [PyData.list [.str w, x], .tuple [.str w, x, .int 0], .tuple [.str w], .none, .tuple [], .int 0, .dict [], .str "back"] ++ [PyData.tuple [.str "Back", x]] := ht
        rcases List.mem_append.mp ht with ht | ht
        · exact o1 t ht
        · rw [List.mem_singleton.mp ht]; exact oB
    have nA : [PyData.tuple [.str w, x], .list [.str w, x], .tuple [.str w, x, .int 0], .tuple [.str w], .none, .tuple [], .int 0, .dict [], .str "back", .tuple [.str "Back", x]].length = 10 := rfl
    generalize [PyData.tuple [.str w, x], .list [.str w, x], .tuple [.str w, x, .int 0], .tuple [.str w], .none, .tuple [], .int 0, .dict [], .str "back", .tuple [.str "Back", x]] = A at oA nA ⊢
    refine rs_step (σ1 := [.own ds1, .val (.tuple [.int r, .int p, .int s, .int q]), .own (A ++ [.tuple [.str "back", .none], .tuple [.str "never", .none]]), .no, .val (.int r), .val (.int p), .val (.int s), .val (.int q), .val (.tuple [.str w, x]), .val (.int b), .no, .no, .no]) (by simp -dsimp -implicitDefEqProofs [nA]) ?_
    have oB' : ∀ t ∈ A ++ [PyData.tuple [.str "back", .none], .tuple [.str "never", .none]], Okt r p s q t := fun t ht => (List.mem_append.mp ht).elim (oA t) (o2 t)
    have nB : (A ++ [PyData.tuple [.str "back", .none], .tuple [.str "never", .none]]).length = 12 := by rw [List.length_append, nA]; rfl
    generalize A ++ [PyData.tuple [.str "back", .none], .tuple [.str "never", .none]] = B at oB' nB ⊢
    refine rs_step (σ1 := [.own ds6, .val (.tuple [.int r, .int p, .int s, .int q]), .own (B ++ [.tuple [.str "back", u1], .tuple [.str "back", u2], .tuple [.str "back", u3], .tuple [.str "back", u4], .tuple [.str "back", u5], .tuple [.str "back", .tuple [.int 1, .int 1]], .tuple [.str "back", .tuple [.int (-1), .int 1]]]), .no, .val (.int r), .val (.int p), .val (.int s), .val (.int q), .val (.tuple [.str w, x]), .val (.int b), .no, .no, .no]) (by simp -dsimp -implicitDefEqProofs [nB, evE_lc', lcTurn, lcLoop, callF, r5, g5, e2, e3, e4, e5, e6]) ?_
    have oC : ∀ t ∈ B ++ [PyData.tuple [.str "back", u1], .tuple [.str "back", u2], .tuple [.str "back", u3], .tuple [.str "back", u4], .tuple [.str "back", u5], .tuple [.str "back", .tuple [.int 1, .int 1]], .tuple [.str "back", .tuple [.int (-1), .int 1]]], Okt r p s q t := by
      intro t ht
      rcases List.mem_append.mp ht with ht | ht
      · exact oB' t ht
      · simp only [List.mem_cons, List.not_mem_nil, or_false] at ht
        rcases ht with rfl | rfl | rfl | rfl | rfl | rfl | rfl
        · exact q1
        · exact q2
        · exact q3
        · exact q4
        · exact q5
        · exact o3 _ (by simp)
        · exact o3 _ (by simp)
    have nC : (B ++ [PyData.tuple [.str "back", u1], .tuple [.str "back", u2], .tuple [.str "back", u3], .tuple [.str "back", u4], .tuple [.str "back", u5], .tuple [.str "back", .tuple [.int 1, .int 1]], .tuple [.str "back", .tuple [.int (-1), .int 1]]]).length = 19 := by rw [List.length_append, nB]; rfl
    generalize B ++ [PyData.tuple [.str "back", u1], .tuple [.str "back", u2], .tuple [.str "back", u3], .tuple [.str "back", u4], .tuple [.str "back", u5], .tuple [.str "back", .tuple [.int 1, .int 1]], .tuple [.str "back", .tuple [.int (-1), .int 1]]] = C at oC nC ⊢
    refine rs_step (σ1 := [.own ds6, .val (.tuple [.int r, .int p, .int s, .int q]), .own (C ++ [.tuple [.str "back", .tuple [.int 2, .int 1]]]), .no, .val (.int r), .val (.int p), .val (.int s), .val (.int q), .val (.tuple [.str w, x]), .val (.int b), .no, .no, .no]) (by simp -dsimp -implicitDefEqProofs [nC]) ?_
    refine rs_step (σ1 := [.own ds6, .val (.tuple [.int r, .int p, .int s, .int q]), .own (C ++ [.tuple [.str "back", .tuple [.int 2, .int 1]], .tuple [.str "never", .int b], .tuple [.str "never", .int (b + 1)], .tuple [.str "never", .int 0], .tuple [.str "never", .bool true], .tuple [.str "back", .tuple [.int (-2), .int 2]]]), .no, .val (.int r), .val (.int p), .val (.int s), .val (.int q), .val (.tuple [.str w, x]), .val (.int b), .no, .no, .no]) (by simp -dsimp -implicitDefEqProofs [nC]) ?_
    refine rs_step (σ1 := [.own ds6, .val (.tuple [.int r, .int p, .int s, .int q]), .own (C ++ [.tuple [.str "back", .tuple [.int 2, .int 1]], .tuple [.str "never", .int b], .tuple [.str "never", .int (b + 1)], .tuple [.str "never", .int 0], .tuple [.str "never", .bool true], .tuple [.str "back", .tuple [.int (-2), .int 2]], .tuple [.str "back", .list [.int (-1), .int 1]]]), .no, .val (.int r), .val (.int p), .val (.int s), .val (.int q), .val (.tuple [.str w, x]), .val (.int b), .no, .no, .no]) (by simp -dsimp -implicitDefEqProofs [nC]) ?_
    have oE : ∀ t ∈ C ++ [PyData.tuple [.str "back", .tuple [.int 2, .int 1]], .tuple [.str "never", .int b], .tuple [.str "never", .int (b + 1)], .tuple [.str "never", .int 0], .tuple [.str "never", .bool true], .tuple [.str "back", .tuple [.int (-2), .int 2]], .tuple [.str "back", .list [.int (-1), .int 1]]], Okt r p s q t := by
      intro t ht
      rcases List.mem_append.mp ht with ht | ht
      · exact oC t ht
      · rcases List.mem_cons.mp ht with rfl | ht
        · exact o3 _ (by simp)
        · refine o4 t ?_
          simp only [List.mem_cons, List.not_mem_nil, or_false] at ht ⊢
          rcases ht with rfl | rfl | rfl | rfl | rfl | rfl <;> simp
    have nE : (C ++ [PyData.tuple [.str "back", .tuple [.int 2, .int 1]], .tuple [.str "never", .int b], .tuple [.str "never", .int (b + 1)], .tuple [.str "never", .int 0], .tuple [.str "never", .bool true], .tuple [.str "back", .tuple [.int (-2), .int 2]], .tuple [.str "back", .list [.int (-1), .int 1]]]).length = 26 := by rw [List.length_append, nC]; rfl
    generalize C ++ [PyData.tuple [.str "back", .tuple [.int 2, .int 1]], .tuple [.str "never", .int b], .tuple [.str "never", .int (b + 1)], .tuple [.str "never", .int 0], .tuple [.str "never", .bool true], .tuple [.str "back", .tuple [.int (-2), .int 2]], .tuple [.str "back", .list [.int (-1), .int 1]]] = E at oE nE ⊢
    refine rs_for (ds := E ++ [.tuple [.str "back", .tuple [.bool true, .int 1]], .tuple [.str "back", .int (-1)], .tuple [.str "never", .tuple [.int b, .int 1]], .list [deepI]]) (σ1 := [.own ds6, .val (.tuple [.int r, .int p, .int s, .int q]), .own E, .no, .val (.int r), .val (.int p), .val (.int s), .val (.int q), .val (.tuple [.str w, x]), .val (.int b), .no, .no, .no]) (P := fun i σ => ∃ s3 s10, σ = [.own ds6, .val (.tuple [.int r, .int p, .int s, .int q]), .own E, s3, .val (.int r), .val (.int p), .val (.int s), .val (.int q), .val (.tuple [.str w, x]), .val (.int b), s10, .no, .no]) (by simp -dsimp -implicitDefEqProofs [nE, callF, dp]) ⟨_, _, rfl⟩ ?_ ?_
    · rintro i t σ ht ⟨s3, s10, rfl⟩
      have ok' : Okt r p s q t := by
        rcases List.mem_append.mp (List.mem_of_getElem? ht) with ht | ht
        · exact oE t ht
        · refine o4 t ?_
          simp only [List.mem_cons, List.not_mem_nil, or_false] at ht ⊢
          rcases ht with rfl | rfl | rfl | rfl <;> simp
      obtain ⟨bb, z, j1, j2, j3⟩ := Jd t ok'
      have ib := isb bb
      refine ⟨[.own ds6, .val (.tuple [.int r, .int p, .int s, .int q]), .own E, .val t, .val (.int r), .val (.int p), .val (.int s), .val (.int q), .val (.tuple [.str w, x]), .val (.int b), .val (.str z), .no, .no], turn_step (σ' := [.own ds6, .val (.tuple [.int r, .int p, .int s, .int q]), .own E, .val t, .val (.int r), .val (.int p), .val (.int s), .val (.int q), .val (.tuple [.str w, x]), .val (.int b), s10, .no, .no]) (by simp -dsimp -implicitDefEqProofs []) (seq_step (σ' := [.own ds6, .val (.tuple [.int r, .int p, .int s, .int q]), .own E, .val t, .val (.int r), .val (.int p), .val (.int s), .val (.int q), .val (.tuple [.str w, x]), .val (.int b), .val (.str z), .no, .no]) (by simp -dsimp -implicitDefEqProofs [j3]) (seq_step (σ' := [.own ds6, .val (.tuple [.int r, .int p, .int s, .int q]), .own E, .val t, .val (.int r), .val (.int p), .val (.int s), .val (.int q), .val (.tuple [.str w, x]), .val (.int b), .val (.str z), .no, .no]) (by simp -dsimp -implicitDefEqProofs [callF, j1, j2, ib, j3]) seq_nil)), _, _, rfl⟩
    · rintro σ ⟨s3, s10, rfl⟩
      by_cases z : p + q = 0
      · refine rs_step (σ1 := [.own ds6, .val (.tuple [.int r, .int p, .int s, .int q]), .own E, s3, .val (.int r), .val (.int p), .val (.int s), .val (.int q), .val (.tuple [.str w, x]), .val (.int b), s10, .no, .no]) (by simp -dsimp -implicitDefEqProofs [z]) ?_
        refine rs_ret (v := .v (.bool true)) (σ1 := [.own ds6, .val (.tuple [.int r, .int p, .int s, .int q]), .own E, s3, .val (.int r), .val (.int p), .val (.int s), .val (.int q), .val (.tuple [.str w, x]), .val (.int b), s10, .no, .no]) (by simp -dsimp -implicitDefEqProofs []) ⟨_, rfl, ds6, rfl, h⟩
      · have t0 := z0 z
        have lw := lw t0
        have ft := fits t0
        obtain ⟨n, hn⟩ : ∃ n, (stand r p s q).num = n := ⟨_, rfl⟩
        obtain ⟨d, hd⟩ : ∃ d : Int, ((stand r p s q).den : Int) = d := ⟨_, rfl⟩
        have erd : rD (stand r p s q) = .tuple [.int n, .int d] := by unfold rD; rw [hn, hd]
        rw [hn, hd] at ft
        rw [erd] at lw tc selfS
        rw [etr] at lw tc ft t0
        have ng' : 0 - r * r * p - s * s * q = -stl r p s q := by rw [est]; omega
        by_cases f : absI n ≤ d
        · have tc' : q_turn_cosine.run [.tuple [.int r, .int p, .int s, .int q]] = .ok (.v (.tuple [.int n, .int d]), []) := by
            rw [tc, if_neg]
            rintro (w1 | w1)
            · exact t0 w1
            · have := ft.mp f
              omega
          refine rs_step (σ1 := [.own ds6, .val (.tuple [.int r, .int p, .int s, .int q]), .own E, s3, .val (.int r), .val (.int p), .val (.int s), .val (.int q), .val (.tuple [.str w, x]), .val (.int b), s10, .val (.tuple [.int n, .int d]), .no]) (by simp -dsimp -implicitDefEqProofs [callF, z, m1, m2, m3, m4, m5, ng, lw, tc', selfS, f]) ?_
          refine rs_ret (v := .v (.bool true)) (σ1 := [.own ds6, .val (.tuple [.int r, .int p, .int s, .int q]), .own E, s3, .val (.int r), .val (.int p), .val (.int s), .val (.int q), .val (.tuple [.str w, x]), .val (.int b), s10, .val (.tuple [.int n, .int d]), .no]) (by simp -dsimp -implicitDefEqProofs []) ⟨_, rfl, ds6, rfl, h⟩
        · have tc' : q_turn_cosine.run [.tuple [.int r, .int p, .int s, .int q]] = .ok (.v .none, []) := by
            rw [tc, if_pos]
            right
            have : ¬ absI (stl r p s q) ≤ absI (r * s * (p + q)) := fun w1 => f (ft.mpr w1)
            omega
          refine rs_step (σ1 := [.own ds6, .val (.tuple [.int r, .int p, .int s, .int q]), .own E, s3, .val (.int r), .val (.int p), .val (.int s), .val (.int q), .val (.tuple [.str w, x]), .val (.int b), s10, .val (.tuple [.int n, .int d]), .no]) (by simp -dsimp -implicitDefEqProofs [callF, z, m1, m2, m3, m4, m5, ng, lw, tc', selfN, f]) ?_
          refine rs_ret (v := .v (.bool true)) (σ1 := [.own ds6, .val (.tuple [.int r, .int p, .int s, .int q]), .own E, s3, .val (.int r), .val (.int p), .val (.int s), .val (.int q), .val (.tuple [.str w, x]), .val (.int b), s10, .val (.tuple [.int n, .int d]), .no]) (by simp -dsimp -implicitDefEqProofs []) ⟨_, rfl, ds6, rfl, h⟩)
  exact ⟨ds', eo, h'⟩
theorem l_word_run (ds : List D) : l_word.run ds = catRun (tbl []) [] 4 2 (some (1, "told")) sl_word hl_word bl_word_1 ds := rfl
theorem told_ok (d : D) : l_word.run [.tuple [.none, d]] = .ok (.v (.tuple [.str "told", d]), []) := by
  rw [l_word_run]
  exact catRun_told (σ3 := toldSt (some (1, "told")) sl_word d) (by simp -dsimp -implicitDefEqProofs [bl_word_1, sl_word, toldSt])
theorem told_NoWheelPair : l_word.run [.tuple [.str "NoWheelPair"]] = .ok (.v (.tuple [.int 0]), []) := by
  have e : evB (tbl []) [] bl_word_NoWheelPair (excSt 4 2) = .ok (.nx, [.no, .val (.tuple [.int 0]), .exc, .own [.bool true, .bool false]]) := by
    simp -dsimp -implicitDefEqProofs [bl_word_NoWheelPair, excSt, List.replicate, mtD, List.findIdx?_cons]
  have e2 : evS (tbl []) [] bl_word_1 (List.set ([.no, .val (.tuple [.int 0]), .exc, .own [.bool true, .bool false]] : Sts) 2 .no) = .ok (.rt (.v (.tuple [.int 0])), List.set ([.no, .val (.tuple [.int 0]), .exc, .own [.bool true, .bool false]] : Sts) 2 .no) := by
    simp -dsimp -implicitDefEqProofs [bl_word_1]
  have hn : ((List.set ([.no, .val (.tuple [.int 0]), .exc, .own [.bool true, .bool false]] : Sts) 2 .no).all Slot.nex) = true := by rfl
  rw [l_word_run]
  exact catRun_ex (Φ := tbl []) (Γ := []) (n := 4) (ie := 2) (tl := some (1, "told")) (σ1 := sl_word) (t1 := bl_word_1) (as := []) ⟨_, rfl, rfl⟩ e hn e2
theorem told_NoCosine : l_word.run [.tuple [.str "NoCosine"]] = .ok (.v (.tuple [.int 1]), []) := by
  have e : evB (tbl []) [] bl_word_NoCosine (excSt 4 2) = .ok (.nx, [.no, .val (.tuple [.int 1]), .exc, .own [.bool false, .bool true]]) := by
    simp -dsimp -implicitDefEqProofs [bl_word_NoCosine, excSt, List.replicate, mtD, List.findIdx?_cons]
  have e2 : evS (tbl []) [] bl_word_1 (List.set ([.no, .val (.tuple [.int 1]), .exc, .own [.bool false, .bool true]] : Sts) 2 .no) = .ok (.rt (.v (.tuple [.int 1])), List.set ([.no, .val (.tuple [.int 1]), .exc, .own [.bool false, .bool true]] : Sts) 2 .no) := by
    simp -dsimp -implicitDefEqProofs [bl_word_1]
  have hn : ((List.set ([.no, .val (.tuple [.int 1]), .exc, .own [.bool false, .bool true]] : Sts) 2 .no).all Slot.nex) = true := by rfl
  rw [l_word_run]
  exact catRun_ex (Φ := tbl []) (Γ := []) (n := 4) (ie := 2) (tl := some (1, "told")) (σ1 := sl_word) (t1 := bl_word_1) (as := []) ⟨_, rfl, rfl⟩ e hn e2
def noL : List D := [.none, .int 0, .tuple [], .tuple [.int 1, .int 1, .int 1], .list [.int 1, .int 1, .int 1, .int 1], .tuple [.int 0, .int 1, .int 1, .int 1], .tuple [.int 61, .int 1, .int 1, .int 1], .tuple [.int 1, .int 0, .int 1, .int 1], .tuple [.int 1, .int 41, .int 1, .int 1],
  .tuple [.int 1, .int 1, .int 0, .int 1], .tuple [.int 1, .int 1, .int 1, .int 41], .tuple [.int 1, .int 1, .int 1, .int (-41)], .tuple [.int 1, .int (-1), .int 1, .int 1], .tuple [.bool true, .int 1, .int 1, .int 1], .tuple [.int 1, .int 1, .int 1, .none], .str "1111", .dict [], .tuple [.int 1, .int 1, .int 1, .int 1, .int 1], deepD]
theorem p_no {d : D} (h : q_is_tuple.run [d, .int 4, .int 4] = .ok (.v (.bool false), [])) : q_check_pair.run [d] = .ex "NoWheelPair" [] := by
  simp -dsimp -implicitDefEqProofs [q_check_pair, bq_check_pair, mkFn_run, callF, h]
theorem t4 (a b c d : D) : q_is_tuple.run [.tuple [a, b, c, d], .int 4, .int 4] = .ok (.v (.bool true), []) := is_tuple_r [a, b, c, d] 4 4 (by simp) (by simp)
theorem p_four {r p s q : D} {b1 b2 b3 b4 : Bool} (w1 : q_is_within.run [r, .int 1, .int 60] = .ok (.v (.bool b1), [])) (w2 : q_is_within.run [s, .int 1, .int 60] = .ok (.v (.bool b2), [])) (w3 : q_is_within.run [p, .int 1, .int 40] = .ok (.v (.bool b3), [])) (w4 : q_is_within.run [q, .int (-40), .int 40] = .ok (.v (.bool b4), [])) (h : (b1 && b2 && b3 && b4) = false) :
    q_check_pair.run [.tuple [r, p, s, q]] = .ex "NoWheelPair" [] := by
  have t := t4 r p s q
  cases b1 <;> cases b2 <;> cases b3 <;> cases b4 <;> first | (cases h; done) | simp -dsimp -implicitDefEqProofs [q_check_pair, bq_check_pair, mkFn_run, callF, t, w1, w2, w3, w4]
theorem no_bad {d : D} (hd : d ∈ noL) : q_check_pair.run [d] = .ex "NoWheelPair" [] := by
  unfold noL at hd
  simp only [List.mem_cons, List.not_mem_nil, or_false] at hd
  rcases hd with rfl | rfl | rfl | rfl | rfl | rfl | rfl | rfl | rfl | rfl | rfl | rfl | rfl | rfl | rfl | rfl | rfl | rfl | rfl
  · exact p_no (is_tuple_n rfl rfl _ _)
  · exact p_no (is_tuple_n rfl rfl _ _)
  · exact p_no (is_tuple_d [] 4 4)
  · exact p_no (is_tuple_d [.int 1, .int 1, .int 1] 4 4)
  · exact p_no (is_tuple_n rfl rfl _ _)
  · exact p_four (is_within_i _ _ _) (is_within_i _ _ _) (is_within_i _ _ _) (is_within_i _ _ _) (by decide)
  · exact p_four (is_within_i _ _ _) (is_within_i _ _ _) (is_within_i _ _ _) (is_within_i _ _ _) (by decide)
  · exact p_four (is_within_i _ _ _) (is_within_i _ _ _) (is_within_i _ _ _) (is_within_i _ _ _) (by decide)
  · exact p_four (is_within_i _ _ _) (is_within_i _ _ _) (is_within_i _ _ _) (is_within_i _ _ _) (by decide)
  · exact p_four (is_within_i _ _ _) (is_within_i _ _ _) (is_within_i _ _ _) (is_within_i _ _ _) (by decide)
  · exact p_four (is_within_i _ _ _) (is_within_i _ _ _) (is_within_i _ _ _) (is_within_i _ _ _) (by decide)
  · exact p_four (is_within_i _ _ _) (is_within_i _ _ _) (is_within_i _ _ _) (is_within_i _ _ _) (by decide)
  · exact p_four (is_within_i _ _ _) (is_within_i _ _ _) (is_within_i _ _ _) (is_within_i _ _ _) (by decide)
  · exact p_four (is_within_d rfl rfl _ _) (is_within_i _ _ _) (is_within_i _ _ _) (is_within_i _ _ _) (by decide)
  · exact p_four (is_within_i _ _ _) (is_within_i _ _ _) (is_within_i _ _ _) (is_within_d rfl rfl _ _) (by decide)
  · exact p_no (is_tuple_n rfl rfl _ _)
  · exact p_no (is_tuple_n rfl rfl _ _)
  · exact p_no (is_tuple_d [.int 1, .int 1, .int 1, .int 1, .int 1] 4 4)
  · exact p_no (is_tuple_n rfl rfl _ _)
def cosL : List D := [.none, .int 0, .tuple [.int 2, .int 1], .tuple [.int (-3), .int 2], .tuple [.int 2, .int 4], .tuple [.int 1, .int 0], .list [.int 1, .int 2], .tuple [.bool true, .int 1], .str "12", .dict [], .tuple [.int 1], .tuple [.int 1, .int (-2)]]
theorem nc_24 : NoCos (.tuple [.int 2, .int 4]) := nc_i (by decide) (by decide) (fun z => by
  have e : (Rat.divInt 2 4).num = 1 := by decide +kernel
  have z1 := z.1
  unfold rD at z1
  rw [e] at z1
  injection z1 with z1
  injection z1 with z1
  injection z1 with z1
  omega)
theorem cos_bad {d : D} (hd : d ∈ cosL) : q_check_cosine.run [d] = .ex "NoCosine" [] := by
  have n : NoCos d := by
    unfold cosL at hd
    simp only [List.mem_cons, List.not_mem_nil, or_false] at hd
    rcases hd with rfl | rfl | rfl | rfl | rfl | rfl | rfl | rfl | rfl | rfl | rfl | rfl
    · exact nc_n rfl rfl
    · exact nc_n rfl rfl
    · exact nc_21
    · exact nc_i (by decide) (by decide) (by unfold absI; omega)
    · exact nc_24
    · exact nc_0 (by decide)
    · exact nc_n rfl rfl
    · exact nc_b _ _
    · exact nc_n rfl rfl
    · exact nc_n rfl rfl
    · exact nc_len [.int 1] (by decide)
    · exact nc_0 (by decide)
  have n1 := n.1
  simp -dsimp -implicitDefEqProofs [q_check_cosine, bq_check_cosine, mkFn_run, callF, n1]
theorem is_refused_r {ds : List D} (h : HandOk ds) : ∃ ds', l_is_refused.run [.list ds] = .ok (.v (.bool true), [ds']) ∧ HandOk ds' := by
  obtain ⟨no, ds1, e1, m1, h⟩ := some_ok' h (x := .none) (xs := noL.tail) (by decide)
  obtain ⟨c, ds2, e2, m2, h⟩ := some_ok' h (x := .none) (xs := cosL.tail) (by decide)
  have nb := no_bad m1
  have cb := cos_bad m2
  have p1 := check_pair_r (r := 3) (p := 1) (s := 2) (q := 5) ⟨by decide, by decide, by decide, by decide⟩
  unfold prD at p1
  have c1 : q_goes_back.run [no, c] = .ex "NoWheelPair" [] := by simp -dsimp -implicitDefEqProofs [q_goes_back, bq_goes_back, mkFn_run, callF, nb]
  have c2 : q_goes_back.run [.tuple [.int 3, .int 1, .int 2, .int 5], c] = .ex "NoCosine" [] := by simp -dsimp -implicitDefEqProofs [q_goes_back, bq_goes_back, mkFn_run, callF, p1, cb]
  have c3 : q_seen_square.run [no, c] = .ex "NoWheelPair" [] := by simp -dsimp -implicitDefEqProofs [q_seen_square, bq_seen_square, mkFn_run, callF, nb]
  have c4 : q_seen_square.run [.tuple [.int 3, .int 1, .int 2, .int 5], c] = .ex "NoCosine" [] := by simp -dsimp -implicitDefEqProofs [q_seen_square, bq_seen_square, mkFn_run, callF, p1, cb]
  have c5 : q_back_or_not.run [no] = .ex "NoWheelPair" [] := by simp -dsimp -implicitDefEqProofs [q_back_or_not, bq_back_or_not, mkFn_run, callF, nb]
  have c6 : q_turn_cosine.run [no] = .ex "NoWheelPair" [] := by simp -dsimp -implicitDefEqProofs [q_turn_cosine, bq_turn_cosine, mkFn_run, callF, nb]
  have c7 : q_is_back_or_not.run [no, .none] = .ex "NoWheelPair" [] := by simp -dsimp -implicitDefEqProofs [q_is_back_or_not, bq_is_back_or_not, mkFn_run, callF, nb]
  have wW := told_NoWheelPair
  have wC := told_NoCosine
  have dp := deep_r
  have k1 : List.lookup ("goes_back" : Str) [(("goes_back" : Str), 2), (("seen_square" : Str), 3)] = some 2 := by decide
  have k2 : List.lookup ("seen_square" : Str) [(("goes_back" : Str), 2), (("seen_square" : Str), 3)] = some 3 := by decide
  unfold noL at e1
  unfold cosL at e2
  dsimp only [List.tail] at e1 e2
  unfold deepD at *
  generalize deepI = DP at *
  clear m1 m2 nb cb p1
  have rp : binD .mul (.list [.tuple [.int 0], .tuple [.int 1]]) (.int 2) = .ok (.t [.tuple [.int 0], .tuple [.int 1], .tuple [.int 0], .tuple [.int 1]]) := by
    show (if RepOk 2 2 then Res.ok (R.t (List.replicate (2 : Int).toNat [PyData.tuple [.int 0], .tuple [.int 1]]).flatten) else .no) = _
    rw [if_pos ⟨by decide, by decide, by decide⟩]
    rfl
  have rp2 : binD .mul (.list [.tuple [.int 0]]) (.int 3) = .ok (.t [.tuple [.int 0], .tuple [.int 0], .tuple [.int 0]]) := by
    show (if RepOk 1 3 then Res.ok (R.t (List.replicate (3 : Int).toNat [PyData.tuple [.int 0]]).flatten) else .no) = _
    rw [if_pos ⟨by decide, by decide, by decide⟩]
    rfl
  obtain ⟨out, eo, ds', rfl, h'⟩ := fn_rets (Φ := tbl [l_deep, l_some, q_goes_back, q_seen_square, l_word, q_back_or_not, q_turn_cosine, q_is_back_or_not]) (Γ := [fnD "goes_back", fnD "seen_square"]) (io := [true]) (n := 5) (b := bl_is_refused) (as := [.list ds]) (Q := fun out => ∃ ds', out = (.v (.bool true), [ds']) ∧ HandOk ds') rfl (by
    unfold bl_is_refused
    refine rs_step (σ1 := [.own ds, .own [.none, .int 0, .tuple [], .tuple [.int 1, .int 1, .int 1], .list [.int 1, .int 1, .int 1, .int 1], .tuple [.int 0, .int 1, .int 1, .int 1], .tuple [.int 61, .int 1, .int 1, .int 1], .tuple [.int 1, .int 0, .int 1, .int 1], .tuple [.int 1, .int 41, .int 1, .int 1]], .no, .no, .no]) (by simp -dsimp -implicitDefEqProofs []) ?_
    refine rs_step (σ1 := [.own ds, .own [.none, .int 0, .tuple [], .tuple [.int 1, .int 1, .int 1], .list [.int 1, .int 1, .int 1, .int 1], .tuple [.int 0, .int 1, .int 1, .int 1], .tuple [.int 61, .int 1, .int 1, .int 1], .tuple [.int 1, .int 0, .int 1, .int 1], .tuple [.int 1, .int 41, .int 1, .int 1], .tuple [.int 1, .int 1, .int 0, .int 1], .tuple [.int 1, .int 1, .int 1, .int 41]], .no, .no, .no]) (by simp -dsimp -implicitDefEqProofs []) ?_
    refine rs_step (σ1 := [.own ds, .own [.none, .int 0, .tuple [], .tuple [.int 1, .int 1, .int 1], .list [.int 1, .int 1, .int 1, .int 1], .tuple [.int 0, .int 1, .int 1, .int 1], .tuple [.int 61, .int 1, .int 1, .int 1], .tuple [.int 1, .int 0, .int 1, .int 1], .tuple [.int 1, .int 41, .int 1, .int 1], .tuple [.int 1, .int 1, .int 0, .int 1], .tuple [.int 1, .int 1, .int 1, .int 41], .tuple [.int 1, .int 1, .int 1, .int (-41)], .tuple [.int 1, .int (-1), .int 1, .int 1], .tuple [.bool true, .int 1, .int 1, .int 1], .tuple [.int 1, .int 1, .int 1, .none], .str "1111", .dict [], .tuple [.int 1, .int 1, .int 1, .int 1, .int 1]], .no, .no, .no]) (by simp -dsimp -implicitDefEqProofs []) ?_
    refine rs_step (σ1 := [.own ds, .own [.none, .int 0, .tuple [], .tuple [.int 1, .int 1, .int 1], .list [.int 1, .int 1, .int 1, .int 1], .tuple [.int 0, .int 1, .int 1, .int 1], .tuple [.int 61, .int 1, .int 1, .int 1], .tuple [.int 1, .int 0, .int 1, .int 1], .tuple [.int 1, .int 41, .int 1, .int 1], .tuple [.int 1, .int 1, .int 0, .int 1], .tuple [.int 1, .int 1, .int 1, .int 41], .tuple [.int 1, .int 1, .int 1, .int (-41)], .tuple [.int 1, .int (-1), .int 1, .int 1], .tuple [.bool true, .int 1, .int 1, .int 1], .tuple [.int 1, .int 1, .int 1, .none], .str "1111", .dict [], .tuple [.int 1, .int 1, .int 1, .int 1, .int 1], .list [DP]], .no, .no, .no]) (by simp -dsimp -implicitDefEqProofs [callF, dp]) ?_
    refine rs_step (σ1 := [.own ds1, .val no, .no, .no, .no]) (by simp -dsimp -implicitDefEqProofs [callF, e1]) ?_
    refine rs_step (σ1 := [.own ds2, .val no, .val c, .no, .no]) (by simp -dsimp -implicitDefEqProofs [callF, e2]) ?_
    refine rs_step (σ1 := [.own ds2, .val no, .val c, .own [], .no]) (by simp -dsimp -implicitDefEqProofs [callF, wW]) ?_
    refine rs_step (σ1 := [.own ds2, .val no, .val c, .own [.tuple [.int 0], .tuple [.int 1], .tuple [.int 0], .tuple [.int 1]], .val (fnD "seen_square")]) (by simp -dsimp -implicitDefEqProofs [callF, evS_forr', forLoop, Fz.forTurn, caught, tellR, lamEnd, c1, c2, c3, c4, wW, wC, k1, k2]) ?_
    refine rs_step (σ1 := [.own ds2, .val no, .val c, .own [.tuple [.int 0], .tuple [.int 1], .tuple [.int 0], .tuple [.int 1], .tuple [.int 0]], .val (fnD "seen_square")]) (by simp -dsimp -implicitDefEqProofs [callF, caught, tellR, lamEnd, c5, wW]) ?_
    refine rs_step (σ1 := [.own ds2, .val no, .val c, .own [.tuple [.int 0], .tuple [.int 1], .tuple [.int 0], .tuple [.int 1], .tuple [.int 0], .tuple [.int 0]], .val (fnD "seen_square")]) (by simp -dsimp -implicitDefEqProofs [callF, caught, tellR, lamEnd, c6, wW]) ?_
    refine rs_step (σ1 := [.own ds2, .val no, .val c, .own [.tuple [.int 0], .tuple [.int 1], .tuple [.int 0], .tuple [.int 1], .tuple [.int 0], .tuple [.int 0], .tuple [.int 0]], .val (fnD "seen_square")]) (by simp -dsimp -implicitDefEqProofs [callF, caught, tellR, lamEnd, c7, wW]) ?_
    have g3 : eqD (.list [.tuple [.int 0], .tuple [.int 1], .tuple [.int 0], .tuple [.int 1], .tuple [.int 0], .tuple [.int 0], .tuple [.int 0]]) (.list [.tuple [.int 0], .tuple [.int 1], .tuple [.int 0], .tuple [.int 1], .tuple [.int 0], .tuple [.int 0], .tuple [.int 0]]) = .ok true := eqD_self' (by simp)
    refine rs_ret (v := .v (.bool true)) (σ1 := [.own ds2, .val no, .val c, .own [.tuple [.int 0], .tuple [.int 1], .tuple [.int 0], .tuple [.int 1], .tuple [.int 0], .tuple [.int 0], .tuple [.int 0]], .val (fnD "seen_square")]) (by simp -dsimp -implicitDefEqProofs [g3, rp, rp2]) ⟨_, rfl, ds2, rfl, h⟩)
  exact ⟨ds', eo, h'⟩
theorem run_law (ns : List Int) (hn : ns.length ≤ 63) : q_law.run [scrD ns] = .ok (.v (.bool true), []) := by
  obtain ⟨ds0, e0, h0⟩ := hand_ok ns
  have T1 := turn_cosine_r (r := 10) (p := 1) (s := 5) (q := 10) ⟨by decide, by decide, by decide, by decide⟩
  have T2 := turn_cosine_r (r := 10) (p := 1) (s := 1) (q := 1) ⟨by decide, by decide, by decide, by decide⟩
  rw [if_neg (by decide +kernel)] at T1
  rw [if_pos (by decide +kernel)] at T2
  have es : (stand 10 1 5 10).num = -7 ∧ ((stand 10 1 5 10).den : Int) = 11 := by decide +kernel
  unfold rD prD at T1
  unfold prD at T2
  rw [es.1, es.2] at T1
  obtain ⟨ds1, e, h1⟩ := turns_okF (Φ := tbl [l_hand, q_turn_cosine, l_is_right, l_is_refused]) (Γ := []) (t := 2) (c := .and (.call 2 (.cons (.var 1) .nil)) (.call 3 (.cons (.var 1) .nil))) (fun ds => [.val (scrD ns), .own ds, .no]) 6 (fun ds => by simp -dsimp -implicitDefEqProofs [rngOk]) (by decide) (fun ds => rfl) (fun a b => rfl) (fun ds d h => by
    obtain ⟨ds2, e, h2⟩ := is_right_r h
    obtain ⟨ds3, e3, h3⟩ := is_refused_r h2
    exact ⟨ds3, by simp -dsimp -implicitDefEqProofs [lcTurn, callF, e, e3], h3⟩) h0
  have g1 : eqD (.tuple [.int (-7), .int 11]) (.tuple [.int (-7), .int 11]) = .ok true := eqD_self' (by simp)
  obtain ⟨out, eo, rfl⟩ := fn_rets (Φ := tbl [l_hand, q_turn_cosine, l_is_right, l_is_refused]) (Γ := []) (io := [false]) (n := 3) (b := bq_law) (as := [scrD ns]) (Q := fun out => out = (.v (.bool true), [])) rfl (by
    unfold bq_law
    refine rs_step (by simp -dsimp -implicitDefEqProofs [callF, e0] <;> (first | rfl | ((repeat' apply And.intro) <;> rfl))) ?_
    refine rs_step (σ1 := [.val (scrD ns), .own ds0, .no]) (by simp -dsimp -implicitDefEqProofs [callF, T1, T2, g1]) ?_
    refine rs_ret (v := .v (.bool true)) (σ1 := [.val (scrD ns), .own ds1, .no]) (by simp -dsimp -implicitDefEqProofs [e]) ⟨_, rfl, rfl⟩)
  exact eo
end LawK45

/-! TAIL -/
namespace LawK45
open PySem PySem.Spec PyProof.Rows L2 Fz HeadK45
theorem sl_hand_ : FnScope [("script" : PySem.Str), ("cells" : PySem.Str), ("cell" : PySem.Str)] [("script" : PySem.Str)] (defScope (top 29)) := C8.fnScope_by (by decide +kernel)
def cl_hand : CC := { N := [("script" : PySem.Str), ("cells" : PySem.Str), ("cell" : PySem.Str)], sc := L2.defScope (top 29), blk := none, fns := [], cst := [], prot := [] }
theorem hl_hand_ : cB (cS 30 cl_hand) (defBody (top 29)) = some bl_hand := by kernel_rfl
theorem sq_is_tuple_ : FnScope [("thing" : PySem.Str), ("least" : PySem.Str), ("most" : PySem.Str)] [("thing" : PySem.Str), ("least" : PySem.Str), ("most" : PySem.Str)] (defScope (top 3)) := C8.fnScope_by (by decide +kernel)
def cq_is_tuple : CC := { N := [("thing" : PySem.Str), ("least" : PySem.Str), ("most" : PySem.Str)], sc := L2.defScope (top 3), blk := none, fns := [], cst := [], prot := [] }
theorem hq_is_tuple_ : cB (cS 30 cq_is_tuple) (defBody (top 3)) = some bq_is_tuple := by kernel_rfl
theorem sq_is_integer_ : FnScope [("thing" : PySem.Str)] [("thing" : PySem.Str)] (defScope (top 1)) := C8.fnScope_by (by decide +kernel)
def cq_is_integer : CC := { N := [("thing" : PySem.Str)], sc := L2.defScope (top 1), blk := none, fns := [], cst := [], prot := [] }
theorem hq_is_integer_ : cB (cS 30 cq_is_integer) (defBody (top 1)) = some bq_is_integer := by kernel_rfl
theorem sq_is_within_ : FnScope [("thing" : PySem.Str), ("low" : PySem.Str), ("high" : PySem.Str)] [("thing" : PySem.Str), ("low" : PySem.Str), ("high" : PySem.Str)] (defScope (top 2)) := C8.fnScope_by (by decide +kernel)
def cq_is_within : CC := { N := [("thing" : PySem.Str), ("low" : PySem.Str), ("high" : PySem.Str)], sc := L2.defScope (top 2), blk := none, fns := [(("is_integer" : PySem.Str), (0 : Nat))], cst := [], prot := [] }
theorem hq_is_within_ : cB (cS 30 cq_is_within) (defBody (top 2)) = some bq_is_within := by kernel_rfl
theorem sq_check_pair_ : FnScope [("pair" : PySem.Str), ("r" : PySem.Str), ("p" : PySem.Str), ("s" : PySem.Str), ("q" : PySem.Str)] [("pair" : PySem.Str)] (defScope (top 17)) := C8.fnScope_by (by decide +kernel)
def cq_check_pair : CC := { N := [("pair" : PySem.Str), ("r" : PySem.Str), ("p" : PySem.Str), ("s" : PySem.Str), ("q" : PySem.Str)], sc := L2.defScope (top 17), blk := none, fns := [(("is_tuple" : PySem.Str), (0 : Nat)), (("is_within" : PySem.Str), (1 : Nat))], cst := [(("MOST_RADIUS" : PySem.Str), (0 : Nat)), (("MOST_TURNS" : PySem.Str), (1 : Nat))], prot := [], exs := [("NoWheelPair" : PySem.Str)] }
theorem hq_check_pair_ : cB (cS 30 cq_check_pair) (defBody (top 17)) = some bq_check_pair := by kernel_rfl
theorem sq_parts_of_ : FnScope [("pair" : PySem.Str), ("r" : PySem.Str), ("p" : PySem.Str), ("s" : PySem.Str), ("q" : PySem.Str)] [("pair" : PySem.Str)] (defScope (top 20)) := C8.fnScope_by (by decide +kernel)
def cq_parts_of : CC := { N := [("pair" : PySem.Str), ("r" : PySem.Str), ("p" : PySem.Str), ("s" : PySem.Str), ("q" : PySem.Str)], sc := L2.defScope (top 20), blk := none, fns := [], cst := [], prot := [] }
theorem hq_parts_of_ : cB (cS 30 cq_parts_of) (defBody (top 20)) = some bq_parts_of := by kernel_rfl
theorem sq_divisor_ : FnScope [("one" : PySem.Str), ("other" : PySem.Str)] [("one" : PySem.Str), ("other" : PySem.Str)] (defScope (top 9)) := C8.fnScope_by (by decide +kernel)
def cq_divisor : CC := { N := [("one" : PySem.Str), ("other" : PySem.Str)], sc := L2.defScope (top 9), blk := none, fns := [], cst := [], prot := [] }
theorem hq_divisor_ : cB (cS 30 cq_divisor) (defBody (top 9)) = some bq_divisor := by kernel_rfl
theorem sq_reduced_ : FnScope [("top" : PySem.Str), ("bottom" : PySem.Str), ("low" : PySem.Str), ("sign" : PySem.Str)] [("top" : PySem.Str), ("bottom" : PySem.Str)] (defScope (top 10)) := C8.fnScope_by (by decide +kernel)
def cq_reduced : CC := { N := [("top" : PySem.Str), ("bottom" : PySem.Str), ("low" : PySem.Str), ("sign" : PySem.Str)], sc := L2.defScope (top 10), blk := none, fns := [(("divisor" : PySem.Str), (0 : Nat))], cst := [], prot := [] }
theorem hq_reduced_ : cB (cS 30 cq_reduced) (defBody (top 10)) = some bq_reduced := by kernel_rfl
theorem sq_turn_cosine_ : FnScope [("pair" : PySem.Str), ("still" : PySem.Str), ("turned" : PySem.Str)] [("pair" : PySem.Str)] (defScope (top 26)) := C8.fnScope_by (by decide +kernel)
def cq_turn_cosine : CC := { N := [("pair" : PySem.Str), ("still" : PySem.Str), ("turned" : PySem.Str)], sc := L2.defScope (top 26), blk := none, fns := [(("check_pair" : PySem.Str), (0 : Nat)), (("parts_of" : PySem.Str), (1 : Nat)), (("reduced" : PySem.Str), (2 : Nat))], cst := [], prot := [] }
theorem hq_turn_cosine_ : cB (cS 30 cq_turn_cosine) (defBody (top 26)) = some bq_turn_cosine := by kernel_rfl
theorem sl_draw_ : FnScope [("hand" : PySem.Str), ("limit" : PySem.Str), ("number" : PySem.Str), ("cell" : PySem.Str), ("digit" : PySem.Str)] [("hand" : PySem.Str), ("limit" : PySem.Str)] (defScope (top 30)) := C8.fnScope_by (by decide +kernel)
def cl_draw : CC := { N := [("hand" : PySem.Str), ("limit" : PySem.Str), ("number" : PySem.Str), ("cell" : PySem.Str), ("digit" : PySem.Str)], sc := L2.defScope (top 30), blk := none, fns := [], cst := [], prot := [0] }
theorem hl_draw_ : cB (cS 30 cl_draw) (defBody (top 30)) = some bl_draw := by kernel_rfl
theorem sl_some_ : FnScope [("hand" : PySem.Str), ("items" : PySem.Str)] [("hand" : PySem.Str), ("items" : PySem.Str)] (defScope (top 31)) := C8.fnScope_by (by decide +kernel)
def cl_some : CC := { N := [("hand" : PySem.Str), ("items" : PySem.Str)], sc := L2.defScope (top 31), blk := none, fns := [(("_law_draw" : PySem.Str), (0 : Nat))], cst := [], prot := [0] }
theorem hl_some_ : cB (cS 30 cl_some) (defBody (top 31)) = some bl_some := by kernel_rfl
theorem sl_wheel_pair_ : FnScope [("hand" : PySem.Str), ("most" : PySem.Str), ("turns" : PySem.Str), ("first" : PySem.Str)] [("hand" : PySem.Str)] (defScope (top 38)) := C8.fnScope_by (by decide +kernel)
def cl_wheel_pair : CC := { N := [("hand" : PySem.Str), ("most" : PySem.Str), ("turns" : PySem.Str), ("first" : PySem.Str)], sc := L2.defScope (top 38), blk := none, fns := [(("_law_some" : PySem.Str), (0 : Nat)), (("_law_draw" : PySem.Str), (1 : Nat))], cst := [], prot := [0] }
theorem hl_wheel_pair_ : cB (cS 30 cl_wheel_pair) (defBody (top 38)) = some bl_wheel_pair := by kernel_rfl
theorem sq_bound_of_ : FnScope [("pair" : PySem.Str), ("still" : PySem.Str), ("turned" : PySem.Str)] [("pair" : PySem.Str)] (defScope (top 23)) := C8.fnScope_by (by decide +kernel)
def cq_bound_of : CC := { N := [("pair" : PySem.Str), ("still" : PySem.Str), ("turned" : PySem.Str)], sc := L2.defScope (top 23), blk := none, fns := [(("parts_of" : PySem.Str), (0 : Nat))], cst := [], prot := [] }
theorem hq_bound_of_ : cB (cS 30 cq_bound_of) (defBody (top 23)) = some bq_bound_of := by kernel_rfl
theorem sq_back_or_not_ : FnScope [("pair" : PySem.Str)] [("pair" : PySem.Str)] (defScope (top 24)) := C8.fnScope_by (by decide +kernel)
def cq_back_or_not : CC := { N := [("pair" : PySem.Str)], sc := L2.defScope (top 24), blk := none, fns := [(("check_pair" : PySem.Str), (0 : Nat)), (("bound_of" : PySem.Str), (1 : Nat)), (("parts_of" : PySem.Str), (2 : Nat))], cst := [], prot := [] }
theorem hq_back_or_not_ : cB (cS 30 cq_back_or_not) (defBody (top 24)) = some bq_back_or_not := by kernel_rfl
theorem sl_bound_ : FnScope [("pair" : PySem.Str), ("r" : PySem.Str), ("p" : PySem.Str), ("s" : PySem.Str), ("q" : PySem.Str)] [("pair" : PySem.Str)] (defScope (top 41)) := C8.fnScope_by (by decide +kernel)
def cl_bound : CC := { N := [("pair" : PySem.Str), ("r" : PySem.Str), ("p" : PySem.Str), ("s" : PySem.Str), ("q" : PySem.Str)], sc := L2.defScope (top 41), blk := none, fns := [], cst := [], prot := [] }
theorem hl_bound_ : cB (cS 30 cl_bound) (defBody (top 41)) = some bl_bound := by kernel_rfl
theorem sl_low_ : FnScope [("top" : PySem.Str), ("bottom" : PySem.Str), ("one" : PySem.Str), ("other" : PySem.Str)] [("top" : PySem.Str), ("bottom" : PySem.Str)] (defScope (top 35)) := C8.fnScope_by (by decide +kernel)
def cl_low : CC := { N := [("top" : PySem.Str), ("bottom" : PySem.Str), ("one" : PySem.Str), ("other" : PySem.Str)], sc := L2.defScope (top 35), blk := none, fns := [], cst := [], prot := [] }
theorem hl_low_ : cB (cS 30 cl_low) (defBody (top 35)) = some bl_low := by kernel_rfl
theorem sl_cosine_ : FnScope [("hand" : PySem.Str), ("bottom" : PySem.Str)] [("hand" : PySem.Str)] (defScope (top 39)) := C8.fnScope_by (by decide +kernel)
def cl_cosine : CC := { N := [("hand" : PySem.Str), ("bottom" : PySem.Str)], sc := L2.defScope (top 39), blk := none, fns := [(("_law_draw" : PySem.Str), (0 : Nat)), (("_law_low" : PySem.Str), (1 : Nat))], cst := [], prot := [0] }
theorem hl_cosine_ : cB (cS 30 cl_cosine) (defBody (top 39)) = some bl_cosine := by kernel_rfl
theorem sl_deep_ : FnScope [("turns" : PySem.Str), ("thing" : PySem.Str), ("turn" : PySem.Str)] [("turns" : PySem.Str)] (defScope (top 33)) := C8.fnScope_by (by decide +kernel)
def cl_deep : CC := { N := [("turns" : PySem.Str), ("thing" : PySem.Str), ("turn" : PySem.Str)], sc := L2.defScope (top 33), blk := none, fns := [], cst := [], prot := [] }
theorem hl_deep_ : cB (cS 30 cl_deep) (defBody (top 33)) = some bl_deep := by kernel_rfl
theorem sl_is_ : FnScope [("thing" : PySem.Str), ("due" : PySem.Str), ("one" : PySem.Str), ("its" : PySem.Str)] [("thing" : PySem.Str), ("due" : PySem.Str)] (defScope (top 32)) := C8.fnScope_by (by decide +kernel)
def cl_is_1 : CC := { N := [("thing" : PySem.Str), ("due" : PySem.Str), ("one" : PySem.Str), ("its" : PySem.Str)], sc := L2.defScope (top 32), blk := none, fns := [(("_law_is" : PySem.Str), (0 : Nat))], cst := [], prot := [] }
theorem hl_is_1_ : cB (cS 30 cl_is_1) (defBody (top 32)) = some bl_is := by kernel_rfl
def cl_is_2 : CC := { N := [("thing" : PySem.Str), ("due" : PySem.Str), ("one" : PySem.Str), ("its" : PySem.Str)], sc := L2.defScope (top 32), blk := none, fns := [(("_law_is" : PySem.Str), (0 : Nat))], cst := [], prot := [] }
theorem hl_is_2_ : cB (cS 30 cl_is_2) (defBody (top 32)) = some bl_is := by kernel_rfl
def cl_is_3 : CC := { N := [("thing" : PySem.Str), ("due" : PySem.Str), ("one" : PySem.Str), ("its" : PySem.Str)], sc := L2.defScope (top 32), blk := none, fns := [(("_law_is" : PySem.Str), (0 : Nat))], cst := [], prot := [] }
theorem hl_is_3_ : cB (cS 30 cl_is_3) (defBody (top 32)) = some bl_is := by kernel_rfl
def cl_is_4 : CC := { N := [("thing" : PySem.Str), ("due" : PySem.Str), ("one" : PySem.Str), ("its" : PySem.Str)], sc := L2.defScope (top 32), blk := none, fns := [(("_law_is" : PySem.Str), (0 : Nat))], cst := [], prot := [] }
theorem hl_is_4_ : cB (cS 30 cl_is_4) (defBody (top 32)) = some bl_is := by kernel_rfl
theorem sq_is_fraction_ : FnScope [("thing" : PySem.Str), ("one" : PySem.Str)] [("thing" : PySem.Str)] (defScope (top 13)) := C8.fnScope_by (by decide +kernel)
def cq_is_fraction : CC := { N := [("thing" : PySem.Str), ("one" : PySem.Str)], sc := L2.defScope (top 13), blk := none, fns := [(("is_tuple" : PySem.Str), (0 : Nat)), (("reduced" : PySem.Str), (1 : Nat))], cst := [], prot := [] }
theorem hq_is_fraction_ : cB (cS 30 cq_is_fraction) (defBody (top 13)) = some bq_is_fraction := by kernel_rfl
theorem sq_is_cosine_ : FnScope [("thing" : PySem.Str)] [("thing" : PySem.Str)] (defScope (top 18)) := C8.fnScope_by (by decide +kernel)
def cq_is_cosine : CC := { N := [("thing" : PySem.Str)], sc := L2.defScope (top 18), blk := none, fns := [(("is_fraction" : PySem.Str), (0 : Nat))], cst := [], prot := [] }
theorem hq_is_cosine_ : cB (cS 30 cq_is_cosine) (defBody (top 18)) = some bq_is_cosine := by kernel_rfl
theorem sq_added_ : FnScope [("one" : PySem.Str), ("other" : PySem.Str)] [("one" : PySem.Str), ("other" : PySem.Str)] (defScope (top 11)) := C8.fnScope_by (by decide +kernel)
def cq_added : CC := { N := [("one" : PySem.Str), ("other" : PySem.Str)], sc := L2.defScope (top 11), blk := none, fns := [(("reduced" : PySem.Str), (0 : Nat))], cst := [], prot := [] }
theorem hq_added_ : cB (cS 30 cq_added) (defBody (top 11)) = some bq_added := by kernel_rfl
theorem sq_times_ : FnScope [("one" : PySem.Str), ("other" : PySem.Str)] [("one" : PySem.Str), ("other" : PySem.Str)] (defScope (top 12)) := C8.fnScope_by (by decide +kernel)
def cq_times : CC := { N := [("one" : PySem.Str), ("other" : PySem.Str)], sc := L2.defScope (top 12), blk := none, fns := [(("reduced" : PySem.Str), (0 : Nat))], cst := [], prot := [] }
theorem hq_times_ : cB (cS 30 cq_times) (defBody (top 12)) = some bq_times := by kernel_rfl
theorem sq_is_back_ : FnScope [("pair" : PySem.Str), ("c" : PySem.Str), ("still" : PySem.Str), ("turned" : PySem.Str)] [("pair" : PySem.Str), ("c" : PySem.Str)] (defScope (top 21)) := C8.fnScope_by (by decide +kernel)
def cq_is_back : CC := { N := [("pair" : PySem.Str), ("c" : PySem.Str), ("still" : PySem.Str), ("turned" : PySem.Str)], sc := L2.defScope (top 21), blk := none, fns := [(("parts_of" : PySem.Str), (0 : Nat)), (("added" : PySem.Str), (1 : Nat)), (("times" : PySem.Str), (2 : Nat))], cst := [], prot := [] }
theorem hq_is_back_ : cB (cS 30 cq_is_back) (defBody (top 21)) = some bq_is_back := by kernel_rfl
theorem sq_is_back_or_not_ : FnScope [("pair" : PySem.Str), ("thing" : PySem.Str)] [("pair" : PySem.Str), ("thing" : PySem.Str)] (defScope (top 25)) := C8.fnScope_by (by decide +kernel)
def cq_is_back_or_not : CC := { N := [("pair" : PySem.Str), ("thing" : PySem.Str)], sc := L2.defScope (top 25), blk := none, fns := [(("check_pair" : PySem.Str), (0 : Nat)), (("is_tuple" : PySem.Str), (1 : Nat)), (("is_cosine" : PySem.Str), (2 : Nat)), (("is_back" : PySem.Str), (3 : Nat)), (("is_integer" : PySem.Str), (4 : Nat)), (("bound_of" : PySem.Str), (5 : Nat))], cst := [], prot := [] }
theorem hq_is_back_or_not_ : cB (cS 30 cq_is_back_or_not) (defBody (top 25)) = some bq_is_back_or_not := by kernel_rfl
theorem sl_is_cosine_ : FnScope [("thing" : PySem.Str), ("one" : PySem.Str)] [("thing" : PySem.Str)] (defScope (top 43)) := C8.fnScope_by (by decide +kernel)
def cl_is_cosine : CC := { N := [("thing" : PySem.Str), ("one" : PySem.Str)], sc := L2.defScope (top 43), blk := none, fns := [(("_law_low" : PySem.Str), (0 : Nat))], cst := [], prot := [] }
theorem hl_is_cosine_ : cB (cS 30 cl_is_cosine) (defBody (top 43)) = some bl_is_cosine := by kernel_rfl
theorem sl_plus_ : FnScope [("one" : PySem.Str), ("other" : PySem.Str)] [("one" : PySem.Str), ("other" : PySem.Str)] (defScope (top 36)) := C8.fnScope_by (by decide +kernel)
def cl_plus : CC := { N := [("one" : PySem.Str), ("other" : PySem.Str)], sc := L2.defScope (top 36), blk := none, fns := [(("_law_low" : PySem.Str), (0 : Nat))], cst := [], prot := [] }
theorem hl_plus_ : cB (cS 30 cl_plus) (defBody (top 36)) = some bl_plus := by kernel_rfl
theorem sl_times_ : FnScope [("one" : PySem.Str), ("other" : PySem.Str)] [("one" : PySem.Str), ("other" : PySem.Str)] (defScope (top 37)) := C8.fnScope_by (by decide +kernel)
def cl_times : CC := { N := [("one" : PySem.Str), ("other" : PySem.Str)], sc := L2.defScope (top 37), blk := none, fns := [(("_law_low" : PySem.Str), (0 : Nat))], cst := [], prot := [] }
theorem hl_times_ : cB (cS 30 cl_times) (defBody (top 37)) = some bl_times := by kernel_rfl
theorem sl_speed_ : FnScope [("pair" : PySem.Str), ("c" : PySem.Str), ("r" : PySem.Str), ("p" : PySem.Str), ("s" : PySem.Str), ("q" : PySem.Str)] [("pair" : PySem.Str), ("c" : PySem.Str)] (defScope (top 40)) := C8.fnScope_by (by decide +kernel)
def cl_speed : CC := { N := [("pair" : PySem.Str), ("c" : PySem.Str), ("r" : PySem.Str), ("p" : PySem.Str), ("s" : PySem.Str), ("q" : PySem.Str)], sc := L2.defScope (top 40), blk := none, fns := [(("_law_plus" : PySem.Str), (0 : Nat)), (("_law_times" : PySem.Str), (1 : Nat))], cst := [], prot := [] }
theorem hl_speed_ : cB (cS 30 cl_speed) (defBody (top 40)) = some bl_speed := by kernel_rfl
theorem sl_judged_ : FnScope [("pair" : PySem.Str), ("thing" : PySem.Str)] [("pair" : PySem.Str), ("thing" : PySem.Str)] (defScope (top 44)) := C8.fnScope_by (by decide +kernel)
def cl_judged : CC := { N := [("pair" : PySem.Str), ("thing" : PySem.Str)], sc := L2.defScope (top 44), blk := none, fns := [(("_law_is_cosine" : PySem.Str), (0 : Nat)), (("_law_speed" : PySem.Str), (1 : Nat)), (("_law_bound" : PySem.Str), (2 : Nat))], cst := [], prot := [] }
theorem hl_judged_ : cB (cS 30 cl_judged) (defBody (top 44)) = some bl_judged := by kernel_rfl
theorem sl_is_right_ : FnScope [("hand" : PySem.Str), ("pair" : PySem.Str), ("things" : PySem.Str), ("thing" : PySem.Str), ("r" : PySem.Str), ("p" : PySem.Str), ("s" : PySem.Str), ("q" : PySem.Str), ("told" : PySem.Str), ("bound" : PySem.Str), ("kept" : PySem.Str), ("c" : PySem.Str), ("turn" : PySem.Str)] [("hand" : PySem.Str)] (defScope (top 45)) := C8.fnScope_by (by decide +kernel)
def cl_is_right : CC := { N := [("hand" : PySem.Str), ("pair" : PySem.Str), ("things" : PySem.Str), ("thing" : PySem.Str), ("r" : PySem.Str), ("p" : PySem.Str), ("s" : PySem.Str), ("q" : PySem.Str), ("told" : PySem.Str), ("bound" : PySem.Str), ("kept" : PySem.Str), ("c" : PySem.Str), ("turn" : PySem.Str)], sc := L2.defScope (top 45), blk := none, fns := [(("_law_wheel_pair" : PySem.Str), (0 : Nat)), (("back_or_not" : PySem.Str), (1 : Nat)), (("_law_bound" : PySem.Str), (2 : Nat)), (("_law_cosine" : PySem.Str), (3 : Nat)), (("_law_deep" : PySem.Str), (4 : Nat)), (("_law_is" : PySem.Str), (5 : Nat)), (("is_back_or_not" : PySem.Str), (6 : Nat)), (("_law_judged" : PySem.Str), (7 : Nat)), (("_law_low" : PySem.Str), (8 : Nat)), (("turn_cosine" : PySem.Str), (9 : Nat))], cst := [], prot := [0], g := true }
theorem hl_is_right_ : cB (cS 30 cl_is_right) (defBody (top 45)) = some bl_is_right := by kernel_rfl
theorem sq_check_cosine_ : FnScope [("c" : PySem.Str)] [("c" : PySem.Str)] (defScope (top 19)) := C8.fnScope_by (by decide +kernel)
def cq_check_cosine : CC := { N := [("c" : PySem.Str)], sc := L2.defScope (top 19), blk := none, fns := [(("is_cosine" : PySem.Str), (0 : Nat))], cst := [], prot := [], exs := [("NoCosine" : PySem.Str)] }
theorem hq_check_cosine_ : cB (cS 30 cq_check_cosine) (defBody (top 19)) = some bq_check_cosine := by kernel_rfl
theorem sq_goes_back_ : FnScope [("pair" : PySem.Str), ("c" : PySem.Str)] [("pair" : PySem.Str), ("c" : PySem.Str)] (defScope (top 22)) := C8.fnScope_by (by decide +kernel)
def cq_goes_back : CC := { N := [("pair" : PySem.Str), ("c" : PySem.Str)], sc := L2.defScope (top 22), blk := none, fns := [(("check_pair" : PySem.Str), (0 : Nat)), (("check_cosine" : PySem.Str), (1 : Nat)), (("is_back" : PySem.Str), (2 : Nat))], cst := [], prot := [] }
theorem hq_goes_back_ : cB (cS 30 cq_goes_back) (defBody (top 22)) = some bq_goes_back := by kernel_rfl
theorem sq_seen_square_ : FnScope [("pair" : PySem.Str), ("c" : PySem.Str), ("r" : PySem.Str), ("p" : PySem.Str), ("s" : PySem.Str), ("q" : PySem.Str)] [("pair" : PySem.Str), ("c" : PySem.Str)] (defScope (top 27)) := C8.fnScope_by (by decide +kernel)
def cq_seen_square : CC := { N := [("pair" : PySem.Str), ("c" : PySem.Str), ("r" : PySem.Str), ("p" : PySem.Str), ("s" : PySem.Str), ("q" : PySem.Str)], sc := L2.defScope (top 27), blk := none, fns := [(("check_pair" : PySem.Str), (0 : Nat)), (("check_cosine" : PySem.Str), (1 : Nat)), (("added" : PySem.Str), (2 : Nat)), (("times" : PySem.Str), (3 : Nat))], cst := [], prot := [] }
theorem hq_seen_square_ : cB (cS 30 cq_seen_square) (defBody (top 27)) = some bq_seen_square := by kernel_rfl
theorem sl_word_ : FnScope [("call" : PySem.Str), ("found" : PySem.Str), ("error" : PySem.Str), ("flags" : PySem.Str)] [("call" : PySem.Str)] (defScope (top 34)) := C8.fnScope_by (by decide +kernel)
def zl_word : CatSh := (catShape (defBody (top 34))).getD ⟨.Pass ⟨0,0,0,0⟩, .Pass ⟨0,0,0,0⟩, .Pass ⟨0,0,0,0⟩, "", ⟨0,0,0,0⟩, ⟨0,0,0,0⟩, none, "", ⟨0,0,0,0⟩, "", .Pass ⟨0,0,0,0⟩, [], ⟨0,0,0,0⟩, ⟨0,0,0,0⟩⟩
theorem zzl_word : catShape (defBody (top 34)) = some zl_word := by kernel_rfl
theorem hc0l_word : cS 30 (catC [("call" : PySem.Str), ("found" : PySem.Str), ("error" : PySem.Str), ("flags" : PySem.Str)] (defScope (top 34))) zl_word.s0 = some bl_word_0 := by kernel_rfl
theorem hc1l_word : cS 30 (catC [("call" : PySem.Str), ("found" : PySem.Str), ("error" : PySem.Str), ("flags" : PySem.Str)] (defScope (top 34))) zl_word.s1 = some bl_word_1 := by kernel_rfl
theorem hcl_word_NoWheelPair : cB (cS 30 (hotC [("call" : PySem.Str), ("found" : PySem.Str), ("error" : PySem.Str), ("flags" : PySem.Str)] (defScope (top 34)) ⟨"error", [("ValueError", true), ("NoWheelPair", true), ("NoCosine", false)], [], [("_law_flags", [true, false])], none⟩)) (zl_word.b0 :: zl_word.suite) = some bl_word_NoWheelPair := by kernel_rfl
theorem hcl_word_NoCosine : cB (cS 30 (hotC [("call" : PySem.Str), ("found" : PySem.Str), ("error" : PySem.Str), ("flags" : PySem.Str)] (defScope (top 34)) ⟨"error", [("ValueError", true), ("NoWheelPair", false), ("NoCosine", true)], [], [("_law_flags", [false, true])], none⟩)) (zl_word.b0 :: zl_word.suite) = some bl_word_NoCosine := by kernel_rfl
theorem hcsl_word : ∀ q ∈ hl_word, cB (cS 30 (hotC [("call" : PySem.Str), ("found" : PySem.Str), ("error" : PySem.Str), ("flags" : PySem.Str)] (defScope (top 34)) q.2.1)) (zl_word.b0 :: zl_word.suite) = some q.2.2 := by
  intro q hq
  simp only [hl_word, List.mem_cons, List.mem_nil_iff, or_false] at hq
  rcases hq with rfl | rfl
  · exact hcl_word_NoWheelPair
  · exact hcl_word_NoCosine
theorem he0l_word : evS (tbl []) [] bl_word_0 (List.replicate 4 .no) = .ok (.nx, sl_word) := by
  simp -dsimp -implicitDefEqProofs [bl_word_0, sl_word, List.replicate] <;> rfl
theorem sl_is_refused_ : FnScope [("hand" : PySem.Str), ("none" : PySem.Str), ("c" : PySem.Str), ("words" : PySem.Str), ("ask" : PySem.Str)] [("hand" : PySem.Str)] (defScope (top 46)) := C8.fnScope_by (by decide +kernel)
def cl_is_refused : CC := { N := [("hand" : PySem.Str), ("none" : PySem.Str), ("c" : PySem.Str), ("words" : PySem.Str), ("ask" : PySem.Str)], sc := L2.defScope (top 46), blk := none, fns := [(("_law_deep" : PySem.Str), (0 : Nat)), (("_law_some" : PySem.Str), (1 : Nat))], cst := [(("goes_back" : PySem.Str), (0 : Nat)), (("seen_square" : PySem.Str), (1 : Nat))], prot := [0], cats := [(("_law_word" : PySem.Str), (4 : Nat))], lfns := [(("back_or_not" : PySem.Str), (5 : Nat)), (("turn_cosine" : PySem.Str), (6 : Nat)), (("is_back_or_not" : PySem.Str), (7 : Nat)), (("goes_back" : PySem.Str), (2 : Nat)), (("seen_square" : PySem.Str), (3 : Nat))], lk := 6, fvs := [("goes_back" : PySem.Str), ("seen_square" : PySem.Str)] }
theorem hl_is_refused_ : cB (cS 30 cl_is_refused) (defBody (top 46)) = some bl_is_refused := by kernel_rfl
theorem sq_law_ : FnScope [("script" : PySem.Str), ("hand" : PySem.Str), ("turn" : PySem.Str)] [("script" : PySem.Str)] (defScope (top 47)) := C8.fnScope_by (by decide +kernel)
def cq_law : CC := { N := [("script" : PySem.Str), ("hand" : PySem.Str), ("turn" : PySem.Str)], sc := L2.defScope (top 47), blk := none, fns := [(("_law_hand" : PySem.Str), (0 : Nat)), (("turn_cosine" : PySem.Str), (1 : Nat)), (("_law_is_right" : PySem.Str), (2 : Nat)), (("_law_is_refused" : PySem.Str), (3 : Nat))], cst := [], prot := [], g := true }
theorem hq_law_ : cB (cS 30 cq_law) (defBody (top 47)) = some bq_law := by kernel_rfl
theorem sl_flags_ : FnScope [("error" : PySem.Str)] [("error" : PySem.Str)] (defScope (top 42)) := C8.fnScope_by (by decide +kernel)
theorem hhl_flags_NoWheelPair : cB (cS 30 (hotC [("error" : PySem.Str)] (defScope (top 42)) ⟨"error", [("ValueError", true), ("NoWheelPair", true), ("NoCosine", false)], [], [], none⟩)) (defBody (top 42)) = some bl_word_l_flags_NoWheelPair := by kernel_rfl
theorem hel_flags_NoWheelPair : evB (tbl []) [] bl_word_l_flags_NoWheelPair (excSt 1 0) = .ok (.rt (.t (([true, false] : List Bool).map .bool)), [.exc]) := by
  simp -dsimp -implicitDefEqProofs [bl_word_l_flags_NoWheelPair, excSt, List.replicate] <;> rfl
theorem hhl_flags_NoCosine : cB (cS 30 (hotC [("error" : PySem.Str)] (defScope (top 42)) ⟨"error", [("ValueError", true), ("NoWheelPair", false), ("NoCosine", true)], [], [], none⟩)) (defBody (top 42)) = some bl_word_l_flags_NoCosine := by kernel_rfl
theorem hel_flags_NoCosine : evB (tbl []) [] bl_word_l_flags_NoCosine (excSt 1 0) = .ok (.rt (.t (([false, true] : List Bool).map .bool)), [.exc]) := by
  simp -dsimp -implicitDefEqProofs [bl_word_l_flags_NoCosine, excSt, List.replicate] <;> rfl
theorem facts {P : Program} {w : World} {K : PySem.W.Frag} {h : Heap} {mg : Str → Option Value} {f : Addr} (hfile : ((P.main.file : Str) == mo.file) = true) (htop : (P.main.scope.names.lookup ("super" : Str)).isSome = false) (X : K.In h) (G : h.Ns mainGlobals mg) (hfa : mg ("law" : Str) = some (.ref f)) (c : He.SaysD fa fn K) (mk : MoreOk mo tf K) (ctb : He.SaysT fa fn (tabsOf mo.ds) w K) :
    ∃ fd : FuncData, (∀ (s : Shared) (v : Value), BindsTo s fd ⟨[v], []⟩ [(("script" : PySem.Str), v)]) ∧ ∀ base : Heap, K.In base → base.Ns mainGlobals mg → (∀ p ∈ tbs K tf, LamX.TabB base mg p.1 p.2) → FnG true P w K mg base 16 f fd [("script" : PySem.Str)] (spF (tau K tf) K q_law) := by
  have bi : ∀ x ∈ biNames, mg x = none := bi_free X G (by
    intro x hx
    simp only [biNames, List.mem_cons, List.mem_nil_iff, or_false] at hx
    rcases hx with rfl | rfl | rfl | rfl | rfl | rfl | rfl | rfl | rfl | rfl | rfl | rfl | rfl | rfl | rfl | rfl | rfl | rfl | rfl | rfl
    · exact c.fact 38 (f := .free "len") rfl
    · exact c.fact 39 (f := .free "int") rfl
    · exact c.fact 40 (f := .free "abs") rfl
    · exact c.fact 41 (f := .free "tuple") rfl
    · exact c.fact 42 (f := .free "list") rfl
    · exact c.fact 43 (f := .free "all") rfl
    · exact c.fact 44 (f := .free "any") rfl
    · exact c.fact 45 (f := .free "sum") rfl
    · exact c.fact 46 (f := .free "sorted") rfl
    · exact c.fact 47 (f := .free "min") rfl
    · exact c.fact 48 (f := .free "max") rfl
    · exact c.fact 49 (f := .free "isinstance") rfl
    · exact c.fact 50 (f := .free "bool") rfl
    · exact c.fact 51 (f := .free "str") rfl
    · exact c.fact 52 (f := .free "dict") rfl
    · exact c.fact 53 (f := .free "range") rfl
    · exact c.fact 54 (f := .free "zip") rfl
    · exact c.fact 55 (f := .free "enumerate") rfl
    · exact c.fact 56 (f := .free "set") rfl
    · exact c.fact 57 (f := .free "repr") rfl)
  have m_sky_SkyError := He.glo_ok X G (c.fact 58 (f := .glo "SkyError") rfl)
  obtain ⟨d_l_hand, F_l_hand⟩ := c.def_ 0 (d := mkD "_law_hand" 29) rfl
  have m_l_hand := He.glo_ok X G (c.fact 0 (f := .glo "_law_hand") rfl)
  have b_l_hand : Binds K d_l_hand [("script" : PySem.Str)] [] := F_l_hand.bindsN fun _ _ _ _ _ _ us hl => match us, hl with | [_], _ => rfl
  obtain ⟨d_q_is_tuple, F_q_is_tuple⟩ := c.def_ 1 (d := mkD "is_tuple" 3) rfl
  have m_q_is_tuple := He.glo_ok X G (c.fact 1 (f := .glo "is_tuple") rfl)
  have b_q_is_tuple : Binds K d_q_is_tuple [("thing" : PySem.Str), ("least" : PySem.Str), ("most" : PySem.Str)] [] := F_q_is_tuple.bindsN fun _ _ _ _ _ _ us hl => match us, hl with | [_, _, _], _ => rfl
  obtain ⟨d_q_is_integer, F_q_is_integer⟩ := c.def_ 2 (d := mkD "is_integer" 1) rfl
  have m_q_is_integer := He.glo_ok X G (c.fact 2 (f := .glo "is_integer") rfl)
  have b_q_is_integer : Binds K d_q_is_integer [("thing" : PySem.Str)] [] := F_q_is_integer.bindsN fun _ _ _ _ _ _ us hl => match us, hl with | [_], _ => rfl
  obtain ⟨d_q_is_within, F_q_is_within⟩ := c.def_ 3 (d := mkD "is_within" 2) rfl
  have m_q_is_within := He.glo_ok X G (c.fact 3 (f := .glo "is_within") rfl)
  have b_q_is_within : Binds K d_q_is_within [("thing" : PySem.Str), ("low" : PySem.Str), ("high" : PySem.Str)] [] := F_q_is_within.bindsN fun _ _ _ _ _ _ us hl => match us, hl with | [_, _, _], _ => rfl
  obtain ⟨d_q_check_pair, F_q_check_pair⟩ := c.def_ 4 (d := mkD "check_pair" 17) rfl
  have m_q_check_pair := He.glo_ok X G (c.fact 4 (f := .glo "check_pair") rfl)
  have b_q_check_pair : Binds K d_q_check_pair [("pair" : PySem.Str)] [] := F_q_check_pair.bindsN fun _ _ _ _ _ _ us hl => match us, hl with | [_], _ => rfl
  obtain ⟨d_q_parts_of, F_q_parts_of⟩ := c.def_ 5 (d := mkD "parts_of" 20) rfl
  have m_q_parts_of := He.glo_ok X G (c.fact 5 (f := .glo "parts_of") rfl)
  have b_q_parts_of : Binds K d_q_parts_of [("pair" : PySem.Str)] [] := F_q_parts_of.bindsN fun _ _ _ _ _ _ us hl => match us, hl with | [_], _ => rfl
  obtain ⟨d_q_divisor, F_q_divisor⟩ := c.def_ 6 (d := mkD "divisor" 9) rfl
  have m_q_divisor := He.glo_ok X G (c.fact 6 (f := .glo "divisor") rfl)
  have b_q_divisor : Binds K d_q_divisor [("one" : PySem.Str), ("other" : PySem.Str)] [] := F_q_divisor.bindsN fun _ _ _ _ _ _ us hl => match us, hl with | [_, _], _ => rfl
  obtain ⟨d_q_reduced, F_q_reduced⟩ := c.def_ 7 (d := mkD "reduced" 10) rfl
  have m_q_reduced := He.glo_ok X G (c.fact 7 (f := .glo "reduced") rfl)
  have b_q_reduced : Binds K d_q_reduced [("top" : PySem.Str), ("bottom" : PySem.Str)] [] := F_q_reduced.bindsN fun _ _ _ _ _ _ us hl => match us, hl with | [_, _], _ => rfl
  obtain ⟨d_q_turn_cosine, F_q_turn_cosine⟩ := c.def_ 8 (d := mkD "turn_cosine" 26) rfl
  have m_q_turn_cosine := He.glo_ok X G (c.fact 8 (f := .glo "turn_cosine") rfl)
  have b_q_turn_cosine : Binds K d_q_turn_cosine [("pair" : PySem.Str)] [] := F_q_turn_cosine.bindsN fun _ _ _ _ _ _ us hl => match us, hl with | [_], _ => rfl
  obtain ⟨d_l_draw, F_l_draw⟩ := c.def_ 9 (d := mkD "_law_draw" 30) rfl
  have m_l_draw := He.glo_ok X G (c.fact 9 (f := .glo "_law_draw") rfl)
  have b_l_draw : Binds K d_l_draw [("hand" : PySem.Str), ("limit" : PySem.Str)] [] := F_l_draw.bindsN fun _ _ _ _ _ _ us hl => match us, hl with | [_, _], _ => rfl
  obtain ⟨d_l_some, F_l_some⟩ := c.def_ 10 (d := mkD "_law_some" 31) rfl
  have m_l_some := He.glo_ok X G (c.fact 10 (f := .glo "_law_some") rfl)
  have b_l_some : Binds K d_l_some [("hand" : PySem.Str), ("items" : PySem.Str)] [] := F_l_some.bindsN fun _ _ _ _ _ _ us hl => match us, hl with | [_, _], _ => rfl
  obtain ⟨d_l_wheel_pair, F_l_wheel_pair⟩ := c.def_ 11 (d := mkD "_law_wheel_pair" 38) rfl
  have m_l_wheel_pair := He.glo_ok X G (c.fact 11 (f := .glo "_law_wheel_pair") rfl)
  have b_l_wheel_pair : Binds K d_l_wheel_pair [("hand" : PySem.Str)] [] := F_l_wheel_pair.bindsN fun _ _ _ _ _ _ us hl => match us, hl with | [_], _ => rfl
  obtain ⟨d_q_bound_of, F_q_bound_of⟩ := c.def_ 12 (d := mkD "bound_of" 23) rfl
  have m_q_bound_of := He.glo_ok X G (c.fact 12 (f := .glo "bound_of") rfl)
  have b_q_bound_of : Binds K d_q_bound_of [("pair" : PySem.Str)] [] := F_q_bound_of.bindsN fun _ _ _ _ _ _ us hl => match us, hl with | [_], _ => rfl
  obtain ⟨d_q_back_or_not, F_q_back_or_not⟩ := c.def_ 13 (d := mkD "back_or_not" 24) rfl
  have m_q_back_or_not := He.glo_ok X G (c.fact 13 (f := .glo "back_or_not") rfl)
  have b_q_back_or_not : Binds K d_q_back_or_not [("pair" : PySem.Str)] [] := F_q_back_or_not.bindsN fun _ _ _ _ _ _ us hl => match us, hl with | [_], _ => rfl
  obtain ⟨d_l_bound, F_l_bound⟩ := c.def_ 14 (d := mkD "_law_bound" 41) rfl
  have m_l_bound := He.glo_ok X G (c.fact 14 (f := .glo "_law_bound") rfl)
  have b_l_bound : Binds K d_l_bound [("pair" : PySem.Str)] [] := F_l_bound.bindsN fun _ _ _ _ _ _ us hl => match us, hl with | [_], _ => rfl
  obtain ⟨d_l_low, F_l_low⟩ := c.def_ 15 (d := mkD "_law_low" 35) rfl
  have m_l_low := He.glo_ok X G (c.fact 15 (f := .glo "_law_low") rfl)
  have b_l_low : Binds K d_l_low [("top" : PySem.Str), ("bottom" : PySem.Str)] [] := F_l_low.bindsN fun _ _ _ _ _ _ us hl => match us, hl with | [_, _], _ => rfl
  obtain ⟨d_l_cosine, F_l_cosine⟩ := c.def_ 16 (d := mkD "_law_cosine" 39) rfl
  have m_l_cosine := He.glo_ok X G (c.fact 16 (f := .glo "_law_cosine") rfl)
  have b_l_cosine : Binds K d_l_cosine [("hand" : PySem.Str)] [] := F_l_cosine.bindsN fun _ _ _ _ _ _ us hl => match us, hl with | [_], _ => rfl
  obtain ⟨d_l_deep, F_l_deep⟩ := c.def_ 17 (d := mkD "_law_deep" 33) rfl
  have m_l_deep := He.glo_ok X G (c.fact 17 (f := .glo "_law_deep") rfl)
  have b_l_deep : Binds K d_l_deep [("turns" : PySem.Str)] [] := F_l_deep.bindsN fun _ _ _ _ _ _ us hl => match us, hl with | [_], _ => rfl
  obtain ⟨d_l_is, F_l_is⟩ := c.def_ 18 (d := mkD "_law_is" 32) rfl
  have m_l_is := He.glo_ok X G (c.fact 18 (f := .glo "_law_is") rfl)
  have b_l_is : Binds K d_l_is [("thing" : PySem.Str), ("due" : PySem.Str)] [] := F_l_is.bindsN fun _ _ _ _ _ _ us hl => match us, hl with | [_, _], _ => rfl
  obtain ⟨d_q_is_fraction, F_q_is_fraction⟩ := c.def_ 19 (d := mkD "is_fraction" 13) rfl
  have m_q_is_fraction := He.glo_ok X G (c.fact 19 (f := .glo "is_fraction") rfl)
  have b_q_is_fraction : Binds K d_q_is_fraction [("thing" : PySem.Str)] [] := F_q_is_fraction.bindsN fun _ _ _ _ _ _ us hl => match us, hl with | [_], _ => rfl
  obtain ⟨d_q_is_cosine, F_q_is_cosine⟩ := c.def_ 20 (d := mkD "is_cosine" 18) rfl
  have m_q_is_cosine := He.glo_ok X G (c.fact 20 (f := .glo "is_cosine") rfl)
  have b_q_is_cosine : Binds K d_q_is_cosine [("thing" : PySem.Str)] [] := F_q_is_cosine.bindsN fun _ _ _ _ _ _ us hl => match us, hl with | [_], _ => rfl
  obtain ⟨d_q_added, F_q_added⟩ := c.def_ 21 (d := mkD "added" 11) rfl
  have m_q_added := He.glo_ok X G (c.fact 21 (f := .glo "added") rfl)
  have b_q_added : Binds K d_q_added [("one" : PySem.Str), ("other" : PySem.Str)] [] := F_q_added.bindsN fun _ _ _ _ _ _ us hl => match us, hl with | [_, _], _ => rfl
  obtain ⟨d_q_times, F_q_times⟩ := c.def_ 22 (d := mkD "times" 12) rfl
  have m_q_times := He.glo_ok X G (c.fact 22 (f := .glo "times") rfl)
  have b_q_times : Binds K d_q_times [("one" : PySem.Str), ("other" : PySem.Str)] [] := F_q_times.bindsN fun _ _ _ _ _ _ us hl => match us, hl with | [_, _], _ => rfl
  obtain ⟨d_q_is_back, F_q_is_back⟩ := c.def_ 23 (d := mkD "is_back" 21) rfl
  have m_q_is_back := He.glo_ok X G (c.fact 23 (f := .glo "is_back") rfl)
  have b_q_is_back : Binds K d_q_is_back [("pair" : PySem.Str), ("c" : PySem.Str)] [] := F_q_is_back.bindsN fun _ _ _ _ _ _ us hl => match us, hl with | [_, _], _ => rfl
  obtain ⟨d_q_is_back_or_not, F_q_is_back_or_not⟩ := c.def_ 24 (d := mkD "is_back_or_not" 25) rfl
  have m_q_is_back_or_not := He.glo_ok X G (c.fact 24 (f := .glo "is_back_or_not") rfl)
  have b_q_is_back_or_not : Binds K d_q_is_back_or_not [("pair" : PySem.Str), ("thing" : PySem.Str)] [] := F_q_is_back_or_not.bindsN fun _ _ _ _ _ _ us hl => match us, hl with | [_, _], _ => rfl
  obtain ⟨d_l_is_cosine, F_l_is_cosine⟩ := c.def_ 25 (d := mkD "_law_is_cosine" 43) rfl
  have m_l_is_cosine := He.glo_ok X G (c.fact 25 (f := .glo "_law_is_cosine") rfl)
  have b_l_is_cosine : Binds K d_l_is_cosine [("thing" : PySem.Str)] [] := F_l_is_cosine.bindsN fun _ _ _ _ _ _ us hl => match us, hl with | [_], _ => rfl
  obtain ⟨d_l_plus, F_l_plus⟩ := c.def_ 26 (d := mkD "_law_plus" 36) rfl
  have m_l_plus := He.glo_ok X G (c.fact 26 (f := .glo "_law_plus") rfl)
  have b_l_plus : Binds K d_l_plus [("one" : PySem.Str), ("other" : PySem.Str)] [] := F_l_plus.bindsN fun _ _ _ _ _ _ us hl => match us, hl with | [_, _], _ => rfl
  obtain ⟨d_l_times, F_l_times⟩ := c.def_ 27 (d := mkD "_law_times" 37) rfl
  have m_l_times := He.glo_ok X G (c.fact 27 (f := .glo "_law_times") rfl)
  have b_l_times : Binds K d_l_times [("one" : PySem.Str), ("other" : PySem.Str)] [] := F_l_times.bindsN fun _ _ _ _ _ _ us hl => match us, hl with | [_, _], _ => rfl
  obtain ⟨d_l_speed, F_l_speed⟩ := c.def_ 28 (d := mkD "_law_speed" 40) rfl
  have m_l_speed := He.glo_ok X G (c.fact 28 (f := .glo "_law_speed") rfl)
  have b_l_speed : Binds K d_l_speed [("pair" : PySem.Str), ("c" : PySem.Str)] [] := F_l_speed.bindsN fun _ _ _ _ _ _ us hl => match us, hl with | [_, _], _ => rfl
  obtain ⟨d_l_judged, F_l_judged⟩ := c.def_ 29 (d := mkD "_law_judged" 44) rfl
  have m_l_judged := He.glo_ok X G (c.fact 29 (f := .glo "_law_judged") rfl)
  have b_l_judged : Binds K d_l_judged [("pair" : PySem.Str), ("thing" : PySem.Str)] [] := F_l_judged.bindsN fun _ _ _ _ _ _ us hl => match us, hl with | [_, _], _ => rfl
  obtain ⟨d_l_is_right, F_l_is_right⟩ := c.def_ 30 (d := mkD "_law_is_right" 45) rfl
  have m_l_is_right := He.glo_ok X G (c.fact 30 (f := .glo "_law_is_right") rfl)
  have b_l_is_right : Binds K d_l_is_right [("hand" : PySem.Str)] [] := F_l_is_right.bindsN fun _ _ _ _ _ _ us hl => match us, hl with | [_], _ => rfl
  obtain ⟨d_q_check_cosine, F_q_check_cosine⟩ := c.def_ 31 (d := mkD "check_cosine" 19) rfl
  have m_q_check_cosine := He.glo_ok X G (c.fact 31 (f := .glo "check_cosine") rfl)
  have b_q_check_cosine : Binds K d_q_check_cosine [("c" : PySem.Str)] [] := F_q_check_cosine.bindsN fun _ _ _ _ _ _ us hl => match us, hl with | [_], _ => rfl
  obtain ⟨d_q_goes_back, F_q_goes_back⟩ := c.def_ 32 (d := mkD "goes_back" 22) rfl
  have m_q_goes_back := He.glo_ok X G (c.fact 32 (f := .glo "goes_back") rfl)
  have b_q_goes_back : Binds K d_q_goes_back [("pair" : PySem.Str), ("c" : PySem.Str)] [] := F_q_goes_back.bindsN fun _ _ _ _ _ _ us hl => match us, hl with | [_, _], _ => rfl
  obtain ⟨d_q_seen_square, F_q_seen_square⟩ := c.def_ 33 (d := mkD "seen_square" 27) rfl
  have m_q_seen_square := He.glo_ok X G (c.fact 33 (f := .glo "seen_square") rfl)
  have b_q_seen_square : Binds K d_q_seen_square [("pair" : PySem.Str), ("c" : PySem.Str)] [] := F_q_seen_square.bindsN fun _ _ _ _ _ _ us hl => match us, hl with | [_, _], _ => rfl
  obtain ⟨d_l_word, F_l_word⟩ := c.def_ 34 (d := mkD "_law_word" 34) rfl
  have m_l_word := He.glo_ok X G (c.fact 34 (f := .glo "_law_word") rfl)
  have b_l_word : Binds K d_l_word [("call" : PySem.Str)] [] := F_l_word.bindsN fun _ _ _ _ _ _ us hl => match us, hl with | [_], _ => rfl
  obtain ⟨d_l_is_refused, F_l_is_refused⟩ := c.def_ 35 (d := mkD "_law_is_refused" 46) rfl
  have m_l_is_refused := He.glo_ok X G (c.fact 35 (f := .glo "_law_is_refused") rfl)
  have b_l_is_refused : Binds K d_l_is_refused [("hand" : PySem.Str)] [] := F_l_is_refused.bindsN fun _ _ _ _ _ _ us hl => match us, hl with | [_], _ => rfl
  obtain ⟨d_q_law, F_q_law⟩ := c.def_ 36 (d := mkD "law" 47) rfl
  have m_q_law := He.glo_ok X G (c.fact 36 (f := .glo "law") rfl)
  have e := hfa.symm.trans m_q_law
  cases e
  have b := FunD.bindsA (ps := [("script" : PySem.Str)]) F_q_law fun _ _ _ _ _ _ us hl => match us, hl with | [_], _ => rfl
  refine ⟨d_q_law, fun s v => b s [v] rfl, fun base _ _ TB => ?_⟩
  obtain ⟨d_l_flags, F_l_flags⟩ := c.def_ 37 (d := mkD "_law_flags" 42) rfl
  have m_l_flags := He.glo_ok X G (c.fact 37 (f := .glo "_law_flags") rfl)
  have b_l_flags : Binds K d_l_flags [("error" : PySem.Str)] [] := F_l_flags.bindsN fun _ _ _ _ _ _ us hl => match us, hl with | [_], _ => rfl
  have x_NoWheelPair : ExK P w K mg base "NoWheelPair" := exK_of X G (mk.exs "NoWheelPair" (by decide +kernel)) hfile htop (by decide +kernel)
  have x_NoCosine : ExK P w K mg base "NoCosine" := exK_of X G (mk.exs "NoCosine" (by decide +kernel)) hfile htop (by decide +kernel)
  have k_l_hand : FnG false P w K mg base 1 (He.fAd K ("_law_hand", none)) d_l_hand [("script" : PySem.Str)] (spF (tau K tf) K l_hand) := fn_sem (Φ := tbl []) (Γ := []) (N := [("script" : PySem.Str), ("cells" : PySem.Str), ("cell" : PySem.Str)]) (inout := [false]) (t := bl_hand) (C := cl_hand) (k := 0) 30 F_l_hand sl_hand_ rfl rfl rfl rfl rfl hl_hand_ lk_nil lk_nil bi (fun x hx => by cases hx) (fun h => absurd rfl h) (fun x hx => by cases hx) (fun h => absurd rfl h) lk_nil (fun h => absurd rfl h) lk_nil
  have k_q_is_tuple : FnG false P w K mg base 1 (He.fAd K ("is_tuple", none)) d_q_is_tuple [("thing" : PySem.Str), ("least" : PySem.Str), ("most" : PySem.Str)] (spF (tau K tf) K q_is_tuple) := fn_sem (Φ := tbl []) (Γ := []) (N := [("thing" : PySem.Str), ("least" : PySem.Str), ("most" : PySem.Str)]) (inout := [false, false, false]) (t := bq_is_tuple) (C := cq_is_tuple) (k := 0) 30 F_q_is_tuple sq_is_tuple_ rfl rfl rfl rfl rfl hq_is_tuple_ lk_nil lk_nil bi (fun x hx => by cases hx) (fun h => absurd rfl h) (fun x hx => by cases hx) (fun h => absurd rfl h) lk_nil (fun h => absurd rfl h) lk_nil
  have k_q_is_integer : FnG false P w K mg base 1 (He.fAd K ("is_integer", none)) d_q_is_integer [("thing" : PySem.Str)] (spF (tau K tf) K q_is_integer) := fn_sem (Φ := tbl []) (Γ := []) (N := [("thing" : PySem.Str)]) (inout := [false]) (t := bq_is_integer) (C := cq_is_integer) (k := 0) 30 F_q_is_integer sq_is_integer_ rfl rfl rfl rfl rfl hq_is_integer_ lk_nil lk_nil bi (fun x hx => by cases hx) (fun h => absurd rfl h) (fun x hx => by cases hx) (fun h => absurd rfl h) lk_nil (fun h => absurd rfl h) lk_nil
  have k_q_is_within : FnG false P w K mg base 2 (He.fAd K ("is_within", none)) d_q_is_within [("thing" : PySem.Str), ("low" : PySem.Str), ("high" : PySem.Str)] (spF (tau K tf) K q_is_within) := fn_sem (Φ := tbl [q_is_integer]) (Γ := []) (N := [("thing" : PySem.Str), ("low" : PySem.Str), ("high" : PySem.Str)]) (inout := [false, false, false]) (t := bq_is_within) (C := cq_is_within) (k := 1) 30 F_q_is_within sq_is_within_ rfl rfl rfl rfl rfl hq_is_within_ (lk_cons (fn_at (g := false) (F := q_is_integer) m_q_is_integer F_q_is_integer.kp b_q_is_integer k_q_is_integer rfl (by decide) (by decide) rfl) lk_nil) lk_nil bi (fun x hx => by cases hx) (fun h => absurd rfl h) (fun x hx => by cases hx) (fun h => absurd rfl h) lk_nil (fun h => absurd rfl h) lk_nil
  have k_q_check_pair : FnG false P w K mg base 3 (He.fAd K ("check_pair", none)) d_q_check_pair [("pair" : PySem.Str)] (spF (tau K tf) K q_check_pair) := fn_sem (Φ := tbl [q_is_tuple, q_is_within]) (Γ := [(.int (60)), (.int (40))]) (N := [("pair" : PySem.Str), ("r" : PySem.Str), ("p" : PySem.Str), ("s" : PySem.Str), ("q" : PySem.Str)]) (inout := [false]) (t := bq_check_pair) (C := cq_check_pair) (k := 2) 30 F_q_check_pair sq_check_pair_ rfl rfl rfl rfl rfl hq_check_pair_ (lk_cons (fn_at (g := false) (F := q_is_tuple) m_q_is_tuple F_q_is_tuple.kp b_q_is_tuple k_q_is_tuple rfl (by decide) (by decide) rfl) (lk_cons (fn_at (g := false) (F := q_is_within) m_q_is_within F_q_is_within.kp b_q_is_within k_q_is_within rfl (by decide) (by decide) rfl) lk_nil)) (lk_cons (int_at X G (c.fact 59 (f := .int "MOST_RADIUS" (60)) rfl) rfl) (lk_cons (int_at X G (c.fact 60 (f := .int "MOST_TURNS" (40)) rfl) rfl) lk_nil)) bi (by
    intro x hx
    simp only [cq_check_pair, List.mem_cons, List.mem_nil_iff, or_false] at hx
    rcases hx with rfl
    · exact x_NoWheelPair) (fun _ => by decide) (fun x hx => by cases hx) (fun h => absurd rfl h) lk_nil (fun h => absurd rfl h) lk_nil
  have k_q_parts_of : FnG false P w K mg base 1 (He.fAd K ("parts_of", none)) d_q_parts_of [("pair" : PySem.Str)] (spF (tau K tf) K q_parts_of) := fn_sem (Φ := tbl []) (Γ := []) (N := [("pair" : PySem.Str), ("r" : PySem.Str), ("p" : PySem.Str), ("s" : PySem.Str), ("q" : PySem.Str)]) (inout := [false]) (t := bq_parts_of) (C := cq_parts_of) (k := 0) 30 F_q_parts_of sq_parts_of_ rfl rfl rfl rfl rfl hq_parts_of_ lk_nil lk_nil bi (fun x hx => by cases hx) (fun h => absurd rfl h) (fun x hx => by cases hx) (fun h => absurd rfl h) lk_nil (fun h => absurd rfl h) lk_nil
  have k_q_divisor : FnG false P w K mg base 1 (He.fAd K ("divisor", none)) d_q_divisor [("one" : PySem.Str), ("other" : PySem.Str)] (spF (tau K tf) K q_divisor) := fn_sem (Φ := tbl []) (Γ := []) (N := [("one" : PySem.Str), ("other" : PySem.Str)]) (inout := [false, false]) (t := bq_divisor) (C := cq_divisor) (k := 0) 30 F_q_divisor sq_divisor_ rfl rfl rfl rfl rfl hq_divisor_ lk_nil lk_nil bi (fun x hx => by cases hx) (fun h => absurd rfl h) (fun x hx => by cases hx) (fun h => absurd rfl h) lk_nil (fun h => absurd rfl h) lk_nil
  have k_q_reduced : FnG false P w K mg base 2 (He.fAd K ("reduced", none)) d_q_reduced [("top" : PySem.Str), ("bottom" : PySem.Str)] (spF (tau K tf) K q_reduced) := fn_sem (Φ := tbl [q_divisor]) (Γ := []) (N := [("top" : PySem.Str), ("bottom" : PySem.Str), ("low" : PySem.Str), ("sign" : PySem.Str)]) (inout := [false, false]) (t := bq_reduced) (C := cq_reduced) (k := 1) 30 F_q_reduced sq_reduced_ rfl rfl rfl rfl rfl hq_reduced_ (lk_cons (fn_at (g := false) (F := q_divisor) m_q_divisor F_q_divisor.kp b_q_divisor k_q_divisor rfl (by decide) (by decide) rfl) lk_nil) lk_nil bi (fun x hx => by cases hx) (fun h => absurd rfl h) (fun x hx => by cases hx) (fun h => absurd rfl h) lk_nil (fun h => absurd rfl h) lk_nil
  have k_q_turn_cosine : FnG false P w K mg base 4 (He.fAd K ("turn_cosine", none)) d_q_turn_cosine [("pair" : PySem.Str)] (spF (tau K tf) K q_turn_cosine) := fn_sem (Φ := tbl [q_check_pair, q_parts_of, q_reduced]) (Γ := []) (N := [("pair" : PySem.Str), ("still" : PySem.Str), ("turned" : PySem.Str)]) (inout := [false]) (t := bq_turn_cosine) (C := cq_turn_cosine) (k := 3) 30 F_q_turn_cosine sq_turn_cosine_ rfl rfl rfl rfl rfl hq_turn_cosine_ (lk_cons (fn_at (g := false) (F := q_check_pair) m_q_check_pair F_q_check_pair.kp b_q_check_pair k_q_check_pair rfl (by decide) (by decide) rfl) (lk_cons (fn_at (g := false) (F := q_parts_of) m_q_parts_of F_q_parts_of.kp b_q_parts_of k_q_parts_of rfl (by decide) (by decide) rfl) (lk_cons (fn_at (g := false) (F := q_reduced) m_q_reduced F_q_reduced.kp b_q_reduced k_q_reduced rfl (by decide) (by decide) rfl) lk_nil))) lk_nil bi (fun x hx => by cases hx) (fun h => absurd rfl h) (fun x hx => by cases hx) (fun h => absurd rfl h) lk_nil (fun h => absurd rfl h) lk_nil
  have k_l_draw : FnG false P w K mg base 1 (He.fAd K ("_law_draw", none)) d_l_draw [("hand" : PySem.Str), ("limit" : PySem.Str)] (spF (tau K tf) K l_draw) := fn_sem (Φ := tbl []) (Γ := []) (N := [("hand" : PySem.Str), ("limit" : PySem.Str), ("number" : PySem.Str), ("cell" : PySem.Str), ("digit" : PySem.Str)]) (inout := [true, false]) (t := bl_draw) (C := cl_draw) (k := 0) 30 F_l_draw sl_draw_ rfl rfl rfl rfl rfl hl_draw_ lk_nil lk_nil bi (fun x hx => by cases hx) (fun h => absurd rfl h) (fun x hx => by cases hx) (fun h => absurd rfl h) lk_nil (fun h => absurd rfl h) lk_nil
  have k_l_some : FnG false P w K mg base 2 (He.fAd K ("_law_some", none)) d_l_some [("hand" : PySem.Str), ("items" : PySem.Str)] (spF (tau K tf) K l_some) := fn_sem (Φ := tbl [l_draw]) (Γ := []) (N := [("hand" : PySem.Str), ("items" : PySem.Str)]) (inout := [true, false]) (t := bl_some) (C := cl_some) (k := 1) 30 F_l_some sl_some_ rfl rfl rfl rfl rfl hl_some_ (lk_cons (fn_at (g := false) (F := l_draw) m_l_draw F_l_draw.kp b_l_draw k_l_draw rfl (by decide) (by decide) rfl) lk_nil) lk_nil bi (fun x hx => by cases hx) (fun h => absurd rfl h) (fun x hx => by cases hx) (fun h => absurd rfl h) lk_nil (fun h => absurd rfl h) lk_nil
  have k_l_wheel_pair : FnG false P w K mg base 3 (He.fAd K ("_law_wheel_pair", none)) d_l_wheel_pair [("hand" : PySem.Str)] (spF (tau K tf) K l_wheel_pair) := fn_sem (Φ := tbl [l_some, l_draw]) (Γ := []) (N := [("hand" : PySem.Str), ("most" : PySem.Str), ("turns" : PySem.Str), ("first" : PySem.Str)]) (inout := [true]) (t := bl_wheel_pair) (C := cl_wheel_pair) (k := 2) 30 F_l_wheel_pair sl_wheel_pair_ rfl rfl rfl rfl rfl hl_wheel_pair_ (lk_cons (fn_at (g := false) (F := l_some) m_l_some F_l_some.kp b_l_some k_l_some rfl (by decide) (by decide) rfl) (lk_cons (fn_at (g := false) (F := l_draw) m_l_draw F_l_draw.kp b_l_draw k_l_draw rfl (by decide) (by decide) rfl) lk_nil)) lk_nil bi (fun x hx => by cases hx) (fun h => absurd rfl h) (fun x hx => by cases hx) (fun h => absurd rfl h) lk_nil (fun h => absurd rfl h) lk_nil
  have k_q_bound_of : FnG false P w K mg base 2 (He.fAd K ("bound_of", none)) d_q_bound_of [("pair" : PySem.Str)] (spF (tau K tf) K q_bound_of) := fn_sem (Φ := tbl [q_parts_of]) (Γ := []) (N := [("pair" : PySem.Str), ("still" : PySem.Str), ("turned" : PySem.Str)]) (inout := [false]) (t := bq_bound_of) (C := cq_bound_of) (k := 1) 30 F_q_bound_of sq_bound_of_ rfl rfl rfl rfl rfl hq_bound_of_ (lk_cons (fn_at (g := false) (F := q_parts_of) m_q_parts_of F_q_parts_of.kp b_q_parts_of k_q_parts_of rfl (by decide) (by decide) rfl) lk_nil) lk_nil bi (fun x hx => by cases hx) (fun h => absurd rfl h) (fun x hx => by cases hx) (fun h => absurd rfl h) lk_nil (fun h => absurd rfl h) lk_nil
  have k_q_back_or_not : FnG false P w K mg base 4 (He.fAd K ("back_or_not", none)) d_q_back_or_not [("pair" : PySem.Str)] (spF (tau K tf) K q_back_or_not) := fn_sem (Φ := tbl [q_check_pair, q_bound_of, q_parts_of]) (Γ := []) (N := [("pair" : PySem.Str)]) (inout := [false]) (t := bq_back_or_not) (C := cq_back_or_not) (k := 3) 30 F_q_back_or_not sq_back_or_not_ rfl rfl rfl rfl rfl hq_back_or_not_ (lk_cons (fn_at (g := false) (F := q_check_pair) m_q_check_pair F_q_check_pair.kp b_q_check_pair k_q_check_pair rfl (by decide) (by decide) rfl) (lk_cons (fn_at (g := false) (F := q_bound_of) m_q_bound_of F_q_bound_of.kp b_q_bound_of k_q_bound_of rfl (by decide) (by decide) rfl) (lk_cons (fn_at (g := false) (F := q_parts_of) m_q_parts_of F_q_parts_of.kp b_q_parts_of k_q_parts_of rfl (by decide) (by decide) rfl) lk_nil))) lk_nil bi (fun x hx => by cases hx) (fun h => absurd rfl h) (fun x hx => by cases hx) (fun h => absurd rfl h) lk_nil (fun h => absurd rfl h) lk_nil
  have k_l_bound : FnG false P w K mg base 1 (He.fAd K ("_law_bound", none)) d_l_bound [("pair" : PySem.Str)] (spF (tau K tf) K l_bound) := fn_sem (Φ := tbl []) (Γ := []) (N := [("pair" : PySem.Str), ("r" : PySem.Str), ("p" : PySem.Str), ("s" : PySem.Str), ("q" : PySem.Str)]) (inout := [false]) (t := bl_bound) (C := cl_bound) (k := 0) 30 F_l_bound sl_bound_ rfl rfl rfl rfl rfl hl_bound_ lk_nil lk_nil bi (fun x hx => by cases hx) (fun h => absurd rfl h) (fun x hx => by cases hx) (fun h => absurd rfl h) lk_nil (fun h => absurd rfl h) lk_nil
  have k_l_low : FnG false P w K mg base 1 (He.fAd K ("_law_low", none)) d_l_low [("top" : PySem.Str), ("bottom" : PySem.Str)] (spF (tau K tf) K l_low) := fn_sem (Φ := tbl []) (Γ := []) (N := [("top" : PySem.Str), ("bottom" : PySem.Str), ("one" : PySem.Str), ("other" : PySem.Str)]) (inout := [false, false]) (t := bl_low) (C := cl_low) (k := 0) 30 F_l_low sl_low_ rfl rfl rfl rfl rfl hl_low_ lk_nil lk_nil bi (fun x hx => by cases hx) (fun h => absurd rfl h) (fun x hx => by cases hx) (fun h => absurd rfl h) lk_nil (fun h => absurd rfl h) lk_nil
  have k_l_cosine : FnG false P w K mg base 2 (He.fAd K ("_law_cosine", none)) d_l_cosine [("hand" : PySem.Str)] (spF (tau K tf) K l_cosine) := fn_sem (Φ := tbl [l_draw, l_low]) (Γ := []) (N := [("hand" : PySem.Str), ("bottom" : PySem.Str)]) (inout := [true]) (t := bl_cosine) (C := cl_cosine) (k := 1) 30 F_l_cosine sl_cosine_ rfl rfl rfl rfl rfl hl_cosine_ (lk_cons (fn_at (g := false) (F := l_draw) m_l_draw F_l_draw.kp b_l_draw k_l_draw rfl (by decide) (by decide) rfl) (lk_cons (fn_at (g := false) (F := l_low) m_l_low F_l_low.kp b_l_low k_l_low rfl (by decide) (by decide) rfl) lk_nil)) lk_nil bi (fun x hx => by cases hx) (fun h => absurd rfl h) (fun x hx => by cases hx) (fun h => absurd rfl h) lk_nil (fun h => absurd rfl h) lk_nil
  have k_l_deep : FnG false P w K mg base 1 (He.fAd K ("_law_deep", none)) d_l_deep [("turns" : PySem.Str)] (spF (tau K tf) K l_deep) := fn_sem (Φ := tbl []) (Γ := []) (N := [("turns" : PySem.Str), ("thing" : PySem.Str), ("turn" : PySem.Str)]) (inout := [false]) (t := bl_deep) (C := cl_deep) (k := 0) 30 F_l_deep sl_deep_ rfl rfl rfl rfl rfl hl_deep_ lk_nil lk_nil bi (fun x hx => by cases hx) (fun h => absurd rfl h) (fun x hx => by cases hx) (fun h => absurd rfl h) lk_nil (fun h => absurd rfl h) lk_nil
  have k_l_is_0 : FnG false P w K mg base 1 (He.fAd K ("_law_is", none)) d_l_is [("thing" : PySem.Str), ("due" : PySem.Str)] (spF (tau K tf) K l_is_0) := fn_bad F_l_is sl_is_ rfl
  have k_l_is_1 : FnG false P w K mg base 2 (He.fAd K ("_law_is", none)) d_l_is [("thing" : PySem.Str), ("due" : PySem.Str)] (spF (tau K tf) K l_is_1) := fn_sem (Φ := tbl [l_is_0]) (Γ := []) (N := [("thing" : PySem.Str), ("due" : PySem.Str), ("one" : PySem.Str), ("its" : PySem.Str)]) (inout := [false, false]) (t := bl_is) (C := cl_is_1) (k := 1) 30 F_l_is sl_is_ rfl rfl rfl rfl rfl hl_is_1_ (lk_cons (fn_at (g := false) (F := l_is_0) m_l_is F_l_is.kp b_l_is k_l_is_0 rfl (by decide) (by decide) rfl) lk_nil) lk_nil bi (fun x hx => by cases hx) (fun h => absurd rfl h) (fun x hx => by cases hx) (fun h => absurd rfl h) lk_nil (fun h => absurd rfl h) lk_nil
  have k_l_is_2 : FnG false P w K mg base 3 (He.fAd K ("_law_is", none)) d_l_is [("thing" : PySem.Str), ("due" : PySem.Str)] (spF (tau K tf) K l_is_2) := fn_sem (Φ := tbl [l_is_1]) (Γ := []) (N := [("thing" : PySem.Str), ("due" : PySem.Str), ("one" : PySem.Str), ("its" : PySem.Str)]) (inout := [false, false]) (t := bl_is) (C := cl_is_2) (k := 2) 30 F_l_is sl_is_ rfl rfl rfl rfl rfl hl_is_2_ (lk_cons (fn_at (g := false) (F := l_is_1) m_l_is F_l_is.kp b_l_is k_l_is_1 rfl (by decide) (by decide) rfl) lk_nil) lk_nil bi (fun x hx => by cases hx) (fun h => absurd rfl h) (fun x hx => by cases hx) (fun h => absurd rfl h) lk_nil (fun h => absurd rfl h) lk_nil
  have k_l_is_3 : FnG false P w K mg base 4 (He.fAd K ("_law_is", none)) d_l_is [("thing" : PySem.Str), ("due" : PySem.Str)] (spF (tau K tf) K l_is_3) := fn_sem (Φ := tbl [l_is_2]) (Γ := []) (N := [("thing" : PySem.Str), ("due" : PySem.Str), ("one" : PySem.Str), ("its" : PySem.Str)]) (inout := [false, false]) (t := bl_is) (C := cl_is_3) (k := 3) 30 F_l_is sl_is_ rfl rfl rfl rfl rfl hl_is_3_ (lk_cons (fn_at (g := false) (F := l_is_2) m_l_is F_l_is.kp b_l_is k_l_is_2 rfl (by decide) (by decide) rfl) lk_nil) lk_nil bi (fun x hx => by cases hx) (fun h => absurd rfl h) (fun x hx => by cases hx) (fun h => absurd rfl h) lk_nil (fun h => absurd rfl h) lk_nil
  have k_l_is_4 : FnG false P w K mg base 5 (He.fAd K ("_law_is", none)) d_l_is [("thing" : PySem.Str), ("due" : PySem.Str)] (spF (tau K tf) K l_is_4) := fn_sem (Φ := tbl [l_is_3]) (Γ := []) (N := [("thing" : PySem.Str), ("due" : PySem.Str), ("one" : PySem.Str), ("its" : PySem.Str)]) (inout := [false, false]) (t := bl_is) (C := cl_is_4) (k := 4) 30 F_l_is sl_is_ rfl rfl rfl rfl rfl hl_is_4_ (lk_cons (fn_at (g := false) (F := l_is_3) m_l_is F_l_is.kp b_l_is k_l_is_3 rfl (by decide) (by decide) rfl) lk_nil) lk_nil bi (fun x hx => by cases hx) (fun h => absurd rfl h) (fun x hx => by cases hx) (fun h => absurd rfl h) lk_nil (fun h => absurd rfl h) lk_nil
  have k_q_is_fraction : FnG false P w K mg base 3 (He.fAd K ("is_fraction", none)) d_q_is_fraction [("thing" : PySem.Str)] (spF (tau K tf) K q_is_fraction) := fn_sem (Φ := tbl [q_is_tuple, q_reduced]) (Γ := []) (N := [("thing" : PySem.Str), ("one" : PySem.Str)]) (inout := [false]) (t := bq_is_fraction) (C := cq_is_fraction) (k := 2) 30 F_q_is_fraction sq_is_fraction_ rfl rfl rfl rfl rfl hq_is_fraction_ (lk_cons (fn_at (g := false) (F := q_is_tuple) m_q_is_tuple F_q_is_tuple.kp b_q_is_tuple k_q_is_tuple rfl (by decide) (by decide) rfl) (lk_cons (fn_at (g := false) (F := q_reduced) m_q_reduced F_q_reduced.kp b_q_reduced k_q_reduced rfl (by decide) (by decide) rfl) lk_nil)) lk_nil bi (fun x hx => by cases hx) (fun h => absurd rfl h) (fun x hx => by cases hx) (fun h => absurd rfl h) lk_nil (fun h => absurd rfl h) lk_nil
  have k_q_is_cosine : FnG false P w K mg base 4 (He.fAd K ("is_cosine", none)) d_q_is_cosine [("thing" : PySem.Str)] (spF (tau K tf) K q_is_cosine) := fn_sem (Φ := tbl [q_is_fraction]) (Γ := []) (N := [("thing" : PySem.Str)]) (inout := [false]) (t := bq_is_cosine) (C := cq_is_cosine) (k := 3) 30 F_q_is_cosine sq_is_cosine_ rfl rfl rfl rfl rfl hq_is_cosine_ (lk_cons (fn_at (g := false) (F := q_is_fraction) m_q_is_fraction F_q_is_fraction.kp b_q_is_fraction k_q_is_fraction rfl (by decide) (by decide) rfl) lk_nil) lk_nil bi (fun x hx => by cases hx) (fun h => absurd rfl h) (fun x hx => by cases hx) (fun h => absurd rfl h) lk_nil (fun h => absurd rfl h) lk_nil
  have k_q_added : FnG false P w K mg base 3 (He.fAd K ("added", none)) d_q_added [("one" : PySem.Str), ("other" : PySem.Str)] (spF (tau K tf) K q_added) := fn_sem (Φ := tbl [q_reduced]) (Γ := []) (N := [("one" : PySem.Str), ("other" : PySem.Str)]) (inout := [false, false]) (t := bq_added) (C := cq_added) (k := 2) 30 F_q_added sq_added_ rfl rfl rfl rfl rfl hq_added_ (lk_cons (fn_at (g := false) (F := q_reduced) m_q_reduced F_q_reduced.kp b_q_reduced k_q_reduced rfl (by decide) (by decide) rfl) lk_nil) lk_nil bi (fun x hx => by cases hx) (fun h => absurd rfl h) (fun x hx => by cases hx) (fun h => absurd rfl h) lk_nil (fun h => absurd rfl h) lk_nil
  have k_q_times : FnG false P w K mg base 3 (He.fAd K ("times", none)) d_q_times [("one" : PySem.Str), ("other" : PySem.Str)] (spF (tau K tf) K q_times) := fn_sem (Φ := tbl [q_reduced]) (Γ := []) (N := [("one" : PySem.Str), ("other" : PySem.Str)]) (inout := [false, false]) (t := bq_times) (C := cq_times) (k := 2) 30 F_q_times sq_times_ rfl rfl rfl rfl rfl hq_times_ (lk_cons (fn_at (g := false) (F := q_reduced) m_q_reduced F_q_reduced.kp b_q_reduced k_q_reduced rfl (by decide) (by decide) rfl) lk_nil) lk_nil bi (fun x hx => by cases hx) (fun h => absurd rfl h) (fun x hx => by cases hx) (fun h => absurd rfl h) lk_nil (fun h => absurd rfl h) lk_nil
  have k_q_is_back : FnG false P w K mg base 4 (He.fAd K ("is_back", none)) d_q_is_back [("pair" : PySem.Str), ("c" : PySem.Str)] (spF (tau K tf) K q_is_back) := fn_sem (Φ := tbl [q_parts_of, q_added, q_times]) (Γ := []) (N := [("pair" : PySem.Str), ("c" : PySem.Str), ("still" : PySem.Str), ("turned" : PySem.Str)]) (inout := [false, false]) (t := bq_is_back) (C := cq_is_back) (k := 3) 30 F_q_is_back sq_is_back_ rfl rfl rfl rfl rfl hq_is_back_ (lk_cons (fn_at (g := false) (F := q_parts_of) m_q_parts_of F_q_parts_of.kp b_q_parts_of k_q_parts_of rfl (by decide) (by decide) rfl) (lk_cons (fn_at (g := false) (F := q_added) m_q_added F_q_added.kp b_q_added k_q_added rfl (by decide) (by decide) rfl) (lk_cons (fn_at (g := false) (F := q_times) m_q_times F_q_times.kp b_q_times k_q_times rfl (by decide) (by decide) rfl) lk_nil))) lk_nil bi (fun x hx => by cases hx) (fun h => absurd rfl h) (fun x hx => by cases hx) (fun h => absurd rfl h) lk_nil (fun h => absurd rfl h) lk_nil
  have k_q_is_back_or_not : FnG false P w K mg base 5 (He.fAd K ("is_back_or_not", none)) d_q_is_back_or_not [("pair" : PySem.Str), ("thing" : PySem.Str)] (spF (tau K tf) K q_is_back_or_not) := fn_sem (Φ := tbl [q_check_pair, q_is_tuple, q_is_cosine, q_is_back, q_is_integer, q_bound_of]) (Γ := []) (N := [("pair" : PySem.Str), ("thing" : PySem.Str)]) (inout := [false, false]) (t := bq_is_back_or_not) (C := cq_is_back_or_not) (k := 4) 30 F_q_is_back_or_not sq_is_back_or_not_ rfl rfl rfl rfl rfl hq_is_back_or_not_ (lk_cons (fn_at (g := false) (F := q_check_pair) m_q_check_pair F_q_check_pair.kp b_q_check_pair k_q_check_pair rfl (by decide) (by decide) rfl) (lk_cons (fn_at (g := false) (F := q_is_tuple) m_q_is_tuple F_q_is_tuple.kp b_q_is_tuple k_q_is_tuple rfl (by decide) (by decide) rfl) (lk_cons (fn_at (g := false) (F := q_is_cosine) m_q_is_cosine F_q_is_cosine.kp b_q_is_cosine k_q_is_cosine rfl (by decide) (by decide) rfl) (lk_cons (fn_at (g := false) (F := q_is_back) m_q_is_back F_q_is_back.kp b_q_is_back k_q_is_back rfl (by decide) (by decide) rfl) (lk_cons (fn_at (g := false) (F := q_is_integer) m_q_is_integer F_q_is_integer.kp b_q_is_integer k_q_is_integer rfl (by decide) (by decide) rfl) (lk_cons (fn_at (g := false) (F := q_bound_of) m_q_bound_of F_q_bound_of.kp b_q_bound_of k_q_bound_of rfl (by decide) (by decide) rfl) lk_nil)))))) lk_nil bi (fun x hx => by cases hx) (fun h => absurd rfl h) (fun x hx => by cases hx) (fun h => absurd rfl h) lk_nil (fun h => absurd rfl h) lk_nil
  have k_l_is_cosine : FnG false P w K mg base 2 (He.fAd K ("_law_is_cosine", none)) d_l_is_cosine [("thing" : PySem.Str)] (spF (tau K tf) K l_is_cosine) := fn_sem (Φ := tbl [l_low]) (Γ := []) (N := [("thing" : PySem.Str), ("one" : PySem.Str)]) (inout := [false]) (t := bl_is_cosine) (C := cl_is_cosine) (k := 1) 30 F_l_is_cosine sl_is_cosine_ rfl rfl rfl rfl rfl hl_is_cosine_ (lk_cons (fn_at (g := false) (F := l_low) m_l_low F_l_low.kp b_l_low k_l_low rfl (by decide) (by decide) rfl) lk_nil) lk_nil bi (fun x hx => by cases hx) (fun h => absurd rfl h) (fun x hx => by cases hx) (fun h => absurd rfl h) lk_nil (fun h => absurd rfl h) lk_nil
  have k_l_plus : FnG false P w K mg base 2 (He.fAd K ("_law_plus", none)) d_l_plus [("one" : PySem.Str), ("other" : PySem.Str)] (spF (tau K tf) K l_plus) := fn_sem (Φ := tbl [l_low]) (Γ := []) (N := [("one" : PySem.Str), ("other" : PySem.Str)]) (inout := [false, false]) (t := bl_plus) (C := cl_plus) (k := 1) 30 F_l_plus sl_plus_ rfl rfl rfl rfl rfl hl_plus_ (lk_cons (fn_at (g := false) (F := l_low) m_l_low F_l_low.kp b_l_low k_l_low rfl (by decide) (by decide) rfl) lk_nil) lk_nil bi (fun x hx => by cases hx) (fun h => absurd rfl h) (fun x hx => by cases hx) (fun h => absurd rfl h) lk_nil (fun h => absurd rfl h) lk_nil
  have k_l_times : FnG false P w K mg base 2 (He.fAd K ("_law_times", none)) d_l_times [("one" : PySem.Str), ("other" : PySem.Str)] (spF (tau K tf) K l_times) := fn_sem (Φ := tbl [l_low]) (Γ := []) (N := [("one" : PySem.Str), ("other" : PySem.Str)]) (inout := [false, false]) (t := bl_times) (C := cl_times) (k := 1) 30 F_l_times sl_times_ rfl rfl rfl rfl rfl hl_times_ (lk_cons (fn_at (g := false) (F := l_low) m_l_low F_l_low.kp b_l_low k_l_low rfl (by decide) (by decide) rfl) lk_nil) lk_nil bi (fun x hx => by cases hx) (fun h => absurd rfl h) (fun x hx => by cases hx) (fun h => absurd rfl h) lk_nil (fun h => absurd rfl h) lk_nil
  have k_l_speed : FnG false P w K mg base 3 (He.fAd K ("_law_speed", none)) d_l_speed [("pair" : PySem.Str), ("c" : PySem.Str)] (spF (tau K tf) K l_speed) := fn_sem (Φ := tbl [l_plus, l_times]) (Γ := []) (N := [("pair" : PySem.Str), ("c" : PySem.Str), ("r" : PySem.Str), ("p" : PySem.Str), ("s" : PySem.Str), ("q" : PySem.Str)]) (inout := [false, false]) (t := bl_speed) (C := cl_speed) (k := 2) 30 F_l_speed sl_speed_ rfl rfl rfl rfl rfl hl_speed_ (lk_cons (fn_at (g := false) (F := l_plus) m_l_plus F_l_plus.kp b_l_plus k_l_plus rfl (by decide) (by decide) rfl) (lk_cons (fn_at (g := false) (F := l_times) m_l_times F_l_times.kp b_l_times k_l_times rfl (by decide) (by decide) rfl) lk_nil)) lk_nil bi (fun x hx => by cases hx) (fun h => absurd rfl h) (fun x hx => by cases hx) (fun h => absurd rfl h) lk_nil (fun h => absurd rfl h) lk_nil
  have k_l_judged : FnG false P w K mg base 4 (He.fAd K ("_law_judged", none)) d_l_judged [("pair" : PySem.Str), ("thing" : PySem.Str)] (spF (tau K tf) K l_judged) := fn_sem (Φ := tbl [l_is_cosine, l_speed, l_bound]) (Γ := []) (N := [("pair" : PySem.Str), ("thing" : PySem.Str)]) (inout := [false, false]) (t := bl_judged) (C := cl_judged) (k := 3) 30 F_l_judged sl_judged_ rfl rfl rfl rfl rfl hl_judged_ (lk_cons (fn_at (g := false) (F := l_is_cosine) m_l_is_cosine F_l_is_cosine.kp b_l_is_cosine k_l_is_cosine rfl (by decide) (by decide) rfl) (lk_cons (fn_at (g := false) (F := l_speed) m_l_speed F_l_speed.kp b_l_speed k_l_speed rfl (by decide) (by decide) rfl) (lk_cons (fn_at (g := false) (F := l_bound) m_l_bound F_l_bound.kp b_l_bound k_l_bound rfl (by decide) (by decide) rfl) lk_nil))) lk_nil bi (fun x hx => by cases hx) (fun h => absurd rfl h) (fun x hx => by cases hx) (fun h => absurd rfl h) lk_nil (fun h => absurd rfl h) lk_nil
  have k_l_is_right : FnG true P w K mg base 6 (He.fAd K ("_law_is_right", none)) d_l_is_right [("hand" : PySem.Str)] (spF (tau K tf) K l_is_right) := fn_sem (Φ := tbl [l_wheel_pair, q_back_or_not, l_bound, l_cosine, l_deep, l_is_4, q_is_back_or_not, l_judged, l_low, q_turn_cosine]) (Γ := []) (N := [("hand" : PySem.Str), ("pair" : PySem.Str), ("things" : PySem.Str), ("thing" : PySem.Str), ("r" : PySem.Str), ("p" : PySem.Str), ("s" : PySem.Str), ("q" : PySem.Str), ("told" : PySem.Str), ("bound" : PySem.Str), ("kept" : PySem.Str), ("c" : PySem.Str), ("turn" : PySem.Str)]) (inout := [true]) (t := bl_is_right) (C := cl_is_right) (k := 5) 30 F_l_is_right sl_is_right_ rfl rfl rfl rfl rfl hl_is_right_ (lk_cons (fn_at (g := true) (F := l_wheel_pair) m_l_wheel_pair F_l_wheel_pair.kp b_l_wheel_pair k_l_wheel_pair rfl (by decide) (by decide) rfl) (lk_cons (fn_at (g := true) (F := q_back_or_not) m_q_back_or_not F_q_back_or_not.kp b_q_back_or_not k_q_back_or_not rfl (by decide) (by decide) rfl) (lk_cons (fn_at (g := true) (F := l_bound) m_l_bound F_l_bound.kp b_l_bound k_l_bound rfl (by decide) (by decide) rfl) (lk_cons (fn_at (g := true) (F := l_cosine) m_l_cosine F_l_cosine.kp b_l_cosine k_l_cosine rfl (by decide) (by decide) rfl) (lk_cons (fn_at (g := true) (F := l_deep) m_l_deep F_l_deep.kp b_l_deep k_l_deep rfl (by decide) (by decide) rfl) (lk_cons (fn_at (g := true) (F := l_is_4) m_l_is F_l_is.kp b_l_is k_l_is_4 rfl (by decide) (by decide) rfl) (lk_cons (fn_at (g := true) (F := q_is_back_or_not) m_q_is_back_or_not F_q_is_back_or_not.kp b_q_is_back_or_not k_q_is_back_or_not rfl (by decide) (by decide) rfl) (lk_cons (fn_at (g := true) (F := l_judged) m_l_judged F_l_judged.kp b_l_judged k_l_judged rfl (by decide) (by decide) rfl) (lk_cons (fn_at (g := true) (F := l_low) m_l_low F_l_low.kp b_l_low k_l_low rfl (by decide) (by decide) rfl) (lk_cons (fn_at (g := true) (F := q_turn_cosine) m_q_turn_cosine F_q_turn_cosine.kp b_q_turn_cosine k_q_turn_cosine rfl (by decide) (by decide) rfl) lk_nil)))))))))) lk_nil bi (fun x hx => by cases hx) (fun h => absurd rfl h) (fun x hx => by cases hx) (fun h => absurd rfl h) lk_nil (fun h => absurd rfl h) lk_nil
  have k_q_check_cosine : FnG false P w K mg base 5 (He.fAd K ("check_cosine", none)) d_q_check_cosine [("c" : PySem.Str)] (spF (tau K tf) K q_check_cosine) := fn_sem (Φ := tbl [q_is_cosine]) (Γ := []) (N := [("c" : PySem.Str)]) (inout := [false]) (t := bq_check_cosine) (C := cq_check_cosine) (k := 4) 30 F_q_check_cosine sq_check_cosine_ rfl rfl rfl rfl rfl hq_check_cosine_ (lk_cons (fn_at (g := false) (F := q_is_cosine) m_q_is_cosine F_q_is_cosine.kp b_q_is_cosine k_q_is_cosine rfl (by decide) (by decide) rfl) lk_nil) lk_nil bi (by
    intro x hx
    simp only [cq_check_cosine, List.mem_cons, List.mem_nil_iff, or_false] at hx
    rcases hx with rfl
    · exact x_NoCosine) (fun _ => by decide) (fun x hx => by cases hx) (fun h => absurd rfl h) lk_nil (fun h => absurd rfl h) lk_nil
  have k_q_goes_back : FnG false P w K mg base 6 (He.fAd K ("goes_back", none)) d_q_goes_back [("pair" : PySem.Str), ("c" : PySem.Str)] (spF (tau K tf) K q_goes_back) := fn_sem (Φ := tbl [q_check_pair, q_check_cosine, q_is_back]) (Γ := []) (N := [("pair" : PySem.Str), ("c" : PySem.Str)]) (inout := [false, false]) (t := bq_goes_back) (C := cq_goes_back) (k := 5) 30 F_q_goes_back sq_goes_back_ rfl rfl rfl rfl rfl hq_goes_back_ (lk_cons (fn_at (g := false) (F := q_check_pair) m_q_check_pair F_q_check_pair.kp b_q_check_pair k_q_check_pair rfl (by decide) (by decide) rfl) (lk_cons (fn_at (g := false) (F := q_check_cosine) m_q_check_cosine F_q_check_cosine.kp b_q_check_cosine k_q_check_cosine rfl (by decide) (by decide) rfl) (lk_cons (fn_at (g := false) (F := q_is_back) m_q_is_back F_q_is_back.kp b_q_is_back k_q_is_back rfl (by decide) (by decide) rfl) lk_nil))) lk_nil bi (fun x hx => by cases hx) (fun h => absurd rfl h) (fun x hx => by cases hx) (fun h => absurd rfl h) lk_nil (fun h => absurd rfl h) lk_nil
  have k_q_seen_square : FnG false P w K mg base 6 (He.fAd K ("seen_square", none)) d_q_seen_square [("pair" : PySem.Str), ("c" : PySem.Str)] (spF (tau K tf) K q_seen_square) := fn_sem (Φ := tbl [q_check_pair, q_check_cosine, q_added, q_times]) (Γ := []) (N := [("pair" : PySem.Str), ("c" : PySem.Str), ("r" : PySem.Str), ("p" : PySem.Str), ("s" : PySem.Str), ("q" : PySem.Str)]) (inout := [false, false]) (t := bq_seen_square) (C := cq_seen_square) (k := 5) 30 F_q_seen_square sq_seen_square_ rfl rfl rfl rfl rfl hq_seen_square_ (lk_cons (fn_at (g := false) (F := q_check_pair) m_q_check_pair F_q_check_pair.kp b_q_check_pair k_q_check_pair rfl (by decide) (by decide) rfl) (lk_cons (fn_at (g := false) (F := q_check_cosine) m_q_check_cosine F_q_check_cosine.kp b_q_check_cosine k_q_check_cosine rfl (by decide) (by decide) rfl) (lk_cons (fn_at (g := false) (F := q_added) m_q_added F_q_added.kp b_q_added k_q_added rfl (by decide) (by decide) rfl) (lk_cons (fn_at (g := false) (F := q_times) m_q_times F_q_times.kp b_q_times k_q_times rfl (by decide) (by decide) rfl) lk_nil)))) lk_nil bi (fun x hx => by cases hx) (fun h => absurd rfl h) (fun x hx => by cases hx) (fun h => absurd rfl h) lk_nil (fun h => absurd rfl h) lk_nil
  have xf_l_word : ∀ q ∈ hl_word, XFacts K mg (He.ga K zl_word.sky) q.1 q.2.1 := by
    intro q hq
    simp only [hl_word, List.mem_cons, List.mem_nil_iff, or_false] at hq
    rcases hq with rfl | rfl
    · exact xfB_ok X G (mk.xs ("NoWheelPair", [("ValueError", true), ("NoWheelPair", true), ("NoCosine", false)], false) (by decide +kernel)) (.inl ⟨rfl, rfl⟩)
    · exact xfB_ok X G (mk.xs ("NoCosine", [("ValueError", true), ("NoWheelPair", false), ("NoCosine", true)], false) (by decide +kernel)) (.inl ⟨rfl, rfl⟩)
  have xh_l_word : ∀ q ∈ hl_word, HelpK (tau K tf) P w K mg base q.1 q.2.1 := by
    intro q hq
    simp only [hl_word, List.mem_cons, List.mem_nil_iff, or_false] at hq
    rcases hq with rfl | rfl
    · intro y bs hy
      obtain ⟨rfl, rfl⟩ := lookup1 hy
      exact help_ok (m := 30) F_l_flags m_l_flags b_l_flags sl_flags_ rfl hhl_flags_NoWheelPair (xfB_ok (e := "error") X G (mk.xs ("NoWheelPair", [("ValueError", true), ("NoWheelPair", true), ("NoCosine", false)], false) (by decide +kernel)) (.inl ⟨rfl, rfl⟩)) rfl rfl bi (.inl rfl) hel_flags_NoWheelPair
    · intro y bs hy
      obtain ⟨rfl, rfl⟩ := lookup1 hy
      exact help_ok (m := 30) F_l_flags m_l_flags b_l_flags sl_flags_ rfl hhl_flags_NoCosine (xfB_ok (e := "error") X G (mk.xs ("NoCosine", [("ValueError", true), ("NoWheelPair", false), ("NoCosine", true)], false) (by decide +kernel)) (.inl ⟨rfl, rfl⟩)) rfl rfl bi (.inl rfl) hel_flags_NoCosine
  have k_l_is_refused : FnG false P w K mg base 15 (He.fAd K ("_law_is_refused", none)) d_l_is_refused [("hand" : PySem.Str)] (spF (tau K tf) K l_is_refused) := fn_sem (Φ := tbl [l_deep, l_some, q_goes_back, q_seen_square, l_word, q_back_or_not, q_turn_cosine, q_is_back_or_not]) (Γ := [(fnD "goes_back"), (fnD "seen_square")]) (N := [("hand" : PySem.Str), ("none" : PySem.Str), ("c" : PySem.Str), ("words" : PySem.Str), ("ask" : PySem.Str)]) (inout := [true]) (t := bl_is_refused) (C := cl_is_refused) (k := 14) 30 F_l_is_refused sl_is_refused_ rfl rfl rfl rfl rfl hl_is_refused_ (lk_cons (fn_at (g := false) (F := l_deep) m_l_deep F_l_deep.kp b_l_deep k_l_deep rfl (by decide) (by decide) rfl) (lk_cons (fn_at (g := false) (F := l_some) m_l_some F_l_some.kp b_l_some k_l_some rfl (by decide) (by decide) rfl) lk_nil)) (lk_cons (fnv_at m_q_goes_back rfl) (lk_cons (fnv_at m_q_seen_square rfl) lk_nil)) bi (fun x hx => by cases hx) (fun h => absurd rfl h) (fun x hx => by cases hx) (fun h => absurd rfl h) (lk_cons (cat_at (Φ := tbl []) (Γ := []) (N := [("call" : PySem.Str), ("found" : PySem.Str), ("error" : PySem.Str), ("flags" : PySem.Str)]) (ie := 2) (σ1 := sl_word) (hs := hl_word) zl_word zzl_word (tll := (some (1, "told"))) (by kernel_rfl) F_l_word m_l_word b_l_word sl_word_ (by kernel_rfl) (by kernel_rfl) (by kernel_rfl) hc0l_word hc1l_word hcsl_word xf_l_word xh_l_word (by intro q hq; simp only [hl_word, List.mem_cons, List.mem_nil_iff, or_false] at hq; rcases hq with rfl | rfl <;> rfl) (by kernel_rfl) (by kernel_rfl) (by kernel_rfl) (by kernel_rfl) m_sky_SkyError bi he0l_word (by decide +kernel) rfl) lk_nil) (fun _ => ⟨lamK_of F_l_is_refused (by decide +kernel) mk.ap TB, by decide⟩) (lk_cons (fn_at (g := false) (F := q_back_or_not) m_q_back_or_not F_q_back_or_not.kp b_q_back_or_not k_q_back_or_not rfl (by decide) (by decide) rfl) (lk_cons (fn_at (g := false) (F := q_turn_cosine) m_q_turn_cosine F_q_turn_cosine.kp b_q_turn_cosine k_q_turn_cosine rfl (by decide) (by decide) rfl) (lk_cons (fn_at (g := false) (F := q_is_back_or_not) m_q_is_back_or_not F_q_is_back_or_not.kp b_q_is_back_or_not k_q_is_back_or_not rfl (by decide) (by decide) rfl) (lk_cons (fn_at (g := false) (F := q_goes_back) m_q_goes_back F_q_goes_back.kp b_q_goes_back k_q_goes_back rfl (by decide) (by decide) rfl) (lk_cons (fn_at (g := false) (F := q_seen_square) m_q_seen_square F_q_seen_square.kp b_q_seen_square k_q_seen_square rfl (by decide) (by decide) rfl) lk_nil))))) (fad := by
    intro x hx
    simp only [cl_is_refused, List.mem_cons, List.mem_nil_iff, or_false] at hx
    rcases hx with rfl | rfl
    · exact m_q_goes_back
    · exact m_q_seen_square)
  have k_q_law : FnG true P w K mg base 16 (He.fAd K ("law", none)) d_q_law [("script" : PySem.Str)] (spF (tau K tf) K q_law) := fn_sem (Φ := tbl [l_hand, q_turn_cosine, l_is_right, l_is_refused]) (Γ := []) (N := [("script" : PySem.Str), ("hand" : PySem.Str), ("turn" : PySem.Str)]) (inout := [false]) (t := bq_law) (C := cq_law) (k := 15) 30 F_q_law sq_law_ rfl rfl rfl rfl rfl hq_law_ (lk_cons (fn_at (g := true) (F := l_hand) m_l_hand F_l_hand.kp b_l_hand k_l_hand rfl (by decide) (by decide) rfl) (lk_cons (fn_at (g := true) (F := q_turn_cosine) m_q_turn_cosine F_q_turn_cosine.kp b_q_turn_cosine k_q_turn_cosine rfl (by decide) (by decide) rfl) (lk_cons (fn_at (g := true) (F := l_is_right) m_l_is_right F_l_is_right.kp b_l_is_right k_l_is_right rfl (by decide) (by decide) rfl) (lk_cons (fn_at (g := true) (F := l_is_refused) m_l_is_refused F_l_is_refused.kp b_l_is_refused k_l_is_refused rfl (by decide) (by decide) rfl) lk_nil)))) lk_nil bi (fun x hx => by cases hx) (fun h => absurd rfl h) (fun x hx => by cases hx) (fun h => absurd rfl h) lk_nil (fun h => absurd rfl h) lk_nil
  exact k_q_law
end LawK45
open PySem PySem.W PySem.Calls PyProof.Rows
theorem PySem.Challenge.cw_fewskies_k45_whole_wheel_pairs_judged_an_holds : PySem.Challenge.rw_fewskies_k45_whole_wheel_pairs_judged_an.Holds := by
  w_on; o_law
  refine HandSHeadRun.head_any (r := OpenLaw.row PySem.Challenge.rw_fewskies_k45_whole_wheel_pairs_judged_an) (q := view (OpenLaw.row PySem.Challenge.rw_fewskies_k45_whole_wheel_pairs_judged_an).prog [47]) (H := HeadK45.hk) (ob := HeadK45.ob) (M := 12000) (loose := HeadK45.loose) (d := HandSHeadRun.topDef (OpenLaw.row PySem.Challenge.rw_fewskies_k45_whole_wheel_pairs_judged_an).prog 47) (kwd := []) HeadK45.ob_eq
    (by kernel_rfl) (fun s => by kernel_rfl) HeadK45.run (by kernel_rfl) (by kernel_rfl) (by kernel_rfl) (by rfl) (by first | assumption | decide +kernel) (by decide +kernel) ⟨rfl, rfl, rfl, rfl, rfl, by decide +kernel⟩ ?hw ?hc
  case hw => w_witness2
  case hc =>
    refine Fz.walk_ofG (l := PySem.Challenge.rw_fewskies_k45_whole_wheel_pairs_judged_an) (g := true) (n := 63) (k := 16) (x := ("script" : PySem.Str)) rfl (by decide) (by kernel_rfl) ⟨rfl, by decide, by decide⟩ ?F
    intro w mg fa h Y G hmg0
    obtain ⟨K, KX, c⟩ := Y
    have hmg : mg ("law" : PySem.Str) = some (.ref fa) := by
      have e : (HandSHeadRun.topDef (OpenLaw.row PySem.Challenge.rw_fewskies_k45_whole_wheel_pairs_judged_an).prog 47).name = ("law" : PySem.Str) := by kernel_rfl
      rw [← e]
      exact hmg0
    obtain ⟨fd, hb, hF⟩ := LawK45.facts (P := (PySem.Challenge.rw_fewskies_k45_whole_wheel_pairs_judged_an).prog) (w := w) (by kernel_rfl) (by kernel_rfl) KX G hmg c.t.d (Fz.moreB_ok c.more) c.t
    exact ⟨K, KX, Fz.lawAt_of c KX hb rfl LawK45.run_law hF⟩

