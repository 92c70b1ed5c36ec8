import PyProof.Rows.All
import Wide.All
import OpenK.AllK
import Wide.FinOn
import HandS.ForMost
import HandS.ForExc
import HandS.IsInst
import HandS.Deep
import KE.SortCalls
import HandS.SortRule
import HandS.Lambda
import HandS.EndTab
import HandS.SortInts
import HandS.Conv
import HandS.Wide
import HandS.WideMore
import HandS.SortKw
import HandS.Style
import KE.KSortedM
import HandS.Remove
import HandS.Iter
import HandS.More
import HandS.ExcInit
import HandS.CallSlots
import HandS.ExcField
import HandS.NoneIn
import HandS.WordsExc
import HandS.Codes
import KE.SortKeyHeap
import PySem.Challenge.RW_cleanhands_k14_weighings_told_ahead
set_option Elab.async false
set_option linter.all false
section
/-! VEa: data, environments, the evaluator. -/
namespace VE
open PySem

/-- flags of a list node: mine alone; mine alone but walked; shared -/
inductive Fl where
  | own | lent | shr
deriving DecidableEq

/-- a datum, without addresses -/
inductive D where
  | non
  | bl (b : Bool)
  | int (i : Int)
  | str (s : Str)
  | gone
  | tup (xs : List D)
  | lst (o : Fl) (xs : List D)

mutual
def frz : D → D
  | .lst _ xs => .lst .shr (frzL xs)
  | .tup xs => .tup (frzL xs)
  | .non => .non
  | .bl b => .bl b
  | .int i => .int i
  | .str s => .str s
  | .gone => .gone
def frzL : List D → List D
  | [] => []
  | d :: ds => frz d :: frzL ds
end
mutual
/-- may be held twice -/
def dup : D → Bool
  | .lst o _ => decide (o = .shr)
  | .tup xs => dupL xs
  | _ => true
def dupL : List D → Bool
  | [] => true
  | d :: ds => dup d && dupL ds
end
mutual
def toPy : D → PyData
  | .lst _ xs => .list (toPyL xs)
  | .tup xs => .tuple (toPyL xs)
  | .non => .none
  | .bl b => .bool b
  | .int i => .int i
  | .str s => .str s
  | .gone => .none
def toPyL : List D → List PyData
  | [] => []
  | d :: ds => toPy d :: toPyL ds
end
/-- nothing gone within, at most n deep -/
def shal : Nat → D → Bool
  | _, .gone => false
  | _, .str s => PyData.strOk s
  | n + 1, .lst _ xs => xs.all (shal n)
  | n + 1, .tup xs => xs.all (shal n)
  | 0, .lst _ _ => false
  | 0, .tup _ => false
  | _, _ => true

abbrev En := List (Option D)
def gt (Γ : En) (i : Nat) : Option D := match Γ[i]? with
  | some (some d) => some d
  | _ => none

/-- a list stands at j -/
def isL (Γ : En) (j : Nat) : Bool := match gt Γ j with
  | some (.lst _ _) => true
  | _ => false
/-- an exception's class by its name, the name of its field -/
structure Xn where
  x : Str
  fn : Str
inductive R (α : Type) where
  | ok (a : α) (Γ : En)
  | ex (c : Xn) (ds : List D) (Γ : En)
  | bad
def R.bind {α β : Type} : R α → (α → En → R β) → R β
  | .ok a Γ, f => f a Γ
  | .ex c ds Γ, _ => .ex c ds Γ
  | .bad, _ => .bad
inductive S where
  | nx (Γ : En)
  | rt (d : D) (Γ : En)
  | bk (Γ : En)
  | ct (Γ : En)
  | ex (c : Xn) (ds : List D) (Γ : En)
  | bad
def R.s {α : Type} : R α → (α → En → S) → S
  | .ok a Γ, f => f a Γ
  | .ex _ _ _, _ => .bad
  | .bad, _ => .bad
def S.seq : S → (En → S) → S
  | .nx Γ, f => f Γ
  | .rt d Γ, _ => .rt d Γ
  | .bk Γ, _ => .bk Γ
  | .ct Γ, _ => .ct Γ
  | .ex c ds Γ, _ => .ex c ds Γ
  | .bad, _ => .bad
/-- a call's end: the value, what became of the arguments -/
inductive F where
  | ok (d : D) (fs : List D)
  | ex (c : Xn) (ds : List D) (fs : List D)
  | bad
abbrev CF := Nat → List D → F

/-! ### operators on data -/
inductive Op where
  | add | sub | mul | fdiv | mod | pow | neg
  | len | abs | int | sum | min | max | sorted | list | range1 | range2
  | idx | cut | cutL | cutR | rev
  | isI | isB | isS | isT | isL
  | shl | shr | band | bor | bxor
  | sortR | all | any | tuple | lset | range3
deriving DecidableEq
/-- how an operation is written -/
inductive Fm where
  | bin | un | call | lrg | isi | sub | cut | rev | srev | lset
deriving DecidableEq
inductive OpC where
  | lt | le | gt | ge | eq | ne | isn | notn | mem | nmem
deriving DecidableEq

def ints? : List D → Option (List Int)
  | [] => some []
  | .int i :: ds => (ints? ds).map (i :: ·)
  | _ :: _ => none
def insI (x : Int) : List Int → List Int
  | [] => [x]
  | y :: ys => if x ≤ y then x :: y :: ys else y :: insI x ys
def sortI : List Int → List Int
  | [] => []
  | x :: xs => insI x (sortI xs)
def ltR : List Int → List Int → Bool
  | _, [] => false
  | [], _ :: _ => true
  | x :: xs, y :: ys => if x = y then ltR xs ys else decide (x < y)
def insR (x : List Int) : List (List Int) → List (List Int)
  | [] => [x]
  | y :: ys => if ltR y x = true then y :: insR x ys else x :: y :: ys
def sortRows : List (List Int) → List (List Int)
  | [] => []
  | x :: xs => insR x (sortRows xs)
/-- shared lists of ints -/
def rows? : List D → Option (List (List Int))
  | [] => some []
  | .lst .shr ys :: ds => (ints? ys).bind fun r => (rows? ds).map (r :: ·)
  | _ :: _ => none
def trows? : List D → Option (List (List Int))
  | [] => some []
  | .tup ys :: ds => (ints? ys).bind fun r => (trows? ds).map (r :: ·)
  | _ :: _ => none
def bools? : List D → Option (List Bool)
  | [] => some []
  | .bl b :: ds => (bools? ds).map (b :: ·)
  | _ :: _ => none
def rowD (r : List Int) : D := .lst .shr (r.map .int)
def trowD (r : List Int) : D := .tup (r.map .int)
def maxI : Int → List Int → Int
  | m, [] => m
  | m, x :: xs => maxI (if x > m then x else m) xs
def minI : Int → List Int → Int
  | m, [] => m
  | m, x :: xs => minI (if x < m then x else m) xs
def okMul (i j : Int) : Bool := (decide (-(2 ^ 64) < j) && decide (j < 2 ^ 64)) || (decide (-(2 ^ 64) < i) && decide (i < 2 ^ 64))
def okDiv (j : Int) : Bool := decide (0 < j) && (decide (j < 1073741824) || decide (j.natAbs.log2 < 9000))
def okPow (i j : Int) : Bool := decide (0 ≤ j) && decide (j ≤ 1000000) && decide (i.natAbs < 2 ^ 64)
def okRg (i : Int) : Bool := decide (-1000000 ≤ i) && decide (i ≤ 1000000)
def line : Nat := 1000000
def rangeL (lo hi : Int) : List D := (List.range (hi - lo).toNat).map fun (k : Nat) => D.int (lo + k)
def rangeD (hi lo : Int) : List D := (List.range (hi - lo).toNat).map fun (k : Nat) => D.int (hi - k)
def guardO {α : Type} (c : Bool) (a : Option α) : Option α := if c = true then a else none
/-- the items of a list or a tuple -/
def items? : D → Option (List D)
  | .lst _ xs => some xs
  | .tup xs => some xs
  | _ => none
/-- where a cut begins, ends -/
def cutI (n d : Nat) : Option Int → Nat
  | none => d
  | some i => if 0 ≤ i then min i.toNat n else (i + n).toNat
def cutD (xs : List D) (lo hi : Option Int) : List D := (xs.drop (cutI xs.length 0 lo)).take (cutI xs.length xs.length hi - cutI xs.length 0 lo)
def ixD (xs : List D) (i : Int) : Option D := if 0 ≤ i then xs[i.toNat]? else if -(xs.length : Int) ≤ i then xs[(i + xs.length).toNat]? else none
def flat : D → Bool
  | .non => true
  | .bl _ => true
  | .int _ => true
  | .str _ => true
  | _ => false
def eqF : D → D → Bool
  | .non, .non => true
  | .bl a, .bl b => a == b
  | .bl a, .int b => (if a then 1 else 0) == b
  | .int a, .bl b => a == (if b then 1 else 0)
  | .int a, .int b => a == b
  | .str a, .str b => a == b
  | _, _ => false
def eqD (d e : D) : Bool := PyData.eqv (toPy d) (toPy e)

def addF : D → D → Option D
  | .int i, .int j => some (.int (i + j))
  | .lst _ xs, .lst _ ys => guardO (dupL xs && dupL ys && decide (xs.length + ys.length ≤ line)) (some (.lst .own (xs ++ ys)))
  | _, _ => none
/-- two ints -/
def intF (c : Int → Int → Bool) (f : Int → Int → Int) : D → D → Option D
  | .int i, .int j => guardO (c i j) (some (.int (f i j)))
  | _, _ => none
def mulF : D → D → Option D
  | .int i, .int j => guardO (okMul i j) (some (.int (i * j)))
  | .lst o xs, .int j => guardO (decide (o ≠ .shr) && dupL xs && decide (0 ≤ j) && decide (j ≤ 1000000) && decide (xs.length * j.toNat ≤ line)) (some (.lst .own (List.replicate j.toNat xs).flatten))
  | _, _ => none
def negF : D → Option D
  | .int i => some (.int (-i))
  | _ => none
def lenF : D → Option D
  | .lst _ xs => some (.int xs.length)
  | .tup xs => some (.int xs.length)
  | _ => none
def absF : D → Option D
  | .int i => some (.int (if i < 0 then -i else i))
  | _ => none
def int1F : D → Option D
  | .int i => some (.int i)
  | .bl b => some (.int (if b then 1 else 0))
  | _ => none
def sumF : D → Option D
  | .lst _ xs => (ints? xs).map fun ns => .int ns.sum
  | _ => none
def max3F : D → D → D → Option D
  | .int i, .int j, .int l => some (.int (if j > i then (if l > j then l else j) else (if l > i then l else i)))
  | _, _, _ => none
def max2F : D → D → Option D
  | .int i, .int j => some (.int (if j > i then j else i))
  | _, _ => none
def min2F : D → D → Option D
  | .int i, .int j => some (.int (if j < i then j else i))
  | _, _ => none
def maxO : List Int → Option D
  | [] => none
  | n :: ns => some (.int (maxI n ns))
def minO : List Int → Option D
  | [] => none
  | n :: ns => some (.int (minI n ns))
def maxF : D → Option D
  | .lst _ xs => (ints? xs).bind maxO
  | _ => none
def minF : D → Option D
  | .lst _ xs => (ints? xs).bind minO
  | _ => none
def sortF : D → Option D
  | .lst _ xs => match ints? xs with
    | some ns => some (.lst .own ((sortI ns).map .int))
    | none => match rows? xs with
      | some rs => some (.lst .own ((sortRows rs).map rowD))
      | none => (trows? xs).bind fun rs => if (rs.all fun r => !r.isEmpty) = true then some (.lst .own ((sortRows rs).map trowD)) else none
  | _ => none
def sortRF : D → Option D
  | .lst _ xs => (ints? xs).map fun ns => .lst .own ((sortI ns).reverse.map .int)
  | _ => none
def allF : D → Option D
  | .lst _ xs => (bools? xs).map fun bs => .bl (bs.all id)
  | _ => none
def anyF : D → Option D
  | .lst _ xs => (bools? xs).map fun bs => .bl (bs.any id)
  | _ => none
def tupF : D → Option D
  | .lst _ xs => guardO (dupL xs) (some (.tup xs))
  | .tup xs => guardO (dupL xs) (some (.tup xs))
  | _ => none
def listF : D → Option D
  | .lst _ xs => guardO (dupL xs) (some (.lst .own xs))
  | .tup xs => guardO (dupL xs) (some (.lst .own xs))
  | _ => none
def rgF : D → D → Option D
  | .int i, .int j => guardO (okRg i && okRg j) (some (.lst .own (rangeL i j)))
  | _, _ => none
/-- each int once, in the order of coming -/
def dedI (ns : List Int) : List Int := ns.foldl (fun σ k => if σ.any (· == k) then σ else σ ++ [k]) []
def lsetF : D → Option D
  | .lst _ xs => (ints? xs).bind fun ns => guardO (decide (ns.length ≤ 4000)) (some (.int ((dedI ns).length : Nat)))
  | _ => none
def rgDF : D → D → Option D
  | .int i, .int j => guardO (okRg i && okRg j) (some (.lst .own (rangeD i j)))
  | _, _ => none
def ixO (xs : List D) (i : Int) : Option D := (ixD xs i).bind fun d => guardO (dup d) (some d)
def idxF : D → D → Option D
  | .lst _ xs, .int i => ixO xs i
  | .tup xs, .int i => ixO xs i
  | _, _ => none
def int? : D → Option Int
  | .int i => some i
  | _ => none
def cutF : D → Option Int → Option Int → Option D
  | .lst _ xs, lo, hi => guardO (dupL xs) (some (.lst .own (cutD xs lo hi)))
  | _, _, _ => none
def revF : D → Option D
  | .lst _ xs => guardO (dupL xs) (some (.lst .own xs.reverse))
  | _ => none
def indexF : D → D → Option D
  | .lst _ xs, d => guardO (flat d && xs.all flat) ((xs.findIdx? fun y => eqF y d).map fun k => .int (k : Nat))
  | _, _ => none
/-- the built-in type -/
inductive Ty where
  | non | bl | int | str | tup | lst
deriving DecidableEq
def tyD : D → Option Ty
  | .non => some .non
  | .bl _ => some .bl
  | .int _ => some .int
  | .str _ => some .str
  | .tup _ => some .tup
  | .lst _ _ => some .lst
  | .gone => none
def isTy : Ty → Ty → Bool
  | .bl, .int => true
  | a, b => decide (a = b)
def isF (t : Ty) (d : D) : Option D := (tyD d).map fun u => .bl (isTy u t)

def op1 (f : D → Option D) : List D → Option D
  | [c] => f c
  | _ => none
def op2 (f : D → D → Option D) : List D → Option D
  | [c, e] => f c e
  | _ => none
def op13 (f : D → Option D) (g : D → D → Option D) (h : D → D → D → Option D) : List D → Option D
  | [a] => f a
  | [a, b] => g a b
  | [a, b, c] => h a b c
  | _ => none
def op12 (f : D → Option D) (g : D → D → Option D) : List D → Option D
  | [c] => f c
  | [c, e] => g c e
  | _ => none
def cut3 : List D → Option D
  | [c, d, e] => (int? d).bind fun i => (int? e).bind fun j => cutF c (some i) (some j)
  | _ => none
def cutL2 (c d : D) : Option D := (int? d).bind fun i => cutF c (some i) none
def cutR2 (c e : D) : Option D := (int? e).bind fun j => cutF c none (some j)
def subF : D → D → Option D := intF (fun _ _ => true) (fun i j => i - j)
def fdivF : D → D → Option D := intF (fun _ j => okDiv j) (fun i j => i / j)
def modF : D → D → Option D := intF (fun _ j => decide (0 < j)) (fun i j => i % j)
def powF : D → D → Option D := intF okPow (fun i j => i ^ j.toNat)
def shlF : D → D → Option D := intF okPow (fun i j => i * 2 ^ j.toNat)
def shrF : D → D → Option D := intF (fun _ j => decide (0 ≤ j)) (fun i j => i / 2 ^ j.toNat)
def bandF : D → D → Option D := intF (fun _ _ => true) Builtin.bitAnd
def borF : D → D → Option D := intF (fun _ _ => true) Builtin.bitOr
def bxorF : D → D → Option D := intF (fun _ _ => true) Builtin.bitXor
def opF : Op → List D → Option D
  | .add => op2 addF
  | .sub => op2 subF
  | .mul => op2 mulF
  | .fdiv => op2 fdivF
  | .mod => op2 modF
  | .pow => op2 powF
  | .shl => op2 shlF
  | .shr => op2 shrF
  | .band => op2 bandF
  | .bor => op2 borF
  | .bxor => op2 bxorF
  | .neg => op1 negF
  | .len => op1 lenF
  | .abs => op1 absF
  | .int => op1 int1F
  | .sum => op1 sumF
  | .max => op13 maxF max2F max3F
  | .min => op12 minF min2F
  | .sorted => op1 sortF
  | .list => op1 listF
  | .sortR => op1 sortRF
  | .all => op1 allF
  | .any => op1 anyF
  | .tuple => op1 tupF
  | .range1 => op1 (rgF (.int 0))
  | .range2 => op2 rgF
  | .range3 => op2 rgDF
  | .lset => op1 lsetF
  | .idx => op2 idxF
  | .cut => cut3
  | .cutL => op2 cutL2
  | .cutR => op2 cutR2
  | .rev => op1 revF
  | .isI => op1 (isF .int)
  | .isB => op1 (isF .bl)
  | .isS => op1 (isF .str)
  | .isT => op1 (isF .tup)
  | .isL => op1 (isF .lst)

def cmpF : OpC → D → D → Option Bool
  | .lt, .int i, .int j => some (decide (i < j))
  | .le, .int i, .int j => some (decide (i ≤ j))
  | .gt, .int i, .int j => some (decide (j < i))
  | .ge, .int i, .int j => some (decide (j ≤ i))
  | .eq, d, e => guardO (shal 8 d && shal 8 e) (some (eqD d e))
  | .ne, d, e => guardO (shal 8 d && shal 8 e) (some (!eqD d e))
  | .isn, d, .non => match d with
      | .non => some true
      | .gone => none
      | _ => some false
  | .notn, d, .non => match d with
      | .non => some false
      | .gone => none
      | _ => some true
  | .mem, d, .lst _ xs => if (flat d && xs.all flat) = true then some (xs.any fun y => eqF y d) else guardO (shal 8 d && xs.all (shal 8)) (some (xs.any fun y => eqD y d))
  | .nmem, d, .lst _ xs => if (flat d && xs.all flat) = true then some (!xs.any fun y => eqF y d) else guardO (shal 8 d && xs.all (shal 8)) (some (!xs.any fun y => eqD y d))
  | .mem, d, .tup xs => guardO (flat d && xs.all flat) (some (xs.any fun y => eqF y d))
  | .nmem, d, .tup xs => guardO (flat d && xs.all flat) (some (!xs.any fun y => eqF y d))
  | _, _, _ => none
def truF : D → Option Bool
  | .non => some false
  | .bl b => some b
  | .int i => some (i != 0)
  | .lst _ xs => some (!xs.isEmpty)
  | .tup xs => some (!xs.isEmpty)
  | _ => none

/-! ### the terms -/
inductive Cst where
  | non | bl (b : Bool) | int (i : Int) | str (s : Str)
def Cst.d : Cst → D
  | .non => .non
  | .bl b => .bl b
  | .int i => .int i
  | .str s => .str s
/-- targets: a slot; several -/
inductive Tg where
  | nm (i : Nat)
  | tp (is : List Nat)
mutual
inductive Ex where
  | pk (i : Nat)
  | ob (i : Nat)
  | pki (j : Nat) (i : Ex)
  | var (i : Nat)
  | cst (c : Cst)
  | glb (g : Nat) (c : Cst)
  | tup (es : List Ex)
  | lst (es : List Ex)
  | op (m : Fm) (o : Op) (es : List Ex)
  | tst (t : Tx)
  | ite (t : Tx) (a b : Ex)
  | frz (e : Ex)
  | call (f : Nat) (es : List Ex)
  | told (f g : Nat) (es : List Ex)
  | idxF (j : Nat) (i : Ex)
  | lcT (own : List Nat) (tg : Tg) (src : Ex) (t : Tx) (e : Ex)
  | srt (e : Ex)
  | sortK (j : Nat) (e : Ex)
  | lcB (own : List Nat) (x j : Nat) (t : Tx) (e : Ex)
  | mv (j : Nat)
  | mvI (j : Nat) (i : Ex)
  | pop (j : Nat)
  | popAt (j : Nat) (i : Ex)
  | index (j : Nat) (e : Ex)
  | lc (own : List Nat) (tg : Tg) (it : It) (c : Tx) (e : Ex)
inductive It where
  | seq (e : Ex)
  | rng1 (e : Ex)
  | rng2 (a b : Ex)
  | rngD (a b : Ex)
inductive Tx where
  | yes
  | cmp (o : OpC) (es : List Ex)
  | chn (o p : OpC) (es : List Ex) (c : Ex)
  | and (ts : List Tx)
  | or (ts : List Tx)
  | not (t : Tx)
  | tr (es : List Ex)
end
/-- what becomes of a call's value -/
inductive CM where
  | exp | ret
  | asg (i : Nat)
  | asgP (i : Nat) (cs : List Cst)
/-- an item of what a handler gives: a constant, the exception's field -/
inductive HI where
  | cst (c : Cst)
  | fld
inductive HV where
  | one (h : HI)
  | tup (hs : List HI)
/-- except X [as e]: return rt | v = rt: the classes that it takes, the slot of e, the slot of v -/
structure Hd where
  x : Str
  cs : List Xn
  sl : Option Nat
  to : Option Nat
  rt : HV
inductive Stm where
  | act (m : CM)
  | callX (m : CM) (f : Nat) (es : List Ex)
  | tryX (b : List Stm) (hs : List Hd)
  | asg (tg : Tg) (e : Ex)
  | aug (i : Nat) (o : Op) (e : Ex)
  | setI (j : Nat) (i e : Ex)
  | augI (j : Nat) (i : Ex) (o : Op) (e : Ex)
  | exp (e : Ex)
  | app (j : Nat) (e : Ex)
  | ext (j : Nat) (e : Ex)
  | ins (j : Nat) (es : List Ex)
  | appI (j : Nat) (i : Ex) (m : Nat)
  | rem (j : Nat) (e : Ex)
  | ret (e : Ex)
  | retN
  | iff (t : Tx) (a b : List Stm)
  | fr (tg : Tg) (it : It) (fg : List Nat) (b : List Stm)
  | frM (tg : Tg) (j : Nat) (fg : List Nat) (b : List Stm)
  | frT (tg : Tg) (ex : Ex) (fg : List Nat) (b : List Stm)
  | frB (x : Nat) (j : Nat) (fg : List Nat) (b : List Stm)
  | whl (t : Tx) (fg : List Nat) (b : List Stm)
  | bk
  | ct
  | pass
  | rse (c : Xn) (es : List Ex)

/-! ### helpers -/
/-- an argument behind its evaluation: a value; read at the end; the k-th item of a peeked list -/
inductive Ob where
  | v (d : D)
  | r
  | ix (k : Int)
def triv : Ex → Bool
  | .pk _ => true
  | .ob _ => true
  | .cst _ => true
  | .glb _ _ => true
  | .pki _ (.var _) => true
  | _ => false
mutual
/-- no shared list within -/
def clean : D → Bool
  | .lst o xs => !decide (o = .shr) && cleanL xs
  | .tup xs => cleanL xs
  | _ => true
def cleanL : List D → Bool
  | [] => true
  | d :: ds => clean d && cleanL ds
end
/-- the peeked arguments are read behind all others -/
def ftch (Γ : En) (e : Ex) : Ob → Option D
  | .v d => some d
  | .r => match e with
    | .pk i => gt Γ i
    | .ob i => gt Γ i
    | _ => none
  | .ix k => match e with
    | .pki j _ => ((gt Γ j).bind items?).bind fun xs => ixD xs k
    | _ => none
def fetch (Γ : En) : List Ex → List Ob → Option (List D)
  | [], [] => some []
  | e :: es, o :: os => (ftch Γ e o).bind fun d => (fetch Γ es os).map (d :: ·)
  | _, _ => none
/-- .. handed on: the peeked ones by themselves, the observed ones frozen; nc: one of these is not frozen ahead -/
structure Tk where
  ds : List D
  Γ : En
  nc : Bool
/-- the names that are handed on by themselves -/
def pkI : List Ex → List Nat
  | .pk i :: es => i :: pkI es
  | _ :: es => pkI es
  | [] => []
def take (Γ : En) : List Ex → List Ob → Option Tk
  | [], [] => some ⟨[], Γ, false⟩
  | .pk i :: es, .r :: os => (gt Γ i).bind fun d => (take (Γ.set i (some .gone)) es os).map fun t => ⟨d :: t.ds, t.Γ, t.nc⟩
  | .ob i :: es, .r :: os => if (pkI es).contains i = true then none else (gt Γ i).bind fun d => (take Γ es os).map fun t => if dup d = true then ⟨d :: t.ds, t.Γ, t.nc⟩ else ⟨frz d :: t.ds, t.Γ, true⟩
  | _ :: es, .v d :: os => (take Γ es os).map fun t => ⟨d :: t.ds, t.Γ, t.nc⟩
  | _, _ => none
/-- .. and laid back -/
def back (Γ : En) : List Ex → List D → En
  | .pk i :: es, d :: ds => back (Γ.set i (some d)) es ds
  | _ :: es, _ :: ds => back Γ es ds
  | _, _ => Γ
def cleanB : List Ex → List D → Bool
  | .pk _ :: es, d :: ds => clean d && cleanB es ds
  | _ :: es, _ :: ds => cleanB es ds
  | _, _ => true
def F.r (es : List Ex) (t : Tk) : F → R D
  | .ok d fs => if (!t.nc || (clean d && cleanB es fs)) = true then .ok d (back t.Γ es fs) else .bad
  | .ex c ds fs => if (!t.nc || (cleanL ds && cleanB es fs)) = true then .ex c ds (back t.Γ es fs) else .bad
  | .bad => .bad
def alls : List Ob → Option (List D)
  | [] => some []
  | .v d :: os => (alls os).map (d :: ·)
  | _ => none
def optR {α : Type} (Γ : En) : Option α → R α
  | some a => .ok a Γ
  | none => .bad
def setG (Γ : En) : Tg → D → Option En
  | .nm i, d => some (Γ.set i (some d))
  | .tp is, d => (items? d).bind fun ds => if is.length = ds.length then some ((is.zip ds).foldl (fun Γ p => Γ.set p.1 (some p.2)) Γ) else none
def wipeE (Γ : En) : List Nat → En
  | [] => Γ
  | i :: is => (wipeE Γ is).set i none
/-- the slots is as in Γ0 -/
def keepE (Γ0 Γ : En) : List Nat → En
  | [] => Γ
  | i :: is => (keepE Γ0 Γ is).set i (Γ0[i]?.getD none)
/-- the items that a loop walks -/
def walk? : D → Option (List D)
  | .lst .shr xs => some xs
  | .lst _ xs => some (frzL xs)
  | .tup xs => some (if dupL xs = true then xs else frzL xs)
  | _ => none
/-- the list at a peeked name is lent while it is walked -/
def lendE (Γ : En) : Ex → En
  | .pk j => match gt Γ j with
    | some (.lst .shr _) => Γ
    | some (.lst _ xs) => Γ.set j (some (.lst .lent (frzL xs)))
    | some (.tup xs) => if dupL xs = true then Γ else Γ.set j (some (.tup (frzL xs)))
    | _ => Γ
  | _ => Γ
def unlendE (Γ0 Γ : En) : Ex → En
  | .pk j => match gt Γ0 j, gt Γ j with
    | some (.lst .own _), some (.lst .lent ys) => Γ.set j (some (.lst .own ys))
    | _, _ => Γ
  | _ => Γ
def lendI (Γ : En) : It → En
  | .seq e => lendE Γ e
  | _ => Γ
def unlendI (Γ0 Γ : En) : It → En
  | .seq e => unlendE Γ0 Γ e
  | _ => Γ
def loopC (f : D → En → R (Option D)) : List D → En → R (List D)
  | [], Γ => .ok [] Γ
  | x :: xs, Γ => (f x Γ).bind fun o Γ1 => (loopC f xs Γ1).bind fun ys Γ2 => .ok (match o with
    | some y => y :: ys
    | none => ys) Γ2
def loopS (f : D → En → S) : List D → En → S
  | [], Γ => .nx Γ
  | x :: xs, Γ => match f x Γ with
    | .nx Γ1 => loopS f xs Γ1
    | .ct Γ1 => loopS f xs Γ1
    | .bk Γ1 => .nx Γ1
    | .rt d Γ1 => .rt d Γ1
    | .ex c ds Γ1 => .ex c ds Γ1
    | .bad => .bad
def loopW (t : En → R Bool) (f : En → S) : Nat → En → S
  | 0, _ => .bad
  | n + 1, Γ => match t Γ with
    | .ok true Γ1 => match f Γ1 with
      | .nx Γ2 => loopW t f n Γ2
      | .ct Γ2 => loopW t f n Γ2
      | .bk Γ2 => .nx Γ2
      | .rt d Γ2 => .rt d Γ2
      | .ex c ds Γ2 => .ex c ds Γ2
      | .bad => .bad
    | .ok false Γ1 => .nx Γ1
    | .ex _ _ _ => .bad
    | .bad => .bad
def fgS (fg : List Nat) : S → S
  | .nx Γ => .nx (wipeE Γ fg)
  | .ct Γ => .ct (wipeE Γ fg)
  | .bk Γ => .bk (wipeE Γ fg)
  | s => s
def mapS (g : En → En) : S → S
  | .nx Γ => .nx (g Γ)
  | .ct Γ => .ct (g Γ)
  | .bk Γ => .bk (g Γ)
  | .rt d Γ => .rt d (g Γ)
  | .ex c ds Γ => .ex c ds (g Γ)
  | .bad => .bad
def mapR {α : Type} (g : En → En) : R α → R α
  | .ok a Γ => .ok a (g Γ)
  | .ex c ds Γ => .ex c ds (g Γ)
  | .bad => .bad

/-! ### the evaluator -/
/-! its steps, each by a name: so the recursion itself stays small -/
def kVar (i : Nat) (Γ : En) : R D := match gt Γ i with
  | some d => if dup d = true then .ok d Γ else .ok (frz d) (Γ.set i (some (frz d)))
  | none => .bad
def kTup (r : R (List Ob)) : R D := r.bind fun os Γ1 => optR Γ1 ((alls os).map .tup)
def kLst (r : R (List Ob)) : R D := r.bind fun os Γ1 => optR Γ1 ((alls os).map (.lst .own))
def kOp (o : Op) (es : List Ex) (r : R (List Ob)) : R D := r.bind fun os Γ1 => optR Γ1 ((fetch Γ1 es os).bind (opF o))
def kTst (r : R Bool) : R D := r.bind fun b Γ1 => .ok (.bl b) Γ1
def kIte (r : R Bool) (a b : En → R D) : R D := r.bind fun c Γ1 => if c = true then a Γ1 else b Γ1
def kFrz (r : R D) : R D := r.bind fun d Γ1 => .ok (frz d) Γ1
def kCall (cf : CF) (f : Nat) (es : List Ex) (r : R (List Ob)) : R D := r.bind fun os Γ1 => match take Γ1 es os with
  | some t => (cf f t.ds).r es t
  | none => .bad
/-- x(lambda: g(..)): what the lambda's call gives goes to the def x -/
def kToldO (cf : CF) (f : Nat) (es : List Ex) (t : Tk) : F → R D
  | .ok d fs => if (!t.nc || (clean d && cleanB es fs)) = true then (match cf f [.tup [d]] with
      | .ok d2 _ => .ok d2 (back t.Γ es fs)
      | _ => .bad) else .bad
  | .ex c [d] fs => if ((!t.nc || cleanB es fs) && flat d) = true then (match cf f [.tup [.str c.x, .str c.fn, d]] with
      | .ok d2 _ => .ok d2 (back t.Γ es fs)
      | _ => .bad) else .bad
  | _ => .bad
def kTold (cf : CF) (f g : Nat) (es : List Ex) (r : R (List Ob)) : R D := r.bind fun os Γ1 => match take Γ1 es os with
  | some t => kToldO cf f es t (cf g t.ds)
  | none => .bad
def kIdxF (j : Nat) (r : R D) (Γ : En) : R D := if (gt Γ j).isSome = true then r.bind fun k Γ1 => match k, gt Γ1 j with
    | .int k, some (.lst o xs) => match ixD xs k with
      | some d => if dup d = true then .ok d Γ1 else .ok (frz d) (Γ1.set j (some (.lst o (frzL xs))))
      | none => .bad
    | .int k, some (.tup xs) => match ixD xs k with
      | some d => if dup d = true then .ok d Γ1 else .ok (frz d) (Γ1.set j (some (.tup (frzL xs))))
      | none => .bad
    | _, _ => .bad
    else .bad
/-- a slot's datum, moved out -/
def kMv (j : Nat) (Γ : En) : R D := match gt Γ j with
    | some d => .ok d (Γ.set j none)
    | none => .bad
/-- an item, moved out -/
def kMvI (j : Nat) (r : R D) (Γ : En) : R D := if (gt Γ j).isSome = true then r.bind fun k Γ1 => match k, gt Γ1 j with
    | .int k, some (.lst .own xs) => if 0 ≤ k then match xs[k.toNat]? with
      | some d => .ok d (Γ1.set j (some (.lst .own (xs.set k.toNat .gone))))
      | none => .bad
      else .bad
    | .int k, some (.tup xs) => if 0 ≤ k then match xs[k.toNat]? with
      | some d => .ok d (Γ1.set j (some (.tup (xs.set k.toNat .gone))))
      | none => .bad
      else .bad
    | _, _ => .bad
    else .bad
def kPop (j : Nat) (Γ : En) : R D := match gt Γ j with
    | some (.lst .own xs) => match xs.getLast? with
      | some d => .ok d (Γ.set j (some (.lst .own xs.dropLast)))
      | none => .bad
    | _ => .bad
def kPopAt (j : Nat) (r : R D) (Γ : En) : R D := if isL Γ j = true then r.bind fun k Γ1 => match k, gt Γ1 j with
    | .int k, some (.lst .own xs) => if 0 ≤ k ∧ k ≤ 1000000 then match xs[k.toNat]? with
      | some d => .ok d (Γ1.set j (some (.lst .own (xs.eraseIdx k.toNat))))
      | none => .bad
      else .bad
    | _, _ => .bad
    else .bad
def kIndex (j : Nat) (r : R D) (Γ : En) : R D := if isL Γ j = true then r.bind fun d Γ1 => optR Γ1 ((gt Γ1 j).bind fun c => indexF c d) else .bad
def kLc (own : List Nat) (tg : Tg) (it : It) (t : En → R Bool) (e : En → R D) (r : R (List D)) : R D := r.bind fun xs Γ1 =>
      match loopC (fun x Γ3 => match setG (wipeE Γ3 own) tg x with
        | some Γ4 => (t Γ4).bind fun b Γ5 => if b = true then (e Γ5).bind fun y Γ6 => .ok (some y) (wipeE Γ6 own) else .ok none (wipeE Γ5 own)
        | none => .bad) xs (wipeE (lendI Γ1 it) own) with
      | .ok ys Γ9 => if ys.length ≤ line then .ok (.lst .own ys) (unlendI Γ1 Γ9 it) else .bad
      | _ => .bad
/-- over a list just made, its items moved out -/
def kLcT (own : List Nat) (tg : Tg) (t : En → R Bool) (e : En → R D) (r : R D) : R D := r.bind fun d Γ1 => match d with
  | .lst .own xs => match loopC (fun x Γ3 => match setG (wipeE Γ3 own) tg x with
        | some Γ4 => (t Γ4).bind fun b Γ5 => if b = true then (e Γ5).bind fun y Γ6 => .ok (some y) (wipeE Γ6 own) else .ok none (wipeE Γ5 own)
        | none => .bad) xs (wipeE Γ1 own) with
    | .ok ys Γ9 => if ys.length ≤ line then .ok (.lst .own ys) Γ9 else .bad
    | _ => .bad
  | _ => .bad
/-- sorted(.., key=lambda x: (-ns[x], x)) -/
def kOf (ns : List Int) (i : Int) : Int := -(ns.getD i.toNat 0)
def leK (ns : List Int) (p q : Int) : Bool := decide (kOf ns p < kOf ns q ∨ (kOf ns p = kOf ns q ∧ p ≤ q))
def insK (ns : List Int) (x : Int) : List Int → List Int
  | [] => [x]
  | y :: ys => if leK ns x y = true then x :: y :: ys else y :: insK ns x ys
def sortK (ns : List Int) : List Int → List Int
  | [] => []
  | x :: xs => insK ns x (sortK ns xs)
def kSortK (j : Nat) (r : R D) : R D := r.bind fun d Γ1 => match d, gt Γ1 j with
  | .lst .own xs, some (.lst _ ns) => (match ints? xs, ints? ns with
    | some xs, some ns => if (xs.all fun i => decide (0 ≤ i) && decide (i < ns.length)) = true then .ok (.lst .own ((sortK ns xs).map .int)) Γ1 else .bad
    | _, _ => .bad)
  | _, _ => .bad
/-- rows of ints of one's own -/
def rowO (r : List Int) : D := .lst .own (r.map .int)
def orows? : List D → Option (List (List Int))
  | [] => some []
  | .lst .own ys :: ds => (ints? ys).bind fun r => (orows? ds).map (r :: ·)
  | _ => none
/-- sorted(..) of a list just made, its rows moved -/
def kSrt (r : R D) : R D := r.bind fun d Γ1 => match d with
  | .lst .own xs => match orows? xs with
    | some rs => .ok (.lst .own ((sortRows rs).map rowO)) Γ1
    | none => .bad
  | _ => .bad
def tkX (Γ : En) (x : Nat) : D := (gt Γ x).getD .gone
def finLB (Γ : En) (j : Nat) (ys acc : List D) : R D := match gt Γ j with
  | some (.lst .lent _) => .ok (.lst .own acc) (Γ.set j (some (.lst .own ys)))
  | _ => .bad
/-- a comprehension over an own local, each item moved out and laid back -/
def loopLB (own : List Nat) (x j : Nat) (t : En → R Bool) (e : En → R D) : List D → List D → List D → En → R D
  | [], ys, acc, Γ => finLB Γ j ys acc
  | d :: ds, ys, acc, Γ => match t (Γ.set x (some d)) with
    | .ok true Γ5 => match e Γ5 with
      | .ok y Γ6 => if acc.length < line then loopLB own x j t e ds (ys ++ [tkX Γ6 x]) (acc ++ [y]) (wipeE Γ6 own) else .bad
      | _ => .bad
    | .ok false Γ5 => loopLB own x j t e ds (ys ++ [tkX Γ5 x]) acc (wipeE Γ5 own)
    | _ => .bad
def kLcB (own : List Nat) (x j : Nat) (t : En → R Bool) (e : En → R D) (Γ : En) : R D := match gt Γ j with
  | some (.lst .own xs) => loopLB own x j t e xs [] [] (wipeE (Γ.set j (some (.lst .lent (xs.map fun _ => D.gone)))) own)
  | _ => .bad
def kPk (i : Nat) (r : R (List Ob)) (Γ : En) : R (List Ob) := if (gt Γ i).isSome = true then r.bind fun os Γ1 => .ok (.r :: os) Γ1 else .bad
def kPki (j : Nat) (es : List Ex) (r : R D) (n : En → R (List Ob)) (Γ : En) : R (List Ob) := if (gt Γ j).isSome = true then r.bind fun d Γ1 => match d with
    | .int k => if (es.all triv && (((gt Γ1 j).bind items?).bind fun xs => ixD xs k).isSome) = true then (n Γ1).bind fun os Γ2 => .ok (.ix k :: os) Γ2 else .bad
    | _ => .bad
    else .bad
def kArg (r : R D) (n : En → R (List Ob)) : R (List Ob) := r.bind fun d Γ1 => (n Γ1).bind fun os Γ2 => .ok (.v d :: os) Γ2
def kSeq (r : R D) : R (List D) := r.bind fun d Γ1 => optR Γ1 (walk? d)
def kRng1 (r : R D) : R (List D) := r.bind fun d Γ1 => match d with
    | .int j => if okRg j = true then .ok (rangeL 0 j) Γ1 else .bad
    | _ => .bad
def kRng2 (r : R D) (n : En → R D) : R (List D) := r.bind fun d Γ1 => (n Γ1).bind fun e Γ2 => match d, e with
    | .int i, .int j => if (okRg i && okRg j) = true then .ok (rangeL i j) Γ2 else .bad
    | _, _ => .bad
def kRngD (r : R D) (n : En → R D) : R (List D) := r.bind fun d Γ1 => (n Γ1).bind fun e Γ2 => match d, e with
    | .int i, .int j => if (okRg i && okRg j) = true then .ok (rangeD i j) Γ2 else .bad
    | _, _ => .bad
def kCmp (o : OpC) (es : List Ex) (r : R (List Ob)) : R Bool := r.bind fun os Γ1 => match fetch Γ1 es os with
    | some [d, e] => optR Γ1 (cmpF o d e)
    | _ => .bad
def kChn (o p : OpC) (es : List Ex) (c : En → R D) (r : R (List Ob)) : R Bool := r.bind fun os Γ1 => match fetch Γ1 es os with
    | some [d, e] => if flat e = true then (optR Γ1 (cmpF o d e)).bind fun k Γ2 => if k = true then (c Γ2).bind fun g Γ3 => optR Γ3 (cmpF p e g) else .ok false Γ2 else .bad
    | _ => .bad
def kNot (r : R Bool) : R Bool := r.bind fun b Γ1 => .ok (!b) Γ1
def kTr (es : List Ex) (r : R (List Ob)) : R Bool := r.bind fun os Γ1 => match fetch Γ1 es os with
    | some [d] => optR Γ1 (truF d)
    | _ => .bad
def kTrB (es : List Ex) (r : R (List Ob)) : R Bool := r.bind fun os Γ1 => match fetch Γ1 es os with
    | some [.bl b] => .ok b Γ1
    | _ => .bad
def kAnd (r : R Bool) (n : En → R Bool) : R Bool := r.bind fun b Γ1 => if b = true then n Γ1 else .ok false Γ1
def kOr (r : R Bool) (n : En → R Bool) : R Bool := r.bind fun b Γ1 => if b = true then .ok true Γ1 else n Γ1
mutual
def evE (cf : CF) : Ex → En → R D
  | .pk _, _ => .bad
  | .ob _, _ => .bad
  | .pki _ _, _ => .bad
  | .var i, Γ => kVar i Γ
  | .cst c, Γ => .ok c.d Γ
  | .glb _ c, Γ => .ok c.d Γ
  | .tup es, Γ => kTup (evAs cf es Γ)
  | .lst es, Γ => kLst (evAs cf es Γ)
  | .op _ o es, Γ => kOp o es (evAs cf es Γ)
  | .tst t, Γ => kTst (evB cf t Γ)
  | .ite t a b, Γ => kIte (evT cf t Γ) (evE cf a) (evE cf b)
  | .frz e, Γ => kFrz (evE cf e Γ)
  | .call f es, Γ => kCall cf f es (evAs cf es Γ)
  | .told f g es, Γ => kTold cf f g es (evAs cf es Γ)
  | .idxF j i, Γ => kIdxF j (evE cf i Γ) Γ
  | .mv j, Γ => kMv j Γ
  | .mvI j i, Γ => kMvI j (evE cf i Γ) Γ
  | .pop j, Γ => kPop j Γ
  | .popAt j i, Γ => kPopAt j (evE cf i Γ) Γ
  | .index j e, Γ => kIndex j (evE cf e Γ) Γ
  | .lc own tg it c e, Γ => kLc own tg it (evT cf c) (evE cf e) (evI cf it Γ)
  | .lcT own tg s c e, Γ => kLcT own tg (evT cf c) (evE cf e) (evE cf s Γ)
  | .srt e, Γ => kSrt (evE cf e Γ)
  | .sortK j e, Γ => kSortK j (evE cf e Γ)
  | .lcB own x j c e, Γ => kLcB own x j (evT cf c) (evE cf e) Γ
def evAs (cf : CF) : List Ex → En → R (List Ob)
  | [], Γ => .ok [] Γ
  | .pk i :: es, Γ => kPk i (evAs cf es Γ) Γ
  | .ob i :: es, Γ => kPk i (evAs cf es Γ) Γ
  | .pki j i :: es, Γ => kPki j es (evE cf i Γ) (evAs cf es) Γ
  | e :: es, Γ => kArg (evE cf e Γ) (evAs cf es)
def evI (cf : CF) : It → En → R (List D)
  | .seq (.pk j), Γ => optR Γ ((gt Γ j).bind walk?)
  | .seq e, Γ => kSeq (evE cf e Γ)
  | .rng1 a, Γ => kRng1 (evE cf a Γ)
  | .rng2 a b, Γ => kRng2 (evE cf a Γ) (evE cf b)
  | .rngD a b, Γ => kRngD (evE cf a Γ) (evE cf b)
def evT (cf : CF) : Tx → En → R Bool
  | .yes, Γ => .ok true Γ
  | .cmp o es, Γ => kCmp o es (evAs cf es Γ)
  | .chn o p es c, Γ => kChn o p es (evE cf c) (evAs cf es Γ)
  | .and ts, Γ => evAnd cf ts Γ
  | .or ts, Γ => evOr cf ts Γ
  | .not t, Γ => kNot (evT cf t Γ)
  | .tr es, Γ => kTr es (evAs cf es Γ)
def evAnd (cf : CF) : List Tx → En → R Bool
  | [], Γ => .ok true Γ
  | t :: ts, Γ => kAnd (evT cf t Γ) (evAnd cf ts)
def evOr (cf : CF) : List Tx → En → R Bool
  | [], Γ => .ok false Γ
  | t :: ts, Γ => kOr (evT cf t Γ) (evOr cf ts)
def evB (cf : CF) : Tx → En → R Bool
  | .yes, _ => .bad
  | .cmp o es, Γ => kCmp o es (evAs cf es Γ)
  | .chn o p es c, Γ => kChn o p es (evE cf c) (evAs cf es Γ)
  | .and ts, Γ => evAndB cf ts Γ
  | .or ts, Γ => evOrB cf ts Γ
  | .not t, Γ => kNot (evB cf t Γ)
  | .tr es, Γ => kTrB es (evAs cf es Γ)
def evAndB (cf : CF) : List Tx → En → R Bool
  | [], _ => .bad
  | [t], Γ => evB cf t Γ
  | t :: t2 :: ts, Γ => kAnd (evB cf t Γ) (evAndB cf (t2 :: ts))
def evOrB (cf : CF) : List Tx → En → R Bool
  | [], _ => .bad
  | [t], Γ => evB cf t Γ
  | t :: t2 :: ts, Γ => kOr (evB cf t Γ) (evOrB cf (t2 :: ts))
end
/-- turns of a while -/
def wfuel : Nat := 1000000
def kAsg (tg : Tg) (r : R D) : S := r.s fun d Γ1 => match setG Γ1 tg d with
    | some Γ2 => .nx Γ2
    | none => .bad
def kAug (i : Nat) (o : Op) (r : R D) (Γ : En) : S := match gt Γ i with
    | some (.int a) => r.s fun d Γ1 => match d with
      | .int b => match opF o [.int a, .int b] with
        | some v => .nx (Γ1.set i (some v))
        | none => .bad
      | _ => .bad
    | _ => .bad
def kSetI (j : Nat) (r : R D) (n : En → R D) : S := r.s fun d Γ1 => if isL Γ1 j = true then (n Γ1).s fun k Γ2 => match k, gt Γ2 j with
    | .int k, some (.lst .own xs) => if 0 ≤ k ∧ k < xs.length then .nx (Γ2.set j (some (.lst .own (xs.set k.toNat d)))) else .bad
    | _, _ => .bad
    else .bad
def kAugI (j : Nat) (o : Op) (r : R D) (n : En → R D) (Γ : En) : S := if isL Γ j = true then r.s fun k Γ1 => match k, gt Γ1 j with
    | .int k, some (.lst .own xs) => if 0 ≤ k ∧ k < xs.length then match xs[k.toNat]? with
      | some (.int c) => (n Γ1).s fun d Γ2 => match d with
        | .int b => match opF o [.int c, .int b], gt Γ2 j with
          | some v, some (.lst .own ys) => if k < ys.length then .nx (Γ2.set j (some (.lst .own (ys.set k.toNat v)))) else .bad
          | _, _ => .bad
        | _ => .bad
      | _ => .bad
      else .bad
    | _, _ => .bad
    else .bad
def kExp (r : R D) : S := r.s fun _ Γ1 => .nx Γ1
def kApp (j : Nat) (r : R D) (Γ : En) : S := if isL Γ j = true then r.s fun d Γ1 => match gt Γ1 j with
    | some (.lst .own xs) => if xs.length < line then .nx (Γ1.set j (some (.lst .own (xs ++ [d])))) else .bad
    | _ => .bad
    else .bad
def kExt (j : Nat) (r : R D) (Γ : En) : S := if isL Γ j = true then r.s fun d Γ1 => match d, gt Γ1 j with
    | .lst .own ys, some (.lst .own xs) => if xs.length + ys.length ≤ line then .nx (Γ1.set j (some (.lst .own (xs ++ ys)))) else .bad
    | _, _ => .bad
    else .bad
def insE (Γ : En) (j : Nat) : Option (List D) → Option D → S
  | some [.int i, d], some (.lst .own xs) => if 0 ≤ i ∧ i ≤ xs.length ∧ xs.length < line then .nx (Γ.set j (some (.lst .own (xs.take i.toNat ++ [d] ++ xs.drop i.toNat)))) else .bad
  | _, _ => .bad
def kIns (j : Nat) (r : R (List Ob)) (Γ : En) : S := if isL Γ j = true then r.s fun os Γ1 => insE Γ1 j (alls os) (gt Γ1 j) else .bad
def remE (Γ : En) (j : Nat) : D → Option D → S
  | .int k, some (.lst .own xs) => match ints? xs with
    | some ns => if k ∈ ns then .nx (Γ.set j (some (.lst .own ((ns.erase k).map .int)))) else .bad
    | none => .bad
  | _, _ => .bad
def kRem (j : Nat) (r : R D) (Γ : En) : S := if isL Γ j = true then r.s fun d Γ1 => remE Γ1 j d (gt Γ1 j) else .bad
def kAppI (j m : Nat) (r : R D) (Γ : En) : S := if isL Γ j = true then r.s fun k Γ1 => match k, gt Γ1 j, gt Γ1 m with
    | .int k, some (.lst .own xs), some d => if 0 ≤ k ∧ k < xs.length ∧ m ≠ j ∧ dup d = true then match xs[k.toNat]? with
      | some (.lst .own ys) => if ys.length < line then .nx (Γ1.set j (some (.lst .own (xs.set k.toNat (.lst .own (ys ++ [d])))))) else .bad
      | _ => .bad
      else .bad
    | _, _, _ => .bad
    else .bad
def kRet (r : R D) : S := r.s fun d Γ1 => .rt d Γ1
def kIff (r : R Bool) (a b : En → S) : S := r.s fun c Γ1 => if c = true then a Γ1 else b Γ1
def kFr (tg : Tg) (it : It) (fg : List Nat) (b : En → S) (r : R (List D)) : S := r.s fun xs Γ1 =>
      mapS (fun Γ9 => unlendI Γ1 Γ9 it) (loopS (fun x Γ2 => match setG Γ2 tg x with
          | some Γ3 => fgS fg (b Γ3)
          | none => .bad) xs (wipeE (lendI Γ1 it) fg))
/-- the items of an own list, moved out one by one -/
def kFrM (tg : Tg) (j : Nat) (fg : List Nat) (b : En → S) (Γ : En) : S := match gt Γ j with
  | some (.lst .own xs) => mapS (fun Γ9 => unlendE Γ Γ9 (.pk j)) (loopS (fun x Γ2 => match setG Γ2 tg x with
      | some Γ3 => fgS fg (b Γ3)
      | none => .bad) xs (wipeE (Γ.set j (some (.lst .lent (xs.map fun _ => D.gone)))) fg))
  | _ => .bad
/-- the items of a list just made, moved out one by one -/
def kFrT (tg : Tg) (fg : List Nat) (b : En → S) (r : R D) : S := r.s fun d Γ1 => match d with
  | .lst .own xs => loopS (fun x Γ2 => match setG Γ2 tg x with
      | some Γ3 => fgS fg (b Γ3)
      | none => .bad) xs (wipeE Γ1 fg)
  | _ => .bad
/-- the items of an own list, each moved out and laid back -/
def finB (Γ : En) (j : Nat) (ys : List D) (f : En → S) : S := match gt Γ j with
  | some (.lst .lent _) => f (Γ.set j (some (.lst .own ys)))
  | _ => .bad
def loopB (x j : Nat) (fg : List Nat) (b : En → S) : List D → List D → En → S
  | [], ys, Γ => finB Γ j ys .nx
  | d :: ds, ys, Γ => match b (Γ.set x (some d)) with
    | .nx Γ1 => loopB x j fg b ds (ys ++ [tkX Γ1 x]) (wipeE (Γ1.set x none) fg)
    | .ct Γ1 => loopB x j fg b ds (ys ++ [tkX Γ1 x]) (wipeE (Γ1.set x none) fg)
    | .bk Γ1 => finB (wipeE (Γ1.set x none) fg) j (ys ++ tkX Γ1 x :: ds) .nx
    | .rt r Γ1 => finB (Γ1.set x none) j (ys ++ tkX Γ1 x :: ds) (.rt r)
    | .ex c e Γ1 => finB (Γ1.set x none) j (ys ++ tkX Γ1 x :: ds) (.ex c e)
    | .bad => .bad
def kFrB (x j : Nat) (fg : List Nat) (b : En → S) (Γ : En) : S := match gt Γ j with
  | some (.lst .own xs) => loopB x j fg b xs [] (wipeE (Γ.set j (some (.lst .lent (xs.map fun _ => D.gone)))) fg)
  | _ => .bad
def kWhl (fg : List Nat) (t : En → R Bool) (b : En → S) (Γ : En) : S := loopW (fun Γ1 => t Γ1) (fun Γ1 => fgS fg (b Γ1)) wfuel (wipeE Γ fg)
def kCM (m : CM) (d : D) (Γ : En) : S := match m with
  | .exp => .nx Γ
  | .ret => .rt d Γ
  | .asg i => .nx (Γ.set i (some d))
  | .asgP i cs => .nx (Γ.set i (some (.tup (cs.map Cst.d ++ [d]))))
def kCallE (m : CM) : R D → S
  | .ok d Γ => kCM m d Γ
  | .ex c ds Γ => .ex c ds Γ
  | .bad => .bad
def kCallX (cf : CF) (m : CM) (f : Nat) (es : List Ex) (r : R (List Ob)) : S := r.s fun os Γ1 => match take Γ1 es os with
  | some t => kCallE m ((cf f t.ds).r es t)
  | none => .bad
def kAct (m : CM) (Γ : En) : F → S
  | .ok d _ => kCM m d Γ
  | .ex c ds _ => .ex c ds Γ
  | .bad => .bad
def kRse (c : Xn) (r : R (List Ob)) : S := r.s fun os Γ1 => match alls os with
  | some [d] => if flat d = true then .ex c [d] Γ1 else .bad
  | _ => .bad
def HI.d (d : D) : HI → D
  | .cst c => c.d
  | .fld => d
def HV.d (d : D) : HV → D
  | .one h => h.d d
  | .tup hs => .tup (hs.map (HI.d d))
def Xn.is (c e : Xn) : Bool := decide (c.x = e.x) && decide (c.fn = e.fn)
def wipe1 (Γ : En) : Option Nat → En
  | none => Γ
  | some i => Γ.set i none
def inE (Γ : En) : Option Nat → Bool
  | none => true
  | some i => decide (i < Γ.length)
def kHd (h : Hd) (d : D) (Γ : En) : S := if inE Γ h.sl = true then (match h.to with
  | none => .rt (h.rt.d d) (wipe1 Γ h.sl)
  | some i => .nx ((wipe1 Γ h.sl).set i (some (h.rt.d d)))) else .bad
def kHds (c : Xn) (d : D) (Γ : En) : List Hd → S
  | [] => .bad
  | h :: hs => if h.cs.any c.is = true then kHd h d Γ else kHds c d Γ hs
def kTry (hs : List Hd) : S → S
  | .ex c [d] Γ => if flat d = true then kHds c d Γ hs else .bad
  | .ex _ _ _ => .bad
  | s => s
mutual
def exS (cf : CF) : Stm → En → S
  | .act m, Γ => kAct m Γ (cf 0 [])
  | .callX m f es, Γ => kCallX cf m f es (evAs cf es Γ)
  | .tryX b hs, Γ => kTry hs (exSs cf b Γ)
  | .asg tg e, Γ => kAsg tg (evE cf e Γ)
  | .aug i o e, Γ => kAug i o (evE cf e Γ) Γ
  | .setI j i e, Γ => kSetI j (evE cf e Γ) (evE cf i)
  | .augI j i o e, Γ => kAugI j o (evE cf i Γ) (evE cf e) Γ
  | .exp e, Γ => kExp (evE cf e Γ)
  | .app j e, Γ => kApp j (evE cf e Γ) Γ
  | .ext j e, Γ => kExt j (evE cf e Γ) Γ
  | .ins j es, Γ => kIns j (evAs cf es Γ) Γ
  | .appI j i m, Γ => kAppI j m (evE cf i Γ) Γ
  | .rem j e, Γ => kRem j (evE cf e Γ) Γ
  | .ret e, Γ => kRet (evE cf e Γ)
  | .retN, Γ => .rt .non Γ
  | .iff t a b, Γ => kIff (evT cf t Γ) (exSs cf a) (exSs cf b)
  | .fr tg it fg b, Γ => kFr tg it fg (exSs cf b) (evI cf it Γ)
  | .frM tg j fg b, Γ => kFrM tg j fg (exSs cf b) Γ
  | .frB x j fg b, Γ => kFrB x j fg (exSs cf b) Γ
  | .frT tg ex fg b, Γ => kFrT tg fg (exSs cf b) (evE cf ex Γ)
  | .whl t fg b, Γ => kWhl fg (evT cf t) (exSs cf b) Γ
  | .bk, Γ => .bk Γ
  | .ct, Γ => .ct Γ
  | .pass, Γ => .nx Γ
  | .rse c es, Γ => kRse c (evAs cf es Γ)
def exSs (cf : CF) : List Stm → En → S
  | [], Γ => .nx Γ
  | s :: ss, Γ => (exS cf s Γ).seq fun Γ1 => exSs cf ss Γ1
end

/-- a def; one that calls what it got; an end given ahead -/
inductive Kd where
  | plain | told
  | out (o : F)
def Kd.isPlain : Kd → Bool
  | .plain => true
  | _ => false
def Kd.isTold : Kd → Bool
  | .told => true
  | _ => false
/-- a def: how many parameters, which are not stored anew, how many slots, the body, its kind -/
structure Def where
  np : Nat
  io : List Bool
  ns : Nat
  body : List Stm
  kd : Kd
def finL : List Bool → En → List D
  | [], _ => []
  | b :: bs, Γ => (if b = true then (match Γ with
    | some d :: _ => d
    | _ => .gone) else .gone) :: finL bs Γ.tail
def enter (p : Def) (ds : List D) : En := ds.map some ++ List.replicate (p.ns - ds.length) none
def leave (p : Def) : S → F
  | .nx Γ => .ok .non (finL p.io Γ)
  | .rt d Γ => .ok d (finL p.io Γ)
  | .ex c ds Γ => .ex c ds (finL p.io Γ)
  | _ => .bad
/-- every call ends so -/
def cfP (o : F) : CF := fun _ ds => if ds.length = 0 then o else .bad
/-- the def got what a call gave: a value, an exception -/
def toldRun (p : Def) : List D → F
  | [.tup [d]] => leave p (exSs (cfP (.ok d [])) p.body (List.replicate p.ns none))
  | [.tup [.str x, .str fn, d]] => leave p (exSs (cfP (.ex ⟨x, fn⟩ [d] [])) p.body (List.replicate p.ns none))
  | _ => .bad
def runK (p : Def) (o : F) (ds : List D) : F := match p.kd with
  | .plain => o
  | .told => toldRun p ds
  | .out o => o
def run (T : Nat → Option Def) : Nat → CF
  | 0, _, _ => .bad
  | k + 1, f, ds => match T f with
    | some p => if ds.length = p.np then runK p (leave p (exSs (run T k) p.body (enter p ds))) ds else .bad
    | none => .bad
end VE

end
section
set_option maxHeartbeats 2000000
/-! VSort: lists of ints in their order; sorted of lists of lists of ints. -/
namespace VE
open PySem PySem.Spec PyProof.Rows L2 Srt

/-! ### the order -/
theorem ltR_nil_r (x : List Int) : ltR x [] = false := by cases x <;> rfl
theorem ltR_cons (x y : Int) (xs ys : List Int) : ltR (x :: xs) (y :: ys) = if x = y then ltR xs ys else decide (x < y) := rfl
theorem ltR_asym : ∀ x y : List Int, ltR x y = true → ltR y x = false
  | _, [], h => by rw [ltR_nil_r] at h; cases h
  | [], _ :: _, _ => rfl
  | x :: xs, y :: ys, h => by
    rw [ltR_cons] at h ⊢
    by_cases e : x = y
    · rw [if_pos e] at h
      rw [if_pos e.symm]
      exact ltR_asym xs ys h
    · rw [if_neg e, decide_eq_true_eq] at h
      rw [if_neg (Ne.symm e), decide_eq_false_iff_not]
      omega
theorem ltR_tr : ∀ x y z : List Int, ltR y x = false → ltR z y = false → ltR z x = false
  | [], y, z, _, _ => ltR_nil_r z
  | x :: xs, [], z, h, _ => by cases h
  | x :: xs, y :: ys, [], h, h2 => by cases h2
  | x :: xs, y :: ys, z :: zs, h1, h2 => by
    rw [ltR_cons] at h1 h2 ⊢
    by_cases e1 : y = x
    · subst e1
      rw [if_pos rfl] at h1
      by_cases e2 : z = y
      · subst e2
        rw [if_pos rfl] at h2 ⊢
        exact ltR_tr xs ys zs h1 h2
      · rw [if_neg e2] at h2 ⊢
        exact h2
    · rw [if_neg e1, decide_eq_false_iff_not] at h1
      by_cases e2 : z = y
      · subst e2
        rw [if_neg e1, decide_eq_false_iff_not]
        exact h1
      · rw [if_neg e2, decide_eq_false_iff_not] at h2
        rw [if_neg (by omega), decide_eq_false_iff_not]
        omega
theorem ltR_eq : ∀ x y : List Int, ltR x y = false → ltR y x = false → x = y
  | [], [], _, _ => rfl
  | [], _ :: _, h, _ => by cases h
  | _ :: _, [], _, h => by cases h
  | x :: xs, y :: ys, h1, h2 => by
    rw [ltR_cons] at h1 h2
    by_cases e : x = y
    · rw [if_pos e] at h1
      rw [if_pos e.symm] at h2
      rw [e, ltR_eq xs ys h1 h2]
    · rw [if_neg e, decide_eq_false_iff_not] at h1
      rw [if_neg (Ne.symm e), decide_eq_false_iff_not] at h2
      omega
abbrev RSrt (l : List (List Int)) : Prop := l.Pairwise fun x y => ltR y x = false
theorem insR_perm (x : List Int) : ∀ l : List (List Int), (insR x l).Perm (x :: l)
  | [] => List.Perm.refl _
  | y :: ys => by
    show (if ltR y x = true then y :: insR x ys else x :: y :: ys).Perm _
    split
    · exact ((insR_perm x ys).cons y).trans (List.Perm.swap x y ys)
    · exact List.Perm.refl _
theorem sortRows_perm : ∀ l : List (List Int), (sortRows l).Perm l
  | [] => List.Perm.refl _
  | x :: xs => (insR_perm x _).trans ((sortRows_perm xs).cons x)
theorem insR_srt (x : List Int) : ∀ l : List (List Int), RSrt l → RSrt (insR x l)
  | [], _ => List.pairwise_singleton _ _
  | y :: ys, h => by
    show RSrt (if ltR y x = true then y :: insR x ys else x :: y :: ys)
    split
    · rename_i e
      refine List.pairwise_cons.mpr ⟨fun z hz => ?_, insR_srt x ys (List.pairwise_cons.mp h).2⟩
      rcases List.mem_cons.mp ((insR_perm x ys).mem_iff.mp hz) with rfl | hz
      · exact ltR_asym _ _ e
      · exact (List.pairwise_cons.mp h).1 z hz
    · rename_i e
      have e : ltR y x = false := by simpa using e
      refine List.pairwise_cons.mpr ⟨fun z hz => ?_, h⟩
      rcases List.mem_cons.mp hz with rfl | hz
      · exact e
      · exact ltR_tr x y z e ((List.pairwise_cons.mp h).1 z hz)
theorem sortRows_srt : ∀ l : List (List Int), RSrt (sortRows l)
  | [] => List.Pairwise.nil
  | x :: xs => insR_srt x _ (sortRows_srt xs)
theorem rows_uniq : ∀ {l m : List (List Int)}, RSrt l → RSrt m → l.Perm m → l = m
  | [], m, _, _, h => (List.Perm.eq_nil h.symm).symm
  | x :: l, [], _, _, h => absurd h.length_eq (by simp)
  | x :: l, y :: m, hl, hm, h => by
    have irr : ∀ z : List Int, ltR z z = false := fun z => by
      cases e : ltR z z with
      | false => rfl
      | true => rw [ltR_asym z z e] at e; cases e
    have h1 : ltR x y = false := by
      rcases List.mem_cons.mp (h.mem_iff.mp (List.mem_cons_self (a := x) (l := l))) with e | hx
      · rw [e]; exact irr y
      · exact (List.pairwise_cons.mp hm).1 x hx
    have h2 : ltR y x = false := by
      rcases List.mem_cons.mp (h.mem_iff.mpr (List.mem_cons_self (a := y) (l := m))) with e | hy
      · rw [e]; exact irr x
      · exact (List.pairwise_cons.mp hl).1 y hy
    have e := ltR_eq x y h1 h2
    subst e
    rw [rows_uniq (List.pairwise_cons.mp hl).2 (List.pairwise_cons.mp hm).2 h.cons_inv]
theorem sortRows_is {a l : List (List Int)} (hp : a.Perm l) (hs : RSrt a) : a = sortRows l := rows_uniq hs (sortRows_srt l) (hp.trans (sortRows_perm l).symm)

/-! ### the machine's order is this one -/
theorem dataLt_rows : ∀ xs ys : List Int, PySem.W.dataLt (.list (xs.map PyData.int)) (.list (ys.map PyData.int)) = ltR xs ys := by
  intro xs ys
  rw [PySem.W.dataLt_list]
  have key : ∀ xs ys : List Int, PyProof.Rows.lexLt PyProof.Rows.itemOrd (PySem.W.keyToksAll (xs.map PyData.int)) (PySem.W.keyToksAll (ys.map PyData.int)) = ltR xs ys := by
    intro xs
    induction xs with
    | nil =>
      intro ys
      cases ys with
      | nil => rfl
      | cons y ys => rfl
    | cons x xs ih =>
      intro ys
      cases ys with
      | nil => rfl
      | cons y ys =>
        rw [List.map_cons, List.map_cons, PySem.W.toks_all_cons, PySem.W.toks_all_cons]
        have s := PyProof.Rows.lex_self (O := PyProof.Rows.itemOrd) (.inl 1) (PySem.W.keyToks (PyData.int x) ++ PySem.W.keyToksAll (xs.map PyData.int)) (PySem.W.keyToks (PyData.int y) ++ PySem.W.keyToksAll (ys.map PyData.int))
        refine s.trans ?_
        rw [ltR_cons]
        by_cases e : x = y
        · subst e
          rw [if_pos rfl, ← ih ys]
          exact PyProof.Rows.lex_self (O := PyProof.Rows.itemOrd) (.inl x) _ _
        · rw [if_neg e]
          have hne : (Sum.inl x : Int ⊕ List Nat) ≠ .inl y := fun h => e (Sum.inl.inj h)
          exact PyProof.Rows.lex_diff (O := PyProof.Rows.itemOrd) hne
  exact key xs ys

theorem dataLt_trows (xs ys : List Int) : PySem.W.dataLt (.tuple (xs.map PyData.int)) (.tuple (ys.map PyData.int)) = ltR xs ys := by
  rw [PySem.W.dataLt_tuple, ← PySem.W.dataLt_list]
  exact dataLt_rows xs ys
/-- a row: a tuple (b), a list -/
def pyR (b : Bool) (xs : List PyData) : PyData := if b = true then .tuple xs else .list xs
/-- x before y: by the lists that k tells -/
abbrev ltK (k : V → List Int) (x y : V) : Bool := ltR (k x) (k y)
theorem swoK {α : Type} (k : α → List Int) : SrtO.Swo fun x y => ltR (k x) (k y) := ⟨fun x y => ltR_asym _ _, fun x y z => ltR_tr _ _ _⟩
def rSortedLL (K : PySem.W.Frag) : List V → Hp → VK → Prop := fun vs H Q => ∃ (b : Bool) (a : Addr) (xs : List V) (k : V → List Int), vs = [V.ref a] ∧ SqL K H a xs ∧ (∀ x ∈ xs, (∃ t, x = V.ref t ∧ Dp K H x (pyR b ((k x).map PyData.int))) ∧ (b = true → k x ≠ [])) ∧
  ∀ ys p, ys.Pairwise (fun x y => ltR (k y) (k x) = false) → ys.Perm xs → H p = none → Q (.ref p) (upd H p (.lst ys))
theorem alike_ints : ∀ xs ys : List Int, PySem.W.alikeAll (xs.map PyData.int) (ys.map PyData.int) = true
  | [], _ => by rw [List.map_nil, PySem.W.alikeAll]
  | _ :: _, [] => by rw [List.map_cons, List.map_nil, PySem.W.alikeAll]
  | x :: xs, y :: ys => by
    rw [List.map_cons, List.map_cons, PySem.W.alikeAll, alike_ints xs ys]
    rfl
theorem depth_ints : ∀ xs : List Int, PyData.depthAll (xs.map PyData.int) = 0
  | [] => rfl
  | x :: xs => by
    show max 0 (PyData.depthAll (xs.map PyData.int)) = 0
    rw [depth_ints xs]
    rfl
section
variable {prog : Program} {w : World} {A : Around} {E : Value → Shared → Prop} {s : Shared}
theorem each_rows {h : Heap} {k : Value → List Int} : ∀ (vs : List Value), (∀ v ∈ vs, ∃ as, PySem.Reads h v (pyR true ((k v).map PyData.int)) as) → PySem.W.EachIs (fun v d => ∃ as, PySem.Reads h v d as) vs (vs.map fun v => .tuple ((k v).map PyData.int))
  | [], _ => .nil
  | v :: vs, r => .cons (r v List.mem_cons_self) (each_rows vs fun u hu => r u (List.mem_cons_of_mem _ hu))
theorem sorted_rowsO {tb : Bool} {l : Addr} {vs : List Value} {k : Value → List Int} {Q : Value → Shared → Prop} (hl : s.heap.IsList l vs.toArray) (hz : vs.length ≤ sizeLine) (hu : A.units + 65 < cLine) (rd : ∀ v ∈ vs, ∃ as, PySem.Reads s.heap v (pyR tb ((k v).map PyData.int)) as) (ne : tb = true → ∀ v ∈ vs, k v ≠ [])
    (h : ∀ (h' : Heap) (d : Addr) (out : List Value), out.Pairwise (fun v u => ltR (k u) (k v) = false) → out.Perm vs → (∀ b o, s.heap.get? b = some o → h'.get? b = some o) → s.heap.objs.size ≤ d → (∃ n, h'.get? d = some (seqObj "list" out.toArray n)) → Q (.ref d) { s with heap := h' }) :
    wpAny (model prog w) A (call (.builtin "sorted") [.ref l]) Q E s := by
  refine SrtO.sorted_ord (ltv := fun v u => ltR (k v) (k u)) (swoK k) hl hz (fun h2 h₁ a ha kk => ?_) fun out hs hb => ?_
  · intro h' keep
    have rd' : ∀ v ∈ vs, ∃ as, PySem.Reads h' v (pyR tb ((k v).map PyData.int)) as := fun v hv => by
      obtain ⟨as, r⟩ := rd v hv
      exact ⟨as, Reads.keeps (fun b o e => keep b o (kk b o e).1 (kk b o e).2) r⟩
    have e2 : A.in1.in1.units = A.units + 1 + 1 := by rw [units_in1, units_in1]
    cases tb with
    | false =>
      refine ⟨oneType', fun Q E hq => ?_, ?_⟩
      · refine PySem.W.kas_kind (T := .type "list") h2 (fun v hv => ?_) (by decide) (by decide) hq
        obtain ⟨as, r⟩ := rd' v hv
        exact PySem.W.looks_reads r
      · intro p q hp hq
        obtain ⟨as, ra⟩ := rd' _ hp
        obtain ⟨bs, rb⟩ := rd' _ hq
        show wpAny (model prog w) _ (keyLt' oneType' p.1 q.1) (fun r s' => s' = _ ∧ r = ltR (k p.1) (k q.1)) (fun _ _ => False) _
        rw [keyLt'_oneType]
        refine PySem.W.oneLt_alike (fun _ _ => by intro z; cases z) ra rb (by show PySem.W.alike (.list _) (.list _) = true; rw [PySem.W.alike]; exact alike_ints _ _) (by intro z; cases z) ?_ ⟨rfl, (dataLt_rows _ _)⟩
        have e1 : PyData.depth (pyR false ((k p.1).map PyData.int)) = 1 := by
          show PyData.depthAll ((k p.1).map PyData.int) + 1 = 1
          rw [depth_ints]
        rw [e1, e2]
        omega
    | true =>
      have ne := ne rfl
      refine ⟨tuples' true, fun Q E hq => ?_, ?_⟩
      · obtain ⟨fs, t1, t2, t3⟩ := PySem.W.each_katTups (h := h') (each_rows vs rd') (fun d hd => by
          obtain ⟨v, hv, rfl⟩ := List.mem_map.mp hd
          have := ne v hv
          cases e : k v with
          | nil => exact absurd e this
          | cons x r => exact ⟨.int x, r.map .int, rfl⟩)
        refine PySem.W.kat_kind (T := .type "int") t1 (by omega) (fun f hf => ?_) (beq_self_eq_true _) hq
        obtain ⟨x, r, as, m1, m2⟩ := t3 f hf
        obtain ⟨v, hv, e⟩ := List.mem_map.mp m1
        have ex : ∃ i, x = .int i := by
          cases ek : k v with
          | nil =>
            rw [ek] at e
            cases e
          | cons i l =>
            rw [ek] at e
            cases e
            exact ⟨i, rfl⟩
        obtain ⟨i, rfl⟩ := ex
        exact PySem.W.looks_reads m2
      · intro p q hp hq
        obtain ⟨as, ra⟩ := rd' _ hp
        obtain ⟨bs, rb⟩ := rd' _ hq
        show wpAny (model prog w) _ (keyLt' (tuples' true) p.1 q.1) (fun r s' => s' = _ ∧ r = ltR (k p.1) (k q.1)) (fun _ _ => False) _
        have ra : PySem.Reads h' p.1 (.tuple ((k p.1).map PyData.int)) as := ra
        have rb : PySem.Reads h' q.1 (.tuple ((k q.1).map PyData.int)) bs := rb
        cases h1 : p.1 with
        | ref l1 =>
          cases h3 : q.1 with
          | ref l2 =>
            rw [h1] at ra
            rw [h3] at rb
            cases ra with
            | @tuple _ o xs n _ _ a1 a2 a3 a4 =>
              cases rb with
              | @tuple _ o' xs' n' _ _ b1 b2 b3 b4 =>
                have n1 : xs.size = (k (.ref l1)).length := by simpa using SeqAt.ReadsAll.length _ _ _ a4
                have n2 : xs'.size = (k (.ref l2)).length := by simpa using SeqAt.ReadsAll.length _ _ _ b4
                refine PySem.W.kat_lt a1 a3 b1 b3 (PySem.W.katLex_alike ((k (.ref l1)).map PyData.int) ((k (.ref l2)).map PyData.int) 0 _ _ _ _ a4 b4 (alike_ints _ _) ?_ (fun _ _ x r t ex => ?_) ?_ ⟨rfl, ?_⟩)
                · rw [depth_ints, e2]
                  show A.units + 1 + 1 + min 0 _ < cLine
                  rw [Nat.zero_min]
                  omega
                · cases hk : k (.ref l1) with
                  | nil => rw [hk] at ex; cases ex
                  | cons i l => rw [hk] at ex; cases ex; intro z; cases z
                · rw [n1, n2, List.length_map, List.length_map]
                · have := dataLt_trows (k (.ref l1)) (k (.ref l2))
                  rw [PySem.W.dataLt_tuple] at this
                  exact this
          | _ => rw [h3] at rb; cases rb
        | _ => rw [h1] at ra; cases ra
  · exact h _ _ out hs hb.perm (fun b o e => sortedAll_old e) (Nat.le_succ _) (sortedAll_at s.heap vs out.toArray)
end
section
variable {X : Cx}
theorem cr_sortedLL (hu : X.A.units + 65 < cLine) : CallR X (.builtin "sorted") (rSortedLL X.K) := by
  intro pins s σ H vs us Q I r h
  obtain ⟨tb, a, xs, k, rfl, hs, hx, q⟩ := h
  obtain ⟨its, rv, hl, hz⟩ := I.list hs
  obtain ⟨u, rfl, ru⟩ := vals1 r
  obtain rfl : u = Value.ref a := ru
  obtain ⟨e1, e2⟩ := refs_back rv fun x m => by
    obtain ⟨⟨t, e, _⟩, _⟩ := hx x m
    exact ⟨t, e⟩
  have rd : ∀ v ∈ its, ∃ as, PySem.Reads s.heap v (pyR tb ((k (backV v)).map PyData.int)) as := fun v hv => by
    obtain ⟨t, rfl⟩ := e2 v hv
    have hm : V.ref t ∈ xs := by rw [e1]; exact List.mem_map.mpr ⟨_, hv, rfl⟩
    obtain ⟨⟨_, _, dp⟩, _⟩ := hx _ hm
    exact Dp.reads I _ _ _ dp rfl
  refine sorted_rowsO (k := fun u => k (backV u)) hl.isList (by rw [← rv.length]; exact hz) hu rd (fun eb v hv => by
    obtain ⟨t, rfl⟩ := e2 v hv
    have hm : V.ref t ∈ xs := by rw [e1]; exact List.mem_map.mpr ⟨_, hv, rfl⟩
    exact (hx _ hm).2 eb) fun h' d out h1 h2 kp hd hn => ?_
  have h3 : ∀ u ∈ out, ∃ a, u = Value.ref a := fun u hu => e2 u (h2.mem_iff.mp hu)
  obtain ⟨n, hn⟩ := hn
  have hp : (out.map backV).Perm xs := by
    rw [e1]
    exact h2.map backV
  refine ⟨.ref d, upd H d (.lst (out.map backV)), I.laid (t' := s.toks) kp hd ⟨?_, out, n, vals_back h3, hn⟩, rfl, q _ d (List.pairwise_map.mpr h1) hp (I.hok.fresh hd)⟩
  rw [hp.length_eq]
  exact hz
end
end VE

end
section
set_option maxHeartbeats 1000000
/-! VEb: what a datum is in the abstract heap; footprints. -/
namespace VE
open PySem PySem.Spec PyProof.Rows L2

/-- footprints: how often an address is held as one's own, as lent, as shared -/
structure Fp where
  o : Addr → Nat
  l : Addr → Nat
  s : Addr → Nat
theorem Fp.ext' {f g : Fp} (ho : ∀ a, f.o a = g.o a) (hl : ∀ a, f.l a = g.l a) (hs : ∀ a, f.s a = g.s a) : f = g := by
  obtain ⟨a, b, c⟩ := f
  obtain ⟨a', b', c'⟩ := g
  have h1 : a = a' := funext ho
  have h2 : b = b' := funext hl
  have h3 : c = c' := funext hs
  subst h1; subst h2; subst h3
  rfl
def Fp.zero : Fp := ⟨fun _ => 0, fun _ => 0, fun _ => 0⟩
def Fp.add (f g : Fp) : Fp := ⟨fun a => f.o a + g.o a, fun a => f.l a + g.l a, fun a => f.s a + g.s a⟩
/-- all shared -/
def Fp.shr (f : Fp) : Fp := ⟨fun _ => 0, fun _ => 0, fun a => f.o a + f.l a + f.s a⟩
def one (a : Addr) : Addr → Nat := fun b => if b = a then 1 else 0
def Fp.own (a : Addr) (f : Fp) : Fp := ⟨fun b => one a b + f.o b, f.l, f.s⟩
def Fp.lent (a : Addr) (f : Fp) : Fp := ⟨f.o, fun b => one a b + f.l b, f.s⟩
def Fp.sh (a : Addr) (f : Fp) : Fp := ⟨f.o, f.l, fun b => one a b + f.s b⟩
/-- is held at all -/
def Fp.at (f : Fp) (a : Addr) : Nat := f.o a + f.l a + f.s a
structure Good (f : Fp) : Prop where
  g : ∀ a, f.o a + f.l a ≤ 1 ∧ (0 < f.o a + f.l a → f.s a = 0)
/-- no datum stands there -/
def Fr (H : Hp) (a : Addr) : Prop := H a = none ∨ ∃ ps, H a = some (.tbl ps)
/-- a datum stands there -/
abbrev Dm (H : Hp) (a : Addr) : Prop := ∃ u, H a = some u ∧ ∀ ps, u ≠ .tbl ps
theorem Fr.no {H : Hp} {a : Addr} {p : Prop} (h : Fr H a) (d : Dm H a) : p := by
  obtain ⟨u, h1, h2⟩ := d
  rcases h with h | ⟨ps, h⟩
  · rw [h] at h1; cases h1
  · rw [h] at h1; cases h1; exact absurd rfl (h2 ps)
theorem Dm.no {H : Hp} {a : Addr} (d : Dm H a) (h : Fr H a) : False := h.no d
/-- the tables of code objects that the law's lambdas write -/
class TC where
  T : List (Addr × Str)
/-- from H with f to H' with f' -/
structure Step [TC] (H : Hp) (f : Fp) (H' : Hp) (f' : Fp) : Prop where
  frame : ∀ a u, H a = some u → f.o a = 0 → (∀ ps, u ≠ .tbl ps) → H' a = some u
  tab : LamX.Tabs TC.T H → LamX.Tabs TC.T H'
  own : ∀ a, 0 < f'.o a → 0 < f.o a ∨ Fr H a
  lent : ∀ a, 0 < f'.l a → 0 < f.o a + f.l a ∨ Fr H a
  shr : ∀ a, 0 < f'.s a → 0 < f.o a + f.l a + f.s a ∨ Fr H a

section
variable (H : Hp)
mutual
def Rep : D → V → Fp → Prop
  | .non, v, f => v = .non ∧ f = Fp.zero
  | .bl b, v, f => v = .bl b ∧ f = Fp.zero
  | .int i, v, f => v = .int i ∧ f = Fp.zero
  | .str s, v, f => v = .str s ∧ f = Fp.zero
  | .gone, _, f => f = Fp.zero
  | .tup ds, v, f => ∃ (a : Addr) (vs : List V) (g : Fp), v = .ref a ∧ RepL ds vs g ∧ Rd H a (.tup vs) ∧ f = g.sh a
  | .lst .own ds, v, f => ∃ (a : Addr) (vs : List V) (g : Fp), v = .ref a ∧ RepL ds vs g ∧ H a = some (.lst vs) ∧ f = g.own a
  | .lst .lent ds, v, f => ∃ (a : Addr) (vs : List V) (g : Fp), v = .ref a ∧ RepL ds vs g ∧ H a = some (.lst vs) ∧ f = g.lent a
  | .lst .shr ds, v, f => ∃ (a : Addr) (vs : List V) (g : Fp), v = .ref a ∧ RepL ds vs g ∧ (∀ b, g.o b = 0 ∧ g.l b = 0) ∧ Rd H a (.lst vs) ∧ f = g.sh a
def RepL : List D → List V → Fp → Prop
  | [], vs, f => vs = [] ∧ f = Fp.zero
  | d :: ds, vs, f => ∃ (v : V) (r : List V) (g h : Fp), vs = v :: r ∧ Rep d v g ∧ RepL ds r h ∧ f = g.add h
end
end

theorem rd_imp {H H' : Hp} {a : Addr} {u : HO} (h : Rd H a u) (k : ∀ o, H a = some o → H' a = some o) : Rd H' a u := by
  rcases h with h | ⟨o, h⟩
  · exact .inl (k _ h)
  · exact .inr ⟨o, k _ h⟩
theorem rd_impT {H H' : Hp} {a : Addr} {u : HO} (h : Rd H a u) (hu : ∀ ps, u ≠ .tbl ps) (k : ∀ o, (∀ ps, o ≠ .tbl ps) → H a = some o → H' a = some o) : Rd H' a u := by
  rcases h with h | ⟨o, h⟩
  · exact .inl (k _ hu h)
  · exact .inr ⟨o, k _ (fun ps e => by cases e) h⟩
theorem rd_nt {H : Hp} {a : Addr} {u : HO} (h : Rd H a u) (hu : ∀ ps, u ≠ .tbl ps) : ∃ o, H a = some o ∧ ∀ ps, o ≠ .tbl ps := by
  rcases h with h | ⟨o, h⟩
  · exact ⟨_, h, hu⟩
  · exact ⟨_, h, fun ps e => by cases e⟩
theorem Step.fr [TC] {H H' : Hp} {f f' : Fp} (S : Step H f H' f') {a : Addr} (h0 : f.o a = 0) (h : Fr H' a) : Fr H a := by
  cases e : H a with
  | none => exact .inl e
  | some u =>
    by_cases nt : ∀ ps, u ≠ .tbl ps
    · exact h.no ⟨u, S.frame a u e h0 nt, nt⟩
    · refine .inr (Classical.byContradiction fun q => nt fun ps z => q ⟨ps, by rw [e, z]⟩)
theorem Step.gone [TC] {H H' : Hp} {f f' : Fp} (S : Step H f H' f') {a : Addr} (h : Fr H' a) : 0 < f.o a ∨ Fr H a := by
  by_cases h0 : f.o a = 0
  · exact .inr (S.fr h0 h)
  · exact .inl (by omega)
theorem Step.gone2 [TC] {H H' : Hp} {f f' : Fp} (S : Step H f H' f') {a : Addr} (h : Fr H' a) : 0 < f.o a + f.l a ∨ Fr H a := by
  rcases S.gone h with h | h
  · exact .inl (by omega)
  · exact .inr h
theorem Step.gone3 [TC] {H H' : Hp} {f f' : Fp} (S : Step H f H' f') {a : Addr} (h : Fr H' a) : 0 < f.o a + f.l a + f.s a ∨ Fr H a := by
  rcases S.gone h with h | h
  · exact .inl (by omega)
  · exact .inr h
theorem rd_some {H : Hp} {a : Addr} {u : HO} (h : Rd H a u) : ∃ o, H a = some o := by
  rcases h with h | ⟨o, h⟩
  · exact ⟨_, h⟩
  · exact ⟨_, h⟩

section
variable {H H' : Hp}
mutual
theorem Rep.mono : ∀ (d : D) {v : V} {f : Fp}, Rep H d v f → (∀ a u, H a = some u → 0 < f.at a → H' a = some u) → Rep H' d v f
  | .non, _, _, h, _ => by unfold Rep at h ⊢; exact h
  | .bl _, _, _, h, _ => by unfold Rep at h ⊢; exact h
  | .int _, _, _, h, _ => by unfold Rep at h ⊢; exact h
  | .str _, _, _, h, _ => by unfold Rep at h ⊢; exact h
  | .gone, _, _, h, _ => by unfold Rep at h ⊢; exact h
  | .tup ds, v, f, h, k => by
    unfold Rep at h ⊢
    obtain ⟨a, vs, g, e, r, q, rfl⟩ := h
    refine ⟨a, vs, g, e, RepL.mono ds r fun b u hb hp => k b u hb ?_, rd_imp q fun o ho => k a o ho ?_, rfl⟩
    · unfold Fp.at Fp.sh at *; simp only at *; omega
    · unfold Fp.at Fp.sh one; simp only [if_pos]; omega
  | .lst .own ds, v, f, h, k => by
    unfold Rep at h ⊢
    obtain ⟨a, vs, g, e, r, q, rfl⟩ := h
    refine ⟨a, vs, g, e, RepL.mono ds r fun b u hb hp => k b u hb ?_, k a _ q ?_, rfl⟩
    · unfold Fp.at Fp.own at *; simp only at *; omega
    · unfold Fp.at Fp.own one; simp only [if_pos]; omega
  | .lst .lent ds, v, f, h, k => by
    unfold Rep at h ⊢
    obtain ⟨a, vs, g, e, r, q, rfl⟩ := h
    refine ⟨a, vs, g, e, RepL.mono ds r fun b u hb hp => k b u hb ?_, k a _ q ?_, rfl⟩
    · unfold Fp.at Fp.lent at *; simp only at *; omega
    · unfold Fp.at Fp.lent one; simp only [if_pos]; omega
  | .lst .shr ds, v, f, h, k => by
    unfold Rep at h ⊢
    obtain ⟨a, vs, g, e, r, z, q, rfl⟩ := h
    refine ⟨a, vs, g, e, RepL.mono ds r fun b u hb hp => k b u hb ?_, z, rd_imp q fun o ho => k a o ho ?_, rfl⟩
    · unfold Fp.at Fp.sh at *; simp only at *; omega
    · unfold Fp.at Fp.sh one; simp only [if_pos]; omega
theorem RepL.mono : ∀ (ds : List D) {vs : List V} {f : Fp}, RepL H ds vs f → (∀ a u, H a = some u → 0 < f.at a → H' a = some u) → RepL H' ds vs f
  | [], _, _, h, _ => by unfold RepL at h ⊢; exact h
  | d :: ds, vs, f, h, k => by
    unfold RepL at h ⊢
    obtain ⟨v, r, g, h', e, r1, r2, rfl⟩ := h
    refine ⟨v, r, g, h', e, Rep.mono d r1 fun b u hb hp => k b u hb ?_, RepL.mono ds r2 fun b u hb hp => k b u hb ?_, rfl⟩
    · unfold Fp.at Fp.add at *; simp only at *; omega
    · unfold Fp.at Fp.add at *; simp only at *; omega
end
mutual
theorem Rep.dom : ∀ (d : D) {v : V} {f : Fp}, Rep H d v f → ∀ a, 0 < f.at a → Dm H a
  | .non, _, _, h, a, p => by unfold Rep at h; obtain ⟨_, rfl⟩ := h; exact absurd p (Nat.lt_irrefl 0)
  | .bl _, _, _, h, a, p => by unfold Rep at h; obtain ⟨_, rfl⟩ := h; exact absurd p (Nat.lt_irrefl 0)
  | .int _, _, _, h, a, p => by unfold Rep at h; obtain ⟨_, rfl⟩ := h; exact absurd p (Nat.lt_irrefl 0)
  | .str _, _, _, h, a, p => by unfold Rep at h; obtain ⟨_, rfl⟩ := h; exact absurd p (Nat.lt_irrefl 0)
  | .gone, _, _, h, a, p => by unfold Rep at h; subst h; exact absurd p (Nat.lt_irrefl 0)
  | .tup ds, v, f, h, b, p => by
    unfold Rep at h
    obtain ⟨a, vs, g, e, r, q, rfl⟩ := h
    by_cases hb : b = a
    · subst hb; exact rd_nt q (fun ps e => by cases e)
    · exact RepL.dom ds r b (by unfold Fp.at Fp.sh one at *; simp only [if_neg hb] at *; omega)
  | .lst .own ds, v, f, h, b, p => by
    unfold Rep at h
    obtain ⟨a, vs, g, e, r, q, rfl⟩ := h
    by_cases hb : b = a
    · subst hb; exact ⟨_, q, fun ps e => by cases e⟩
    · exact RepL.dom ds r b (by unfold Fp.at Fp.own one at *; simp only [if_neg hb] at *; omega)
  | .lst .lent ds, v, f, h, b, p => by
    unfold Rep at h
    obtain ⟨a, vs, g, e, r, q, rfl⟩ := h
    by_cases hb : b = a
    · subst hb; exact ⟨_, q, fun ps e => by cases e⟩
    · exact RepL.dom ds r b (by unfold Fp.at Fp.lent one at *; simp only [if_neg hb] at *; omega)
  | .lst .shr ds, v, f, h, b, p => by
    unfold Rep at h
    obtain ⟨a, vs, g, e, r, z, q, rfl⟩ := h
    by_cases hb : b = a
    · subst hb; exact rd_nt q (fun ps e => by cases e)
    · exact RepL.dom ds r b (by unfold Fp.at Fp.sh one at *; simp only [if_neg hb] at *; omega)
theorem RepL.dom : ∀ (ds : List D) {vs : List V} {f : Fp}, RepL H ds vs f → ∀ a, 0 < f.at a → Dm H a
  | [], _, _, h, a, p => by unfold RepL at h; obtain ⟨_, rfl⟩ := h; exact absurd p (Nat.lt_irrefl 0)
  | d :: ds, vs, f, h, a, p => by
    unfold RepL at h
    obtain ⟨v, r, g, h', e, r1, r2, rfl⟩ := h
    by_cases hg : 0 < g.at a
    · exact Rep.dom d r1 a hg
    · exact RepL.dom ds r2 a (by unfold Fp.at Fp.add at *; simp only at *; omega)
end
mutual
theorem Rep.frz : ∀ (d : D) {v : V} {f : Fp}, Rep H d v f → Rep H (frz d) v f.shr
  | .non, _, _, h => by unfold VE.frz; unfold Rep at h ⊢; obtain ⟨e, rfl⟩ := h; exact ⟨e, rfl⟩
  | .bl _, _, _, h => by unfold VE.frz; unfold Rep at h ⊢; obtain ⟨e, rfl⟩ := h; exact ⟨e, rfl⟩
  | .int _, _, _, h => by unfold VE.frz; unfold Rep at h ⊢; obtain ⟨e, rfl⟩ := h; exact ⟨e, rfl⟩
  | .str _, _, _, h => by unfold VE.frz; unfold Rep at h ⊢; obtain ⟨e, rfl⟩ := h; exact ⟨e, rfl⟩
  | .gone, _, _, h => by unfold VE.frz; unfold Rep at h ⊢; subst h; rfl
  | .tup ds, v, f, h => by
    unfold VE.frz
    unfold Rep at h ⊢
    obtain ⟨a, vs, g, e, r, q, rfl⟩ := h
    refine ⟨a, vs, _, e, RepL.frz ds r, q, Fp.ext' (fun b => rfl) (fun b => rfl) fun b => ?_⟩
    show g.o b + g.l b + (one a b + g.s b) = one a b + (g.o b + g.l b + g.s b)
    omega
  | .lst .own ds, v, f, h => by
    unfold VE.frz
    unfold Rep at h ⊢
    obtain ⟨a, vs, g, e, r, q, rfl⟩ := h
    refine ⟨a, vs, _, e, RepL.frz ds r, fun b => ⟨rfl, rfl⟩, .inl q, Fp.ext' (fun b => rfl) (fun b => rfl) fun b => ?_⟩
    show one a b + g.o b + g.l b + g.s b = one a b + (g.o b + g.l b + g.s b)
    omega
  | .lst .lent ds, v, f, h => by
    unfold VE.frz
    unfold Rep at h ⊢
    obtain ⟨a, vs, g, e, r, q, rfl⟩ := h
    refine ⟨a, vs, _, e, RepL.frz ds r, fun b => ⟨rfl, rfl⟩, .inl q, Fp.ext' (fun b => rfl) (fun b => rfl) fun b => ?_⟩
    show g.o b + (one a b + g.l b) + g.s b = one a b + (g.o b + g.l b + g.s b)
    omega
  | .lst .shr ds, v, f, h => by
    unfold VE.frz
    unfold Rep at h ⊢
    obtain ⟨a, vs, g, e, r, z, q, rfl⟩ := h
    refine ⟨a, vs, _, e, RepL.frz ds r, fun b => ⟨rfl, rfl⟩, q, Fp.ext' (fun b => rfl) (fun b => rfl) fun b => ?_⟩
    show g.o b + g.l b + (one a b + g.s b) = one a b + (g.o b + g.l b + g.s b)
    omega
theorem RepL.frz : ∀ (ds : List D) {vs : List V} {f : Fp}, RepL H ds vs f → RepL H (frzL ds) vs f.shr
  | [], _, _, h => by unfold VE.frzL; unfold RepL at h ⊢; obtain ⟨e, rfl⟩ := h; exact ⟨e, rfl⟩
  | d :: ds, vs, f, h => by
    unfold VE.frzL
    unfold RepL at h ⊢
    obtain ⟨v, r, g, h', e, r1, r2, rfl⟩ := h
    refine ⟨v, r, _, _, e, Rep.frz d r1, RepL.frz ds r2, Fp.ext' (fun b => rfl) (fun b => rfl) fun b => ?_⟩
    show g.o b + h'.o b + (g.l b + h'.l b) + (g.s b + h'.s b) = g.o b + g.l b + g.s b + (h'.o b + h'.l b + h'.s b)
    omega
end
mutual
theorem Rep.dup : ∀ (d : D) {v : V} {f : Fp}, Rep H d v f → dup d = true → ∀ a, f.o a = 0 ∧ f.l a = 0
  | .non, _, _, h, _, a => by unfold Rep at h; obtain ⟨_, rfl⟩ := h; exact ⟨rfl, rfl⟩
  | .bl _, _, _, h, _, a => by unfold Rep at h; obtain ⟨_, rfl⟩ := h; exact ⟨rfl, rfl⟩
  | .int _, _, _, h, _, a => by unfold Rep at h; obtain ⟨_, rfl⟩ := h; exact ⟨rfl, rfl⟩
  | .str _, _, _, h, _, a => by unfold Rep at h; obtain ⟨_, rfl⟩ := h; exact ⟨rfl, rfl⟩
  | .gone, _, _, h, _, a => by unfold Rep at h; subst h; exact ⟨rfl, rfl⟩
  | .tup ds, v, f, h, p, a => by
    unfold Rep at h
    unfold VE.dup at p
    obtain ⟨b, vs, g, e, r, q, rfl⟩ := h
    exact RepL.dup ds r p a
  | .lst .own ds, v, f, h, p, a => by unfold VE.dup at p; simp at p
  | .lst .lent ds, v, f, h, p, a => by unfold VE.dup at p; simp at p
  | .lst .shr ds, v, f, h, p, a => by
    unfold Rep at h
    obtain ⟨b, vs, g, e, r, z, q, rfl⟩ := h
    exact z a
theorem RepL.dup : ∀ (ds : List D) {vs : List V} {f : Fp}, RepL H ds vs f → dupL ds = true → ∀ a, f.o a = 0 ∧ f.l a = 0
  | [], _, _, h, _, a => by unfold RepL at h; obtain ⟨_, rfl⟩ := h; exact ⟨rfl, rfl⟩
  | d :: ds, vs, f, h, p, a => by
    unfold RepL at h
    unfold VE.dupL at p
    rw [Bool.and_eq_true] at p
    obtain ⟨v, r, g, h', e, r1, r2, rfl⟩ := h
    have z1 := Rep.dup d r1 p.1 a
    have z2 := RepL.dup ds r2 p.2 a
    show g.o a + h'.o a = 0 ∧ g.l a + h'.l a = 0
    omega
end
mutual
theorem Rep.clean : ∀ (d : D) {v : V} {f : Fp}, Rep H d v f → clean d = true → ∀ a, 0 < f.s a → ∃ vs, Rd H a (.tup vs)
  | .non, _, _, h, _, a, p => by unfold Rep at h; obtain ⟨_, rfl⟩ := h; exact absurd p (Nat.lt_irrefl 0)
  | .bl _, _, _, h, _, a, p => by unfold Rep at h; obtain ⟨_, rfl⟩ := h; exact absurd p (Nat.lt_irrefl 0)
  | .int _, _, _, h, _, a, p => by unfold Rep at h; obtain ⟨_, rfl⟩ := h; exact absurd p (Nat.lt_irrefl 0)
  | .str _, _, _, h, _, a, p => by unfold Rep at h; obtain ⟨_, rfl⟩ := h; exact absurd p (Nat.lt_irrefl 0)
  | .gone, _, _, h, _, a, p => by unfold Rep at h; subst h; exact absurd p (Nat.lt_irrefl 0)
  | .tup ds, v, f, h, c, a, p => by
    unfold Rep at h
    unfold VE.clean at c
    obtain ⟨b, vs, g, e, r, q, rfl⟩ := h
    by_cases hb : a = b
    · subst hb; exact ⟨vs, q⟩
    · exact RepL.clean ds r c a (by unfold Fp.sh one at p; simp only [if_neg hb] at p; omega)
  | .lst .own ds, v, f, h, c, a, p => by
    unfold Rep at h
    unfold VE.clean at c
    rw [Bool.and_eq_true] at c
    obtain ⟨b, vs, g, e, r, q, rfl⟩ := h
    exact RepL.clean ds r c.2 a p
  | .lst .lent ds, v, f, h, c, a, p => by
    unfold Rep at h
    unfold VE.clean at c
    rw [Bool.and_eq_true] at c
    obtain ⟨b, vs, g, e, r, q, rfl⟩ := h
    exact RepL.clean ds r c.2 a p
  | .lst .shr ds, v, f, h, c, a, p => by
    unfold VE.clean at c
    rw [Bool.and_eq_true] at c
    exact absurd c.1 (by decide)
theorem RepL.clean : ∀ (ds : List D) {vs : List V} {f : Fp}, RepL H ds vs f → cleanL ds = true → ∀ a, 0 < f.s a → ∃ vs, Rd H a (.tup vs)
  | [], _, _, h, _, a, p => by unfold RepL at h; obtain ⟨_, rfl⟩ := h; exact absurd p (Nat.lt_irrefl 0)
  | d :: ds, vs, f, h, c, a, p => by
    unfold RepL at h
    unfold VE.cleanL at c
    rw [Bool.and_eq_true] at c
    obtain ⟨v, r, g, h', e, r1, r2, rfl⟩ := h
    by_cases hg : 0 < g.s a
    · exact Rep.clean d r1 c.1 a hg
    · exact RepL.clean ds r2 c.2 a (by have p' : 0 < g.s a + h'.s a := p; omega)
end
end
end VE

end
section
set_option maxHeartbeats 1000000
/-! VEc: lists and environments, steps. -/
namespace VE
open PySem PySem.Spec PyProof.Rows L2

def Fp.le (f g : Fp) : Prop := ∀ a, f.o a ≤ g.o a ∧ f.l a ≤ g.l a ∧ f.s a ≤ g.s a
theorem Fp.le.refl (f : Fp) : f.le f := fun a => ⟨Nat.le_refl _, Nat.le_refl _, Nat.le_refl _⟩
theorem Fp.le.trans {f g h : Fp} (x : f.le g) (y : g.le h) : f.le h := fun a => ⟨Nat.le_trans (x a).1 (y a).1, Nat.le_trans (x a).2.1 (y a).2.1, Nat.le_trans (x a).2.2 (y a).2.2⟩
theorem Fp.le_addL (f g : Fp) : f.le (f.add g) := fun a => ⟨Nat.le_add_right _ _, Nat.le_add_right _ _, Nat.le_add_right _ _⟩
theorem Fp.le_addR (f g : Fp) : g.le (f.add g) := fun a => ⟨Nat.le_add_left _ _, Nat.le_add_left _ _, Nat.le_add_left _ _⟩
theorem Fp.add_comm (f g : Fp) : f.add g = g.add f := Fp.ext' (fun a => Nat.add_comm _ _) (fun a => Nat.add_comm _ _) fun a => Nat.add_comm _ _
theorem Fp.add_assoc (f g h : Fp) : (f.add g).add h = f.add (g.add h) := Fp.ext' (fun a => Nat.add_assoc _ _ _) (fun a => Nat.add_assoc _ _ _) fun a => Nat.add_assoc _ _ _
theorem Fp.zero_add (f : Fp) : Fp.zero.add f = f := Fp.ext' (fun a => Nat.zero_add _) (fun a => Nat.zero_add _) fun a => Nat.zero_add _
theorem Fp.add_zero (f : Fp) : f.add Fp.zero = f := Fp.ext' (fun a => Nat.add_zero _) (fun a => Nat.add_zero _) fun a => Nat.add_zero _
theorem Fp.le_at {f g : Fp} (h : f.le g) (a : Addr) : f.at a ≤ g.at a := by
  have := h a
  unfold Fp.at; omega
theorem Fp.add_left_comm (f g h : Fp) : f.add (g.add h) = g.add (f.add h) := by rw [← Fp.add_assoc, Fp.add_comm f g, Fp.add_assoc]
theorem Good.le {f g : Fp} (x : Good g) (h : f.le g) : Good f := ⟨fun a => by
  have h1 := x.g a
  have h2 := h a
  refine ⟨by omega, fun p => ?_⟩
  have := h1.2 (by omega)
  omega⟩
theorem Good.zero : Good Fp.zero := ⟨fun a => ⟨Nat.zero_le _, fun p => absurd p (Nat.lt_irrefl 0)⟩⟩

section
variable {H H' : Hp}
/-! ### lists -/
theorem RepL.nil : RepL H [] [] Fp.zero := by unfold RepL; exact ⟨rfl, rfl⟩
theorem RepL.cons {d : D} {ds : List D} {v : V} {vs : List V} {g h : Fp} (a : Rep H d v g) (b : RepL H ds vs h) : RepL H (d :: ds) (v :: vs) (g.add h) := by
  unfold RepL
  exact ⟨v, vs, g, h, rfl, a, b, rfl⟩
theorem RepL.inv {d : D} {ds : List D} {vs : List V} {f : Fp} (h : RepL H (d :: ds) vs f) : ∃ v r g h, vs = v :: r ∧ Rep H d v g ∧ RepL H ds r h ∧ f = g.add h := by
  unfold RepL at h
  exact h
theorem RepL.inv0 {vs : List V} {f : Fp} (h : RepL H [] vs f) : vs = [] ∧ f = Fp.zero := by
  unfold RepL at h
  exact h
theorem RepL.length : ∀ {ds : List D} {vs : List V} {f : Fp}, RepL H ds vs f → ds.length = vs.length
  | [], vs, f, h => by obtain ⟨rfl, _⟩ := h.inv0; rfl
  | d :: ds, vs, f, h => by
    obtain ⟨v, r, g, h', rfl, _, r2, _⟩ := h.inv
    rw [List.length_cons, List.length_cons, RepL.length r2]
theorem RepL.get : ∀ {ds : List D} {vs : List V} {f : Fp} {i : Nat} {d : D}, RepL H ds vs f → ds[i]? = some d →
    ∃ v g h, vs[i]? = some v ∧ Rep H d v g ∧ f = g.add h ∧ RepL H (ds.eraseIdx i) (vs.eraseIdx i) h ∧ ∀ d' v' g', Rep H d' v' g' → RepL H (ds.set i d') (vs.set i v') (g'.add h)
  | [], _, _, _, _, _, e => by simp at e
  | c :: ds, vs, f, 0, d, h, e => by
    obtain ⟨v, r, g, h', rfl, r1, r2, rfl⟩ := h.inv
    have : c = d := by simpa using e
    subst this
    exact ⟨v, g, h', rfl, r1, rfl, r2, fun d' v' g' q => RepL.cons q r2⟩
  | c :: ds, vs, f, i + 1, d, h, e => by
    obtain ⟨v, r, g, h', rfl, r1, r2, rfl⟩ := h.inv
    obtain ⟨w, g2, h2, e1, q1, rfl, q2, q3⟩ := RepL.get r2 (show ds[i]? = some d by simpa using e)
    refine ⟨w, g2, g.add h2, by simpa using e1, q1, Fp.add_left_comm _ _ _, RepL.cons r1 q2, fun d' v' g' q => ?_⟩
    rw [Fp.add_left_comm]
    exact RepL.cons r1 (q3 d' v' g' q)
theorem RepL.append : ∀ {ds es : List D} {vs ws : List V} {f g : Fp}, RepL H ds vs f → RepL H es ws g → RepL H (ds ++ es) (vs ++ ws) (f.add g)
  | [], es, vs, ws, f, g, h, h' => by
    obtain ⟨rfl, rfl⟩ := h.inv0
    rw [Fp.zero_add]
    exact h'
  | d :: ds, es, vs, ws, f, g, h, h' => by
    obtain ⟨v, r, g1, h1, rfl, r1, r2, rfl⟩ := h.inv
    rw [Fp.add_assoc]
    exact RepL.cons r1 (RepL.append r2 h')
theorem RepL.take : ∀ {ds : List D} {vs : List V} {f : Fp} (n : Nat), RepL H ds vs f → ∃ g, RepL H (ds.take n) (vs.take n) g ∧ g.le f
  | ds, vs, f, 0, h => ⟨Fp.zero, by simpa using RepL.nil, fun a => ⟨Nat.zero_le _, Nat.zero_le _, Nat.zero_le _⟩⟩
  | [], vs, f, n + 1, h => by
    obtain ⟨rfl, rfl⟩ := h.inv0
    exact ⟨_, by simpa using RepL.nil, Fp.le.refl _⟩
  | d :: ds, vs, f, n + 1, h => by
    obtain ⟨v, r, g, h', rfl, r1, r2, rfl⟩ := h.inv
    obtain ⟨g2, q, l⟩ := RepL.take n r2
    refine ⟨g.add g2, RepL.cons r1 q, fun a => ?_⟩
    have := l a
    show g.o a + g2.o a ≤ g.o a + h'.o a ∧ g.l a + g2.l a ≤ g.l a + h'.l a ∧ g.s a + g2.s a ≤ g.s a + h'.s a
    omega
theorem RepL.drop : ∀ {ds : List D} {vs : List V} {f : Fp} (n : Nat), RepL H ds vs f → ∃ g, RepL H (ds.drop n) (vs.drop n) g ∧ g.le f
  | ds, vs, f, 0, h => ⟨f, h, Fp.le.refl _⟩
  | [], vs, f, n + 1, h => by
    obtain ⟨rfl, rfl⟩ := h.inv0
    exact ⟨_, by simpa using RepL.nil, Fp.le.refl _⟩
  | d :: ds, vs, f, n + 1, h => by
    obtain ⟨v, r, g, h', rfl, r1, r2, rfl⟩ := h.inv
    obtain ⟨g2, q, l⟩ := RepL.drop n r2
    exact ⟨g2, q, l.trans (Fp.le_addR _ _)⟩
theorem RepL.reverse : ∀ {ds : List D} {vs : List V} {f : Fp}, RepL H ds vs f → RepL H ds.reverse vs.reverse f
  | [], vs, f, h => by
    obtain ⟨rfl, rfl⟩ := h.inv0
    exact RepL.nil
  | d :: ds, vs, f, h => by
    obtain ⟨v, r, g, h', rfl, r1, r2, rfl⟩ := h.inv
    rw [List.reverse_cons, List.reverse_cons, Fp.add_comm]
    have q : RepL H [d] [v] (g.add Fp.zero) := RepL.cons r1 RepL.nil
    rw [Fp.add_zero] at q
    exact RepL.append (RepL.reverse r2) q
theorem RepL.get' : ∀ {ds : List D} {vs : List V} {f : Fp} {i : Nat} {d : D}, RepL H ds vs f → ds[i]? = some d → ∃ v g, vs[i]? = some v ∧ Rep H d v g ∧ g.le f := fun {ds vs f i d} h e => by
  obtain ⟨v, g, h2, e1, q, rfl, _⟩ := h.get e
  exact ⟨v, g, e1, q, Fp.le_addL _ _⟩
/-- all are shared: as often as you like -/
theorem RepL.rep {ds : List D} {vs : List V} {f : Fp} (h : RepL H ds vs f) : ∀ n : Nat, ∃ g, RepL H (List.replicate n ds).flatten (List.replicate n vs).flatten g ∧ ∀ a, g.o a = n * f.o a ∧ g.l a = n * f.l a ∧ g.s a = n * f.s a
  | 0 => ⟨Fp.zero, by simpa using RepL.nil, fun a => by simp [Fp.zero]⟩
  | n + 1 => by
    obtain ⟨g, q, e⟩ := RepL.rep h n
    refine ⟨f.add g, by simpa [List.replicate_succ] using RepL.append h q, fun a => ?_⟩
    have := e a
    show f.o a + g.o a = _ ∧ f.l a + g.l a = _ ∧ f.s a + g.s a = _
    rw [Nat.succ_mul, Nat.succ_mul, Nat.succ_mul]
    omega
theorem RepL.ints : ∀ (ns : List Int), RepL H (ns.map D.int) (ns.map V.int) Fp.zero
  | [] => RepL.nil
  | n :: ns => by
    have q : Rep H (.int n) (.int n) Fp.zero := by unfold Rep; exact ⟨rfl, rfl⟩
    have := RepL.cons q (RepL.ints ns)
    rw [Fp.zero_add] at this
    exact this
theorem ints_of : ∀ {ds : List D} {ns : List Int}, ints? ds = some ns → ds = ns.map D.int
  | [], ns, h => by
    unfold ints? at h
    cases h
    rfl
  | d :: ds, ns, h => by
    cases d with
    | int i =>
      unfold ints? at h
      obtain ⟨ms, e, rfl⟩ := Option.map_eq_some_iff.mp h
      rw [List.map_cons, ints_of e]
    | _ => simp [ints?] at h
theorem RepL.of_ints : ∀ {ns : List Int} {vs : List V} {f : Fp}, RepL H (ns.map D.int) vs f → vs = ns.map V.int
  | [], vs, f, h => h.inv0.1
  | n :: ns, vs, f, h => by
    obtain ⟨v, r, g, h', rfl, r1, r2, rfl⟩ := RepL.inv (ds := ns.map D.int) (d := D.int n) h
    unfold Rep at r1
    rw [r1.1, RepL.of_ints r2]
    rfl

/-! ### environments -/
variable [TC]
variable (H) in
def REnv : En → L2.St → Fp → Prop
  | [], σ, f => σ = [] ∧ f = Fp.zero ∧ LamX.Tabs TC.T H
  | none :: Γ, σ, f => ∃ (x : Option V) (r : L2.St), σ = x :: r ∧ REnv Γ r f
  | some d :: Γ, σ, f => ∃ (v : V) (r : L2.St) (g h : Fp), σ = some v :: r ∧ Rep H d v g ∧ REnv Γ r h ∧ f = g.add h
theorem REnv.length : ∀ {Γ : En} {σ : L2.St} {f : Fp}, REnv H Γ σ f → Γ.length = σ.length
  | [], σ, f, h => by
    unfold REnv at h
    rw [h.1]
    rfl
  | none :: Γ, σ, f, h => by
    unfold REnv at h
    obtain ⟨x, r, rfl, q⟩ := h
    rw [List.length_cons, List.length_cons, REnv.length q]
  | some d :: Γ, σ, f, h => by
    unfold REnv at h
    obtain ⟨v, r, g, h', rfl, _, q, _⟩ := h
    rw [List.length_cons, List.length_cons, REnv.length q]
theorem tabs_keep {H H' : Hp} {T : List (Addr × Str)} (e : ∀ b o, H b = some o → (∀ xs, o ≠ .lst xs) → H' b = some o) (t : LamX.Tabs T H) : LamX.Tabs T H' := fun p hp => by
  obtain ⟨ps, h1, h2, h3⟩ := t p hp
  refine ⟨ps, e _ _ h1 (fun xs z => by cases z), h2, fun pos cv hc => ?_⟩
  obtain ⟨c, e1, e2⟩ := h3 pos cv hc
  exact ⟨c, e1, e _ _ e2 (fun xs z => by unfold LamX.CodeO at z; cases z)⟩
theorem tabs_upd {H : Hp} {T : List (Addr × Str)} {a : Addr} {xs : List V} {u : HO} (h : H a = some (.lst xs)) (t : LamX.Tabs T H) : LamX.Tabs T (upd H a u) := tabs_keep (fun b o hb n => by
  rw [upd_ne]
  · exact hb
  · intro z
    rw [z, h] at hb
    cases hb
    exact n _ rfl) t
theorem tabs_new {H : Hp} {T : List (Addr × Str)} {a : Addr} {u : HO} (h : H a = none) (t : LamX.Tabs T H) : LamX.Tabs T (upd H a u) := t.ext fun b o hb => by
  rw [upd_ne (ne_of_none hb h)]
  exact hb
theorem REnv.tabs : ∀ {Γ : En} {σ : L2.St} {f : Fp}, REnv H Γ σ f → LamX.Tabs TC.T H
  | [], σ, f, h => by unfold REnv at h; exact h.2.2
  | none :: Γ, σ, f, h => by
    unfold REnv at h
    obtain ⟨x, r, e, q⟩ := h
    exact REnv.tabs q
  | some d :: Γ, σ, f, h => by
    unfold REnv at h
    obtain ⟨v, r, g, h', e, q1, q2, rfl⟩ := h
    exact REnv.tabs q2
theorem REnv.mono : ∀ {Γ : En} {σ : L2.St} {f : Fp}, REnv H Γ σ f → (∀ a u, H a = some u → 0 < f.at a → H' a = some u) → (LamX.Tabs TC.T H → LamX.Tabs TC.T H') → REnv H' Γ σ f
  | [], σ, f, h, k, t => by unfold REnv at h ⊢; exact ⟨h.1, h.2.1, t h.2.2⟩
  | none :: Γ, σ, f, h, k, t => by
    unfold REnv at h ⊢
    obtain ⟨x, r, e, q⟩ := h
    exact ⟨x, r, e, REnv.mono q k t⟩
  | some d :: Γ, σ, f, h, k, t => by
    unfold REnv at h ⊢
    obtain ⟨v, r, g, h', e, q1, q2, rfl⟩ := h
    refine ⟨v, r, g, h', e, Rep.mono d q1 fun a u ha p => k a u ha ?_, REnv.mono q2 (fun a u ha p => k a u ha ?_) t, rfl⟩
    · unfold Fp.at Fp.add at *; simp only at *; omega
    · unfold Fp.at Fp.add at *; simp only at *; omega
theorem REnv.dom : ∀ {Γ : En} {σ : L2.St} {f : Fp}, REnv H Γ σ f → ∀ a, 0 < f.at a → Dm H a
  | [], σ, f, h, a, p => by unfold REnv at h; obtain ⟨_, rfl, _⟩ := h; exact absurd p (Nat.lt_irrefl 0)
  | none :: Γ, σ, f, h, a, p => by
    unfold REnv at h
    obtain ⟨x, r, e, q⟩ := h
    exact REnv.dom q a p
  | some d :: Γ, σ, f, h, a, p => by
    unfold REnv at h
    obtain ⟨v, r, g, h', e, q1, q2, rfl⟩ := h
    by_cases hg : 0 < g.at a
    · exact Rep.dom d q1 a hg
    · exact REnv.dom q2 a (by unfold Fp.at Fp.add at *; simp only at *; omega)
theorem gt_some {Γ : En} {i : Nat} {d : D} (h : gt Γ i = some d) : Γ[i]? = some (some d) := by
  unfold gt at h
  split at h
  · rename_i e; cases h; exact e
  · cases h
/-- a slot taken out -/
theorem REnv.get : ∀ {Γ : En} {σ : L2.St} {f : Fp} {i : Nat} {d : D}, REnv H Γ σ f → Γ[i]? = some (some d) →
    ∃ v g h, σ[i]? = some (some v) ∧ Rep H d v g ∧ f = g.add h ∧ (REnv H (Γ.set i none) σ h) ∧
      ∀ d' v' g', Rep H d' v' g' → REnv H (Γ.set i (some d')) (σ.set i (some v')) (g'.add h)
  | [], _, _, _, _, _, e => by simp at e
  | none :: Γ, σ, f, 0, d, h, e => by simp at e
  | some c :: Γ, σ, f, 0, d, h, e => by
    unfold REnv at h
    obtain ⟨v, r, g, h', rfl, q1, q2, rfl⟩ := h
    have : c = d := by simpa using e
    subst this
    refine ⟨v, g, h', rfl, q1, rfl, ?_, fun d' v' g' q => ?_⟩
    · show REnv H (none :: Γ) _ _
      unfold REnv
      exact ⟨_, r, rfl, q2⟩
    · show REnv H (some d' :: Γ) (some v' :: r) _
      unfold REnv
      exact ⟨v', r, g', h', rfl, q, q2, rfl⟩
  | none :: Γ, σ, f, i + 1, d, h, e => by
    unfold REnv at h
    obtain ⟨x, r, rfl, q⟩ := h
    obtain ⟨v, g, h', e1, q1, rfl, q2, q3⟩ := REnv.get q (show Γ[i]? = some (some d) by simpa using e)
    refine ⟨v, g, h', by simpa using e1, q1, rfl, ?_, fun d' v' g' q' => ?_⟩
    · show REnv H (none :: Γ.set i none) _ _
      unfold REnv
      exact ⟨x, r, rfl, q2⟩
    · show REnv H (none :: Γ.set i (some d')) (x :: r.set i (some v')) _
      unfold REnv
      exact ⟨x, _, rfl, q3 d' v' g' q'⟩
  | some c :: Γ, σ, f, i + 1, d, h, e => by
    unfold REnv at h
    obtain ⟨w, r, g0, h0, rfl, q0, q, rfl⟩ := h
    obtain ⟨v, g, h', e1, q1, rfl, q2, q3⟩ := REnv.get q (show Γ[i]? = some (some d) by simpa using e)
    refine ⟨v, g, g0.add h', by simpa using e1, q1, Fp.add_left_comm _ _ _, ?_, fun d' v' g' q' => ?_⟩
    · show REnv H (some c :: Γ.set i none) _ _
      unfold REnv
      exact ⟨w, r, g0, h', rfl, q0, q2, rfl⟩
    · show REnv H (some c :: Γ.set i (some d')) (some w :: r.set i (some v')) _
      unfold REnv
      exact ⟨w, _, g0, _, rfl, q0, q3 d' v' g' q', Fp.add_left_comm _ _ _⟩
theorem set_self {α : Type} : ∀ {l : List α} {i : Nat} {x : α}, l[i]? = some x → l.set i x = l
  | [], _, _, h => by simp at h
  | a :: l, 0, x, h => by
    have : a = x := by simpa using h
    rw [this]; rfl
  | a :: l, i + 1, x, h => by
    show a :: l.set i x = _
    rw [set_self (show l[i]? = some x by simpa using h)]
/-- a slot changed in place -/
theorem REnv.put {Γ : En} {σ : L2.St} {f : Fp} {i : Nat} {d : D} (h : REnv H Γ σ f) (e : Γ[i]? = some (some d)) :
    ∃ v g h, σ[i]? = some (some v) ∧ Rep H d v g ∧ f = g.add h ∧ REnv H (Γ.set i none) σ h ∧ ∀ d' g', Rep H d' v g' → REnv H (Γ.set i (some d')) σ (g'.add h) := by
  obtain ⟨v, g, h', e1, q1, e2, q2, q3⟩ := h.get e
  refine ⟨v, g, h', e1, q1, e2, q2, fun d' g' q => ?_⟩
  have := q3 d' v g' q
  rw [set_self e1] at this
  exact this
/-- any slot forgotten -/
theorem REnv.none : ∀ {Γ : En} {σ : L2.St} {f : Fp} (i : Nat), REnv H Γ σ f → ∃ g h : Fp, f = g.add h ∧ REnv H (Γ.set i none) σ h
  | [], σ, f, i, h => ⟨Fp.zero, f, (Fp.zero_add _).symm, by simpa using h⟩
  | .none :: Γ, σ, f, 0, h => ⟨Fp.zero, f, (Fp.zero_add _).symm, h⟩
  | some d :: Γ, σ, f, 0, h => by
    obtain ⟨v, g, h', e1, q1, e2, q2, _⟩ := h.get (i := 0) (d := d) rfl
    exact ⟨g, h', e2, q2⟩
  | .none :: Γ, σ, f, i + 1, h => by
    unfold REnv at h
    obtain ⟨x, r, rfl, q⟩ := h
    obtain ⟨g, h', e, q'⟩ := REnv.none i q
    refine ⟨g, h', e, ?_⟩
    show REnv H (Option.none :: Γ.set i Option.none) _ _
    unfold REnv
    exact ⟨x, r, rfl, q'⟩
  | some d :: Γ, σ, f, i + 1, h => by
    unfold REnv at h
    obtain ⟨v, r, g0, h0, rfl, q0, q, rfl⟩ := h
    obtain ⟨g, h', rfl, q'⟩ := REnv.none i q
    refine ⟨g, g0.add h', Fp.add_left_comm _ _ _, ?_⟩
    show REnv H (some d :: Γ.set i Option.none) _ _
    unfold REnv
    exact ⟨v, r, g0, h', rfl, q0, q', rfl⟩
/-- a slot stored anew -/
theorem REnv.store : ∀ {Γ : En} {σ : L2.St} {f : Fp} {i : Nat}, REnv H Γ σ f → i < Γ.length → ∃ g h : Fp, f = g.add h ∧ ∀ d v g', Rep H d v g' → REnv H (Γ.set i (some d)) (σ.set i (some v)) (g'.add h)
  | [], _, _, i, _, l => by simp at l
  | .none :: Γ, σ, f, 0, h, l => by
    unfold REnv at h
    obtain ⟨x, r, rfl, q⟩ := h
    refine ⟨Fp.zero, f, (Fp.zero_add _).symm, fun d v g' p => ?_⟩
    show REnv H (some d :: Γ) (some v :: r) _
    unfold REnv
    exact ⟨v, r, g', f, rfl, p, q, rfl⟩
  | some c :: Γ, σ, f, 0, h, l => by
    unfold REnv at h
    obtain ⟨w, r, g0, h0, rfl, q0, q, rfl⟩ := h
    refine ⟨g0, h0, rfl, fun d v g' p => ?_⟩
    show REnv H (some d :: Γ) (some v :: r) _
    unfold REnv
    exact ⟨v, r, g', h0, rfl, p, q, rfl⟩
  | .none :: Γ, σ, f, i + 1, h, l => by
    unfold REnv at h
    obtain ⟨x, r, rfl, q⟩ := h
    obtain ⟨g, h', e, q'⟩ := REnv.store q (i := i) (by simpa using l)
    refine ⟨g, h', e, fun d v g' p => ?_⟩
    show REnv H (Option.none :: Γ.set i (some d)) (x :: r.set i (some v)) _
    unfold REnv
    exact ⟨x, _, rfl, q' d v g' p⟩
  | some c :: Γ, σ, f, i + 1, h, l => by
    unfold REnv at h
    obtain ⟨w, r, g0, h0, rfl, q0, q, rfl⟩ := h
    obtain ⟨g, h', rfl, q'⟩ := REnv.store q (i := i) (by simpa using l)
    refine ⟨g, g0.add h', Fp.add_left_comm _ _ _, fun d v g' p => ?_⟩
    show REnv H (some c :: Γ.set i (some d)) (some w :: r.set i (some v)) _
    unfold REnv
    exact ⟨w, _, g0, _, rfl, q0, q' d v g' p, Fp.add_left_comm _ _ _⟩

/-! ### steps -/
theorem Step.refl (H : Hp) (f : Fp) : Step H f H f := ⟨fun _ _ h _ _ => h, fun h => h, fun _ h => .inl h, fun _ h => .inl (by omega), fun _ h => .inl (by omega)⟩
theorem Step.trans {H1 H2 : Hp} {f f1 f2 : Fp} (a : Step H f H1 f1) (b : Step H1 f1 H2 f2) : Step H f H2 f2 where
  tab := fun t => b.tab (a.tab t)
  frame := fun x u h z nt => by
    have h1 := a.frame x u h z nt
    refine b.frame x u h1 ?_ nt
    by_cases p : 0 < f1.o x
    · rcases a.own x p with q | q
      · omega
      · exact q.no ⟨u, h, nt⟩
    · omega
  own := fun x h => by
    rcases b.own x h with q | q
    · exact a.own x q
    · exact a.gone q
  lent := fun x h => by
    rcases b.lent x h with q | q
    · by_cases p : 0 < f1.o x
      · rcases a.own x p with z | z
        · exact .inl (by omega)
        · exact .inr z
      · exact a.lent x (by omega)
    · exact a.gone2 q
  shr := fun x h => by
    rcases b.shr x h with q | q
    · by_cases p : 0 < f1.o x
      · rcases a.own x p with z | z
        · exact .inl (by omega)
        · exact .inr z
      · by_cases p2 : 0 < f1.l x
        · rcases a.lent x p2 with z | z
          · exact .inl (by omega)
          · exact .inr z
        · exact a.shr x (by omega)
    · exact a.gone3 q
/-- less is held at the end -/
theorem Step.less {f f' g : Fp} (a : Step H f H' f') (l : g.le f') : Step H f H' g :=
  ⟨a.frame, a.tab, fun x h => a.own x (Nat.lt_of_lt_of_le h (l x).1), fun x h => a.lent x (Nat.lt_of_lt_of_le h (l x).2.1), fun x h => a.shr x (Nat.lt_of_lt_of_le h (l x).2.2)⟩
/-- what is held beside -/
theorem Step.keeps {f f' g : Fp} (s : Step H f H' f') (G : Good (g.add f)) (hn : ∀ a, 0 < g.at a → Dm H a) : ∀ a u, H a = some u → 0 < g.at a → H' a = some u := fun a u h p => by
  obtain ⟨u2, h2, nt⟩ := hn a p
  rw [h] at h2
  cases h2
  refine s.frame a u h ?_ nt
  have q := G.g a
  unfold Fp.at at p
  unfold Fp.add at q
  simp only at q
  by_cases z : f.o a = 0
  · exact z
  · have := q.2 (by omega)
    omega
theorem Step.beside {f f' g : Fp} (s : Step H f H' f') (hd : ∀ a, 0 < g.at a → Dm H a) : Step H (g.add f) H' (g.add f') where
  frame := fun a u h z nt => s.frame a u h (by unfold Fp.add at z; simp only at z; omega) nt
  tab := s.tab
  own := fun a h => by
    unfold Fp.add at h ⊢
    simp only at h ⊢
    by_cases p : 0 < f'.o a
    · rcases s.own a p with q | q
      · exact .inl (by omega)
      · exact .inr q
    · exact .inl (by omega)
  lent := fun a h => by
    unfold Fp.add at h ⊢
    simp only at h ⊢
    by_cases p : 0 < f'.l a
    · rcases s.lent a p with q | q
      · exact .inl (by omega)
      · exact .inr q
    · exact .inl (by omega)
  shr := fun a h => by
    unfold Fp.add at h ⊢
    simp only at h ⊢
    by_cases p : 0 < f'.s a
    · rcases s.shr a p with q | q
      · exact .inl (by omega)
      · exact .inr q
    · exact .inl (by omega)
theorem Step.good {f f' g : Fp} (s : Step H f H' f') (G : Good (g.add f)) (G' : Good f') (hd : ∀ a, 0 < g.at a → Dm H a) : Good (g.add f') := ⟨fun a => by
  have q := G.g a
  have q' := G'.g a
  have o := s.own a
  have l := s.lent a
  have z := s.shr a
  have d := hd a
  unfold Fp.at at d
  unfold Fp.add at q ⊢
  simp only at q ⊢
  have nn : 0 < g.o a + g.l a + g.s a → ¬ Fr H a := fun p e => (d p).no e
  refine ⟨?_, fun p => ?_⟩
  · by_cases hg : 0 < g.o a + g.l a
    · have n := nn (by omega)
      have e1 : f'.o a = 0 := by
        by_cases p : 0 < f'.o a
        · rcases o p with y | y
          · omega
          · exact absurd y n
        · omega
      have e2 : f'.l a = 0 := by
        by_cases p : 0 < f'.l a
        · rcases l p with y | y
          · omega
          · exact absurd y n
        · omega
      omega
    · omega
  · by_cases hg : 0 < g.o a + g.l a
    · have n := nn (by omega)
      have e0 := q.2 (by omega)
      by_cases p : 0 < f'.s a
      · rcases z p with y | y
        · omega
        · exact absurd y n
      · omega
    · have e0 := q'.2 (by omega)
      by_cases hs : 0 < g.s a
      · have n := nn (by omega)
        have e1 : f.o a + f.l a = 0 := by
          by_cases y : 0 < f.o a + f.l a
          · have := q.2 (by omega)
            omega
          · omega
        by_cases p : 0 < f'.o a
        · rcases o p with y | y
          · omega
          · exact absurd y n
        · by_cases p2 : 0 < f'.l a
          · rcases l p2 with y | y
            · omega
            · exact absurd y n
          · omega
      · omega⟩
end
end VE

end
section
set_option maxHeartbeats 1000000
/-! VEd: the operators' rules. -/
namespace VE
open PySem PySem.Spec PyProof.Rows L2

def Obs (H : Hp) (F : Fp) (d : D) (v : V) : Prop := ∃ g, Rep H d v g ∧ g.le F
structure OpRes (F : Fp) (H H' : Hp) (d : D) (v : V) (g : Fp) : Prop where
  rep : Rep H' d v g
  ext : ∀ a u, H a = some u → H' a = some u
  good : Good g
  lent : ∀ a, g.l a = 0
  own : ∀ a, 0 < g.o a → H a = none
  shr : ∀ a, 0 < g.s a → 0 < F.s a ∨ H a = none
def Fin1 (F : Fp) (H : Hp) (d : D) (Q : VK) : Prop := ∀ v H' g, OpRes F H H' d v g → Q v H'

section
variable {H : Hp} {F : Fp}
theorem guardO_some {α : Type} {c : Bool} {a : Option α} {x : α} (h : guardO c a = some x) : c = true ∧ a = some x := by
  unfold guardO at h
  split at h
  · exact ⟨by assumption, h⟩
  · cases h
theorem Obs.int {i : Int} {v : V} (h : Obs H F (.int i) v) : v = .int i := by
  obtain ⟨g, r, _⟩ := h
  unfold Rep at r
  exact r.1
theorem Obs.bl {i : Bool} {v : V} (h : Obs H F (.bl i) v) : v = .bl i := by
  obtain ⟨g, r, _⟩ := h
  unfold Rep at r
  exact r.1
theorem Obs.str {i : Str} {v : V} (h : Obs H F (.str i) v) : v = .str i := by
  obtain ⟨g, r, _⟩ := h
  unfold Rep at r
  exact r.1
theorem Obs.non {v : V} (h : Obs H F .non v) : v = .non := by
  obtain ⟨g, r, _⟩ := h
  unfold Rep at r
  exact r.1
theorem Obs.lst {o : Fl} {ds : List D} {v : V} (h : Obs H F (.lst o ds) v) : ∃ a vs g, v = .ref a ∧ Rd H a (.lst vs) ∧ RepL H ds vs g ∧ g.le F := by
  obtain ⟨f, r, l⟩ := h
  cases o with
  | own =>
    unfold Rep at r
    obtain ⟨a, vs, g, e, r, q, rfl⟩ := r
    exact ⟨a, vs, g, e, .inl q, r, fun b => by have := l b; unfold Fp.own at this; simp only at this; omega⟩
  | lent =>
    unfold Rep at r
    obtain ⟨a, vs, g, e, r, q, rfl⟩ := r
    exact ⟨a, vs, g, e, .inl q, r, fun b => by have := l b; unfold Fp.lent at this; simp only at this; omega⟩
  | shr =>
    unfold Rep at r
    obtain ⟨a, vs, g, e, r, z, q, rfl⟩ := r
    exact ⟨a, vs, g, e, q, r, fun b => by have := l b; unfold Fp.sh at this; simp only at this; omega⟩
theorem Obs.tup {ds : List D} {v : V} (h : Obs H F (.tup ds) v) : ∃ a vs g, v = .ref a ∧ Rd H a (.tup vs) ∧ RepL H ds vs g ∧ g.le F := by
  obtain ⟨f, r, l⟩ := h
  unfold Rep at r
  obtain ⟨a, vs, g, e, r, q, rfl⟩ := r
  exact ⟨a, vs, g, e, q, r, fun b => by have := l b; unfold Fp.sh at this; simp only at this; omega⟩
theorem Fin1.int {i : Int} {Q : VK} (h : Fin1 F H (.int i) Q) : Q (.int i) H :=
  h _ H Fp.zero ⟨by unfold Rep; exact ⟨rfl, rfl⟩, fun _ _ x => x, Good.zero, fun _ => rfl, fun _ p => absurd p (Nat.lt_irrefl 0), fun _ p => absurd p (Nat.lt_irrefl 0)⟩
theorem Fin1.bl {i : Bool} {Q : VK} (h : Fin1 F H (.bl i) Q) : Q (.bl i) H :=
  h _ H Fp.zero ⟨by unfold Rep; exact ⟨rfl, rfl⟩, fun _ _ x => x, Good.zero, fun _ => rfl, fun _ p => absurd p (Nat.lt_irrefl 0), fun _ p => absurd p (Nat.lt_irrefl 0)⟩
/-- a new list of shared things -/
theorem Fin1.lst {ds : List D} {vs : List V} {g : Fp} {Q : VK} (h : Fin1 F H (.lst .own ds) Q) (r : RepL H ds vs g) (z : ∀ a, g.o a = 0 ∧ g.l a = 0) (zs : ∀ a, 0 < g.s a → 0 < F.s a) : ∀ p, H p = none → Q (.ref p) (upd H p (.lst vs)) := fun p hp => by
  have ne : ∀ a, 0 < g.at a → a ≠ p := fun a q e => by
    obtain ⟨u, hu, _⟩ := RepL.dom ds r a q
    rw [e, hp] at hu
    cases hu
  refine h _ _ (g.own p) ⟨?_, fun a u hu => ?_, ⟨fun a => ?_⟩, fun a => (z a).2, fun a q => ?_, fun a q => .inl (zs a q)⟩
  · unfold Rep
    refine ⟨p, vs, g, rfl, RepL.mono ds r fun a u hu q => ?_, upd_same, rfl⟩
    rw [upd_ne (ne a q)]
    exact hu
  · rw [upd_ne (ne_of_none hu hp)]
    exact hu
  · have q := z a
    unfold Fp.own one
    simp only
    by_cases e : a = p
    · subst e
      have s0 : g.s a = 0 := by
        by_cases p0 : 0 < g.s a
        · exact absurd rfl (ne a (by unfold Fp.at; omega))
        · omega
      simp only [if_pos]
      omega
    · simp only [if_neg e]
      omega
  · have q1 := z a
    unfold Fp.own one at q
    simp only at q
    by_cases e : a = p
    · rw [e]; exact hp
    · simp only [if_neg e] at q
      omega
/-- a new tuple of shared things -/
theorem Fin1.tup {ds : List D} {vs : List V} {g : Fp} {Q : VK} (h : Fin1 F H (.tup ds) Q) (r : RepL H ds vs g) (z : ∀ a, g.o a = 0 ∧ g.l a = 0) (zs : ∀ a, 0 < g.s a → 0 < F.s a) : ∀ p, H p = none → Q (.ref p) (upd H p (.tup vs)) := fun p hp => by
  have ne : ∀ a, 0 < g.at a → a ≠ p := fun a q e => by
    obtain ⟨u, hu, _⟩ := RepL.dom ds r a q
    rw [e, hp] at hu
    cases hu
  refine h _ _ (g.sh p) ⟨?_, fun a u hu => ?_, ⟨fun a => ?_⟩, fun a => (z a).2, fun a q => ?_, fun a q => ?_⟩
  · unfold Rep
    refine ⟨p, vs, g, rfl, RepL.mono ds r fun a u hu q => ?_, .inl upd_same, rfl⟩
    rw [upd_ne (ne a q)]
    exact hu
  · rw [upd_ne (ne_of_none hu hp)]
    exact hu
  · have q := z a
    unfold Fp.sh
    simp only
    omega
  · have q1 := z a
    unfold Fp.sh at q
    simp only at q
    omega
  · unfold Fp.sh one at q
    simp only at q
    by_cases e : a = p
    · rw [e]; exact .inr hp
    · simp only [if_neg e] at q
      exact .inl (zs a (by omega))
/-- an item that may be held twice -/
theorem Fin1.dup {d : D} {v : V} {g : Fp} {Q : VK} (h : Fin1 F H d Q) (r : Rep H d v g) (l : g.le F) (hd : dup d = true) : Q v H := by
  have z := Rep.dup d r hd
  exact h v H g ⟨r, fun _ _ x => x, ⟨fun a => by have := z a; omega⟩, fun a => (z a).2, fun a p => by have := (z a).1; omega, fun a p => .inl (Nat.lt_of_lt_of_le p (l a).2.2)⟩
theorem sh_of {ds : List D} {vs : List V} {g : Fp} (r : RepL H ds vs g) (hd : dupL ds = true) : ∀ a, g.o a = 0 ∧ g.l a = 0 := fun a => RepL.dup ds r hd a
end

/-! ### lists that may be frozen: +, * -/
section
variable {X : Cx}
theorem rd_list {pins : List (Addr × Obj)} {σ : L2.St} {H : Hp} {s : Shared} {l : Addr} {xs : List V} (I : Inv X pins σ H s) (h : Rd H l (.lst xs)) :
    xs.length ≤ sizeLine ∧ ∃ (its : List Value) (n : Nat), Vals xs its ∧ xs.length = its.length ∧ s.heap.get? l = some { cls := .type "list", data := .seq its.toArray n } := by
  obtain ⟨z, its, n, r, e⟩ := h.ok I.hok
  exact ⟨z, its, n, r, r.length, e⟩
def rCatR : R2 := fun x y H Q => ∃ l b xs zs, x = .ref l ∧ y = .ref b ∧ Rd H l (.lst xs) ∧ Rd H b (.lst zs) ∧ xs.length + zs.length ≤ sizeLine ∧ ∀ p, H p = none → Q (.ref p) (upd H p (.lst (xs ++ zs)))
theorem op_catR : OpR X (binaryOp .Add) rCatR := by
  intro pins s σ H x y v u Q I rx ry h
  obtain ⟨l, b, xs, zs, rfl, rfl, hH, hB, hz, q⟩ := h
  cases rx
  cases ry
  obtain ⟨z, its, n, r, hl, e⟩ := rd_list I hH
  obtain ⟨z2, its2, n2, r2, hl2, e2⟩ := rd_list I hB
  refine PySem.P.add_list e e2 ?_ (by rw [List.size_toArray, List.size_toArray]; omega)
  have ea : its.toArray ++ its2.toArray = (its ++ its2).toArray := by simp
  rw [ea]
  exact ⟨.ref _, _, I.lnew (t' := s.toks) (r.append r2) (by rw [List.length_append]; omega), rfl, q _ I.fresh⟩
/-- for a rule that asks a list that is not frozen: H with it laid open -/
def rRepR : R2 := fun x y H Q => ∃ l k xs, x = .ref l ∧ y = .int k ∧ H l = some (.lst xs) ∧ -(2 ^ 63) ≤ k ∧ k < 2 ^ 63 ∧ xs.length * k.toNat ≤ sizeLine ∧
  ∀ p, H p = none → Q (.ref p) (upd H p (.lst (List.replicate k.toNat xs).flatten))
end

/-! ### two operands -/
def opOfBin : Operator → Option Op
  | .Add => some .add
  | .Sub => some .sub
  | .Mult => some .mul
  | .FloorDiv => some .fdiv
  | .Mod => some .mod
  | .Pow => some .pow
  | .LShift => some .shl
  | .RShift => some .shr
  | .BitAnd => some .band
  | .BitOr => some .bor
  | .BitXor => some .bxor
  | _ => none
def binR : Op → R2
  | .add => fun x y H Q => rI0 (fun i j => .int (i + j)) x y H Q ∨ rCatR x y H Q
  | .sub => rI0 fun i j => .int (i - j)
  | .mul => fun x y H Q => rI CMul (fun i j => .int (i * j)) x y H Q ∨ rRep x y H Q
  | .fdiv => rI CDivW fun i j => .int (i / j)
  | .mod => rI (fun _ j => 0 < j) fun i j => .int (i % j)
  | .pow => rI CPow fun i j => .int (i ^ j.toNat)
  | .shl => rI CPow fun i j => .int (i * 2 ^ j.toNat)
  | .shr => rI (fun _ j => 0 ≤ j) fun i j => .int (i / 2 ^ j.toNat)
  | .band => rI0 fun i j => .int (Builtin.bitAnd i j)
  | .bor => rI0 fun i j => .int (Builtin.bitOr i j)
  | .bxor => rI0 fun i j => .int (Builtin.bitXor i j)
  | _ => fun _ _ _ _ => False
theorem bin_rule {X : Cx} {o : Operator} {p : Op} (h : opOfBin o = some p) : OpR X (binaryOp o) (binR p) := by
  cases o <;> simp [opOfBin] at h <;> subst h
  · exact op_add.or op_catR
  · exact op_sub
  · exact op_mul.or op_rep
  · exact op_mod
  · exact op_pow
  · exact op_shl
  · exact op_shr
  · exact op_or
  · exact op_xor
  · exact op_and
  · exact op_fdivW
theorem iop_rule {X : Cx} {o : Operator} {p : Op} (h : opOfBin o = some p) (hp : p = .add ∨ p = .sub ∨ p = .mul) : OpR X (inplaceOp o) (fun x y H Q => ∃ i j, x = .int i ∧ y = .int j ∧ binR p x y H Q) := by
  cases o <;> simp [opOfBin] at h <;> subst h <;> simp at hp
  · intro pins s σ H x y v u Q I rx ry q
    obtain ⟨i, j, rfl, rfl, q⟩ := q
    rcases q with q | ⟨_, _, _, _, q, _⟩
    · exact iop_add pins s σ H _ _ v u Q I rx ry q
    · cases q
  · intro pins s σ H x y v u Q I rx ry q
    obtain ⟨i, j, rfl, rfl, q⟩ := q
    exact iop_sub pins s σ H _ _ v u Q I rx ry q
  · intro pins s σ H x y v u Q I rx ry q
    obtain ⟨i, j, rfl, rfl, q⟩ := q
    rcases q with q | ⟨_, _, _, q, _⟩
    · exact iop_mul pins s σ H _ _ v u Q I rx ry q
    · cases q
theorem line_le {n : Nat} (h : n ≤ line) : n ≤ sizeLine := by
  rw [sizeLine_eq]
  unfold line at h
  omega
theorem okMul_of {i j : Int} (h : okMul i j = true) : CMul i j := by
  unfold okMul at h
  rw [Bool.or_eq_true, Bool.and_eq_true, Bool.and_eq_true, decide_eq_true_eq, decide_eq_true_eq, decide_eq_true_eq, decide_eq_true_eq] at h
  exact h.elim .inr .inl
theorem rep_int {H : Hp} (i : Int) : Rep H (.int i) (.int i) Fp.zero := by unfold Rep; exact ⟨rfl, rfl⟩
theorem okDiv_of {i j : Int} (h : okDiv j = true) : CDivW i j := by
  unfold okDiv at h
  rw [Bool.and_eq_true, Bool.or_eq_true, decide_eq_true_eq, decide_eq_true_eq, decide_eq_true_eq] at h
  refine ⟨h.1, ?_⟩
  rcases h.2 with q | q
  · by_cases h0 : j.natAbs = 0
    · rw [h0]; decide +kernel
    · have : j.natAbs.log2 < 30 := (Nat.log2_lt h0).mpr (by have := h.1; omega)
      omega
  · exact q
theorem okPow_of {i j : Int} (h : okPow i j = true) : CPow i j := by
  unfold okPow at h
  rw [Bool.and_eq_true, Bool.and_eq_true, decide_eq_true_eq, decide_eq_true_eq, decide_eq_true_eq] at h
  exact ⟨h.1.1, h.1.2, h.2⟩
theorem okRg_of {i : Int} (h : okRg i = true) : -1000000 ≤ i ∧ i ≤ 1000000 := by
  unfold okRg at h
  rw [Bool.and_eq_true, decide_eq_true_eq, decide_eq_true_eq] at h
  exact h
theorem intF_some {c : Int → Int → Bool} {f : Int → Int → Int} {a b d : D} (h : intF c f a b = some d) : ∃ i j, a = .int i ∧ b = .int j ∧ c i j = true ∧ d = .int (f i j) := by
  unfold intF at h
  split at h
  · obtain ⟨h1, h2⟩ := guardO_some h
    cases h2
    exact ⟨_, _, rfl, rfl, h1, rfl⟩
  · cases h
section
variable {H : Hp} {F : Fp} {c e d : D} {x y : V} {Q : VK}
theorem int_sat {C : Int → Int → Prop} {cb : Int → Int → Bool} {f : Int → Int → Int} (hx : Obs H F c x) (hy : Obs H F e y) (h : intF cb f c e = some d) (hc : ∀ i j, cb i j = true → C i j) (k : Fin1 F H d Q) : rI C (fun i j => .int (f i j)) x y H Q := by
  obtain ⟨i, j, rfl, rfl, h1, rfl⟩ := intF_some h
  exact ⟨i, j, hx.int, hy.int, hc _ _ h1, k.int⟩
theorem int_sat0 {cb : Int → Int → Bool} {f : Int → Int → Int} (hx : Obs H F c x) (hy : Obs H F e y) (h : intF cb f c e = some d) (k : Fin1 F H d Q) : rI0 (fun i j => .int (f i j)) x y H Q := by
  obtain ⟨i, j, rfl, rfl, h1, rfl⟩ := intF_some h
  exact ⟨i, j, hx.int, hy.int, k.int⟩
theorem add_sat (hx : Obs H F c x) (hy : Obs H F e y) (h : addF c e = some d) (k : Fin1 F H d Q) : binR .add x y H Q := by
  unfold addF at h
  split at h
  · cases h
    exact .inl ⟨_, _, hx.int, hy.int, k.int⟩
  · obtain ⟨h1, h2⟩ := guardO_some h
    cases h2
    rw [Bool.and_eq_true, Bool.and_eq_true, decide_eq_true_eq] at h1
    obtain ⟨a, vs, g, rfl, ra, r1, l1⟩ := hx.lst
    obtain ⟨b, ws, g2, rfl, rb, r2, l2⟩ := hy.lst
    have z1 := sh_of r1 h1.1.1
    have z2 := sh_of r2 h1.1.2
    refine .inr ⟨a, b, vs, ws, rfl, rfl, ra, rb, by rw [← r1.length, ← r2.length]; exact line_le h1.2, k.lst (r1.append r2) (fun b => ?_) fun b p => ?_⟩
    · have q1 := z1 b
      have q2 := z2 b
      show g.o b + g2.o b = 0 ∧ g.l b + g2.l b = 0
      omega
    · have p' : 0 < g.s b + g2.s b := p
      have q1 := (l1 b).2.2
      have q2 := (l2 b).2.2
      omega
  · cases h
theorem mul_sat (hx : Obs H F c x) (hy : Obs H F e y) (h : mulF c e = some d) (k : Fin1 F H d Q) : binR .mul x y H Q := by
  unfold mulF at h
  split at h
  · obtain ⟨h1, h2⟩ := guardO_some h
    cases h2
    exact .inl ⟨_, _, hx.int, hy.int, okMul_of h1, k.int⟩
  · rename_i o xs j
    obtain ⟨h1, h2⟩ := guardO_some h
    cases h2
    simp only [Bool.and_eq_true, decide_eq_true_eq] at h1
    obtain ⟨⟨⟨⟨h0, hd⟩, h3⟩, h4⟩, h5⟩ := h1
    have hl : ∃ a vs g, x = .ref a ∧ H a = some (.lst vs) ∧ RepL H xs vs g ∧ g.le F := by
      obtain ⟨f, r, l⟩ := hx
      cases o with
      | own =>
        unfold Rep at r
        obtain ⟨a, vs, g, e, r, q, rfl⟩ := r
        exact ⟨a, vs, g, e, q, r, fun b => by have := l b; unfold Fp.own at this; simp only at this; omega⟩
      | lent =>
        unfold Rep at r
        obtain ⟨a, vs, g, e, r, q, rfl⟩ := r
        exact ⟨a, vs, g, e, q, r, fun b => by have := l b; unfold Fp.lent at this; simp only at this; omega⟩
      | shr => exact absurd rfl h0
    obtain ⟨a, vs, g, rfl, ra, r1, l1⟩ := hl
    have z1 := sh_of r1 hd
    obtain ⟨g2, r2, e2⟩ := r1.rep j.toNat
    refine .inr ⟨a, j, vs, rfl, hy.int, ra, by omega, by omega, by rw [← r1.length]; exact line_le h5, k.lst r2 (fun b => ?_) fun b p => ?_⟩
    · have q1 := z1 b
      have q2 := e2 b
      rw [q1.1, q1.2] at q2
      omega
    · have q2 := (e2 b).2.2
      have q1 := (l1 b).2.2
      by_cases z : g.s b = 0
      · rw [z] at q2
        omega
      · omega
  · cases h
theorem bin_sat {p : Op} (hx : Obs H F c x) (hy : Obs H F e y) (h : opF p [c, e] = some d) (hb : ∃ o, opOfBin o = some p) (k : Fin1 F H d Q) : binR p x y H Q := by
  obtain ⟨o, ho⟩ := hb
  cases o <;> simp [opOfBin] at ho <;> subst ho
  · exact add_sat hx hy h k
  · exact int_sat0 hx hy h k
  · exact mul_sat hx hy h k
  · exact int_sat hx hy h (fun i j q => of_decide_eq_true q) k
  · exact int_sat hx hy h (fun i j q => okPow_of q) k
  · exact int_sat hx hy h (fun i j q => okPow_of q) k
  · exact int_sat hx hy h (fun i j q => of_decide_eq_true q) k
  · exact int_sat0 hx hy h k
  · exact int_sat0 hx hy h k
  · exact int_sat0 hx hy h k
  · exact int_sat hx hy h (fun i j q => okDiv_of q) k
end

/-! ### data compared -/
mutual
theorem shal_py : ∀ (n : Nat) (d : D) {H : Hp} {v : V} {f : Fp}, shal n d = true → Rep H d v f → ∀ K : PySem.W.Frag, Dp K H v (toPy d) ∧ (toPy d).canLay0 = true ∧ (toPy d).depth ≤ n + 1
  | n, .non, H, v, f, _, r, K => by
    unfold Rep at r
    rw [r.1]
    exact ⟨.non, rfl, by simp [toPy, PyData.depth]⟩
  | n, .bl b, H, v, f, _, r, K => by
    unfold Rep at r
    rw [r.1]
    exact ⟨.bl b, rfl, by simp [toPy, PyData.depth]⟩
  | n, .int i, H, v, f, _, r, K => by
    unfold Rep at r
    rw [r.1]
    exact ⟨.int i, rfl, by simp [toPy, PyData.depth]⟩
  | n, .str x, H, v, f, h, r, K => by
    unfold Rep at r
    rw [r.1]
    refine ⟨.str x, ?_, by simp [toPy, PyData.depth]⟩
    cases n <;> simpa [shal, toPy, PyData.canLay0] using h
  | n, .gone, H, v, f, h, r, K => by cases n <;> simp [shal] at h
  | 0, .tup ds, H, v, f, h, r, K => by simp [shal] at h
  | n + 1, .tup ds, H, v, f, h, r, K => by
    unfold shal at h
    obtain ⟨a, vs, g, rfl, hr, rl, _⟩ := Obs.tup (F := f) ⟨f, r, Fp.le.refl f⟩
    obtain ⟨q1, q2, q3⟩ := shal_pyL n ds h rl K
    refine ⟨.tup (.inl hr) q1, by simpa [toPy, PyData.canLay0] using q2, ?_⟩
    simp only [toPy, PyData.depth]
    omega
  | 0, .lst o ds, H, v, f, h, r, K => by simp [shal] at h
  | n + 1, .lst o ds, H, v, f, h, r, K => by
    unfold shal at h
    obtain ⟨a, vs, g, rfl, hr, rl, _⟩ := Obs.lst (F := f) ⟨f, r, Fp.le.refl f⟩
    obtain ⟨q1, q2, q3⟩ := shal_pyL n ds h rl K
    refine ⟨.lst (.inl hr) q1, by simpa [toPy, PyData.canLay0] using q2, ?_⟩
    simp only [toPy, PyData.depth]
    omega
theorem shal_pyL : ∀ (n : Nat) (ds : List D) {H : Hp} {vs : List V} {f : Fp}, ds.all (shal n) = true → RepL H ds vs f → ∀ K : PySem.W.Frag, DpAll K H vs (toPyL ds) ∧ PyData.canLayAll0 (toPyL ds) = true ∧ PyData.depthAll (toPyL ds) ≤ n + 1
  | n, [], H, vs, f, _, r, K => by
    obtain ⟨rfl, _⟩ := r.inv0
    exact ⟨.nil, rfl, by simp [toPyL, PyData.depthAll]⟩
  | n, d :: ds, H, vs, f, h, r, K => by
    rw [List.all_cons, Bool.and_eq_true] at h
    obtain ⟨v, w, g, h', rfl, r1, r2, rfl⟩ := r.inv
    obtain ⟨q1, q2, q3⟩ := shal_py n d h.1 r1 K
    obtain ⟨p1, p2, p3⟩ := shal_pyL n ds h.2 r2 K
    refine ⟨.cons q1 p1, by simp [toPyL, PyData.canLayAll0, q2, p2], ?_⟩
    simp only [toPyL, PyData.depthAll]
    omega
end
theorem shal_shaped {n : Nat} {d : D} {H : Hp} {v : V} {f : Fp} (h : shal n d = true) (hn : n ≤ 60) (r : Rep H d v f) (K : PySem.W.Frag) : Dp K H v (toPy d) ∧ SeqAt.shaped (toPy d) = true := by
  obtain ⟨q1, q2, q3⟩ := shal_py n d h r K
  refine ⟨q1, ?_⟩
  unfold SeqAt.shaped
  rw [q2, Bool.true_and, decide_eq_true_eq]
  omega
theorem flat_of {H : Hp} {F : Fp} {d : D} {v : V} (h : flat d = true) (r : Obs H F d v) : flatV v = true := by
  cases d with
  | non => rw [r.non]; rfl
  | bl b => rw [r.bl]; rfl
  | int i => rw [r.int]; rfl
  | str s => rw [r.str]; rfl
  | _ => simp [flat] at h
theorem eqF_of {H : Hp} {F : Fp} {d e : D} {v w : V} (h : flat d = true) (h2 : flat e = true) (r : Obs H F d v) (r2 : Obs H F e w) : eqV v w = eqF d e := by
  cases d <;> first | (simp [flat] at h; done) | skip
  all_goals cases e <;> first | (simp [flat] at h2; done) | skip
  all_goals first
    | rw [r.non] | rw [r.bl] | rw [r.int] | rw [r.str]
  all_goals first
    | (rw [r2.non]; rfl) | (rw [r2.bl]; rfl) | (rw [r2.int]; rfl) | (rw [r2.str]; rfl)
theorem flats : ∀ {H : Hp} {F : Fp} {ds : List D} {vs : List V} {g : Fp} {d : D} {v : V}, RepL H ds vs g → ds.all flat = true → flat d = true → Obs H F d v → vs.all flatV = true ∧ (vs.any fun y => eqV y v) = ds.any fun y => eqF y d
  | H, F, [], vs, g, d, v, r, _, _, _ => by
    obtain ⟨rfl, _⟩ := r.inv0
    exact ⟨rfl, rfl⟩
  | H, F, c :: ds, vs, g, d, v, r, h, hd, o => by
    rw [List.all_cons, Bool.and_eq_true] at h
    obtain ⟨w, ws, g1, g2, rfl, r1, r2, rfl⟩ := r.inv
    obtain ⟨q1, q2⟩ := flats r2 h.2 hd o
    have o1 : Obs H g1 c w := ⟨g1, r1, Fp.le.refl _⟩
    have o2 : Obs H g1 c w := o1
    refine ⟨?_, ?_⟩
    · rw [List.all_cons, q1, flat_of h.1 o1]
      rfl
    · rw [List.any_cons, List.any_cons, q2]
      congr 1
      obtain ⟨fd, rd, _⟩ := o
      exact eqF_of (F := g1.add fd) h.1 hd ⟨g1, r1, Fp.le_addL _ _⟩ ⟨fd, rd, Fp.le_addR _ _⟩

/-! ### comparisons -/
def opOfCmp : CmpOp → Option OpC
  | .Lt => some .lt
  | .LtE => some .le
  | .Gt => some .gt
  | .GtE => some .ge
  | .Eq => some .eq
  | .NotEq => some .ne
  | .Is => some .isn
  | .IsNot => some .notn
  | .In => some .mem
  | .NotIn => some .nmem
def cmpR (K : PySem.W.Frag) : OpC → R2
  | .lt => rI0 fun i j => .bl (decide (i < j))
  | .le => rI0 fun i j => .bl (decide (i ≤ j))
  | .gt => rI0 fun i j => .bl (decide (j < i))
  | .ge => rI0 fun i j => .bl (decide (j ≤ i))
  | .eq => rEqD K
  | .ne => rNeD K
  | .isn => fun x y H Q => y = .non ∧ Q (.bl (decide (x = .non))) H
  | .notn => fun x y H Q => y = .non ∧ Q (.bl (!decide (x = .non))) H
  | .mem => fun x y H Q => rIn K false x y H Q ∨ rInD K x y H Q
  | .nmem => fun x y H Q => rIn K true x y H Q ∨ rNotInD K x y H Q
theorem cmp_rule {X : Cx} (hu : X.A.units + 65 < cLine) {o : CmpOp} {p : OpC} (h : opOfCmp o = some p) : OpR X (compareOp o) (cmpR X.K p) := by
  cases o <;> simp [opOfCmp] at h <;> subst h
  · exact op_eqD (by omega)
  · exact op_neD (by omega)
  · exact op_lt
  · exact op_le
  · exact op_gt
  · exact op_ge
  · exact op_isN
  · exact op_notN
  · exact op_in_seq.or (op_inD hu)
  · exact op_notIn_seq.or (op_notInD hu)
section
variable {H : Hp} {F : Fp} {c e d : D} {x y : V} {Q : VK}
theorem any_py {ds : List D} {d : D} : (toPyL ds).any (fun z => PyData.eqv z (toPy d)) = ds.any fun y => eqD y d := by
  induction ds with
  | nil => rfl
  | cons a ds ih =>
    unfold toPyL
    rw [List.any_cons, List.any_cons, ih]
    rfl
theorem shal_lst {o : Fl} {ds : List D} {v : V} {f : Fp} (h : ds.all (shal 8) = true) (r : Rep H (.lst o ds) v f) (K : PySem.W.Frag) : Dp K H v (.list (toPyL ds)) ∧ SeqAt.shaped (.list (toPyL ds)) = true := by
  have := shal_shaped (n := 9) (d := .lst o ds) (by unfold shal; exact h) (by omega) r K
  exact this
theorem nn_of (r : Obs H F c x) (hc : c ≠ .non) (hg : c ≠ .gone) : decide (x = V.non) = false := by
  cases c with
  | non => exact absurd rfl hc
  | gone => exact absurd rfl hg
  | bl b => rw [r.bl]; rfl
  | int i => rw [r.int]; rfl
  | str i => rw [r.str]; rfl
  | tup ds => obtain ⟨a, vs, g, rfl, _⟩ := r.tup; rfl
  | lst o ds => obtain ⟨a, vs, g, rfl, _⟩ := r.lst; rfl
theorem cmp_sat {K : PySem.W.Frag} {p : OpC} {k : Bool} (hx : Obs H F c x) (hy : Obs H F e y) (h : cmpF p c e = some k) (q : Q (.bl k) H) : cmpR K p x y H Q := by
  have eqs : ∀ {b : Bool} {r : Option Bool}, guardO (shal 8 c && shal 8 e) r = some b → ∃ d1 d2, Dp K H x d1 ∧ Dp K H y d2 ∧ d1 = toPy c ∧ d2 = toPy e ∧ SeqAt.shaped d1 = true ∧ SeqAt.shaped d2 = true ∧ r = some b := fun {b r} hh => by
    obtain ⟨h1, h2⟩ := guardO_some hh
    rw [Bool.and_eq_true] at h1
    obtain ⟨gx, rx, _⟩ := hx
    obtain ⟨gy, ry, _⟩ := hy
    obtain ⟨a1, a2⟩ := shal_shaped h1.1 (by omega) rx K
    obtain ⟨b1, b2⟩ := shal_shaped h1.2 (by omega) ry K
    exact ⟨_, _, a1, b1, rfl, rfl, a2, b2, h2⟩
  cases p with
  | lt =>
    unfold cmpF at h
    split at h <;> first | (cases h; done) | skip
    all_goals first | contradiction | skip
    all_goals first | (cases h; exact ⟨_, _, hx.int, hy.int, q⟩) | cases h
  | le =>
    unfold cmpF at h
    split at h <;> first | (cases h; done) | skip
    all_goals first | contradiction | skip
    all_goals first | (cases h; exact ⟨_, _, hx.int, hy.int, q⟩) | cases h
  | gt =>
    unfold cmpF at h
    split at h <;> first | (cases h; done) | skip
    all_goals first | contradiction | skip
    all_goals first | (cases h; exact ⟨_, _, hx.int, hy.int, q⟩) | cases h
  | ge =>
    unfold cmpF at h
    split at h <;> first | (cases h; done) | skip
    all_goals first | contradiction | skip
    all_goals first | (cases h; exact ⟨_, _, hx.int, hy.int, q⟩) | cases h
  | eq =>
    have h' : guardO (shal 8 c && shal 8 e) (some (eqD c e)) = some k := by
      unfold cmpF at h
      exact h
    obtain ⟨d1, d2, a1, b1, rfl, rfl, a2, b2, h3⟩ := eqs h'
    cases h3
    exact ⟨_, _, a1, b1, a2, b2, q⟩
  | ne =>
    have h' : guardO (shal 8 c && shal 8 e) (some (!eqD c e)) = some k := by
      unfold cmpF at h
      exact h
    obtain ⟨d1, d2, a1, b1, rfl, rfl, a2, b2, h3⟩ := eqs h'
    cases h3
    exact ⟨_, _, a1, b1, a2, b2, q⟩
  | isn =>
    cases e <;> first | (simp [cmpF] at h; done) | skip
    refine ⟨hy.non, ?_⟩
    cases c <;> simp [cmpF] at h
    · subst h
      rw [hx.non]
      exact q
    all_goals (subst h; rw [nn_of hx (by simp) (by simp)]; exact q)
  | notn =>
    cases e <;> first | (simp [cmpF] at h; done) | skip
    refine ⟨hy.non, ?_⟩
    cases c <;> simp [cmpF] at h
    · subst h
      rw [hx.non]
      exact q
    all_goals (subst h; rw [nn_of hx (by simp) (by simp)]; exact q)
  | mem =>
    cases e with
    | lst o xs =>
      have h' : (if (flat c && xs.all flat) = true then some (xs.any fun y => eqF y c) else guardO (shal 8 c && xs.all (shal 8)) (some (xs.any fun y => eqD y c))) = some k := by
        unfold cmpF at h
        exact h
      split at h'
      · rename_i hf
        rw [Bool.and_eq_true] at hf
        cases h'
        obtain ⟨a, vs, g, rfl, hr, rl, _⟩ := hy.lst
        obtain ⟨q1, q2⟩ := flats rl hf.2 hf.1 hx
        refine .inl ⟨a, vs, rfl, .inl (.inl hr), flat_of hf.1 hx, q1, ?_⟩
        unfold inV
        rw [q2]
        exact q
      · obtain ⟨h1, h2⟩ := guardO_some h'
        cases h2
        rw [Bool.and_eq_true] at h1
        obtain ⟨gx, rx, _⟩ := hx
        obtain ⟨gy, ry, _⟩ := hy
        obtain ⟨a1, a2⟩ := shal_shaped h1.1 (by omega) rx K
        obtain ⟨b1, b2⟩ := shal_lst h1.2 ry K
        refine .inr ⟨_, _, a1, b1, a2, b2, ?_⟩
        rw [any_py]
        exact q
    | tup xs =>
      have h' : guardO (flat c && xs.all flat) (some (xs.any fun y => eqF y c)) = some k := by
        unfold cmpF at h
        exact h
      obtain ⟨hf, h2⟩ := guardO_some h'
      cases h2
      rw [Bool.and_eq_true] at hf
      obtain ⟨a, vs, g, rfl, hr, rl, _⟩ := hy.tup
      obtain ⟨q1, q2⟩ := flats rl hf.2 hf.1 hx
      refine .inl ⟨a, vs, rfl, .inr (.inl hr), flat_of hf.1 hx, q1, ?_⟩
      unfold inV
      rw [q2]
      exact q
    | _ => simp [cmpF] at h
  | nmem =>
    cases e with
    | lst o xs =>
      have h' : (if (flat c && xs.all flat) = true then some (!xs.any fun y => eqF y c) else guardO (shal 8 c && xs.all (shal 8)) (some (!xs.any fun y => eqD y c))) = some k := by
        unfold cmpF at h
        exact h
      split at h'
      · rename_i hf
        rw [Bool.and_eq_true] at hf
        cases h'
        obtain ⟨a, vs, g, rfl, hr, rl, _⟩ := hy.lst
        obtain ⟨q1, q2⟩ := flats rl hf.2 hf.1 hx
        refine .inl ⟨a, vs, rfl, .inl (.inl hr), flat_of hf.1 hx, q1, ?_⟩
        unfold inV
        rw [q2]
        exact q
      · obtain ⟨h1, h2⟩ := guardO_some h'
        cases h2
        rw [Bool.and_eq_true] at h1
        obtain ⟨gx, rx, _⟩ := hx
        obtain ⟨gy, ry, _⟩ := hy
        obtain ⟨a1, a2⟩ := shal_shaped h1.1 (by omega) rx K
        obtain ⟨b1, b2⟩ := shal_lst h1.2 ry K
        refine .inr ⟨_, _, a1, b1, a2, b2, ?_⟩
        rw [any_py]
        exact q
    | tup xs =>
      have h' : guardO (flat c && xs.all flat) (some (!xs.any fun y => eqF y c)) = some k := by
        unfold cmpF at h
        exact h
      obtain ⟨hf, h2⟩ := guardO_some h'
      cases h2
      rw [Bool.and_eq_true] at hf
      obtain ⟨a, vs, g, rfl, hr, rl, _⟩ := hy.tup
      obtain ⟨q1, q2⟩ := flats rl hf.2 hf.1 hx
      refine .inl ⟨a, vs, rfl, .inr (.inl hr), flat_of hf.1 hx, q1, ?_⟩
      unfold inV
      rw [q2]
      exact q
    | _ => simp [cmpF] at h
end
end VE

end
section
set_option maxHeartbeats 1000000
/-! VEe: the built-in calls, items, cuts. -/
namespace VE
open PySem PySem.Spec PyProof.Rows L2

/-! ### mathematics -/
theorem insI_perm (x : Int) : ∀ l : List Int, (insI x l).Perm (x :: l)
  | [] => List.Perm.refl _
  | y :: ys => by
    unfold insI
    split
    · exact List.Perm.refl _
    · exact ((insI_perm x ys).cons y).trans (List.Perm.swap x y ys)
theorem sortI_perm : ∀ l : List Int, (sortI l).Perm l
  | [] => List.Perm.refl _
  | x :: xs => by
    unfold sortI
    exact (insI_perm x _).trans ((sortI_perm xs).cons x)
theorem insI_sorted (x : Int) : ∀ l : List Int, l.Pairwise (· ≤ ·) → (insI x l).Pairwise (· ≤ ·)
  | [], _ => by unfold insI; exact List.pairwise_singleton _ _
  | y :: ys, h => by
    unfold insI
    have h' := List.pairwise_cons.mp h
    split
    · rename_i c
      refine List.pairwise_cons.mpr ⟨fun z hz => ?_, h⟩
      rcases List.mem_cons.mp hz with rfl | hz
      · exact c
      · exact Int.le_trans c (h'.1 z hz)
    · rename_i c
      refine List.pairwise_cons.mpr ⟨fun z hz => ?_, insI_sorted x ys h'.2⟩
      have hz' := (insI_perm x ys).mem_iff.mp hz
      rcases List.mem_cons.mp hz' with rfl | hz'
      · omega
      · exact h'.1 z hz'
theorem sortI_sorted : ∀ l : List Int, (sortI l).Pairwise (· ≤ ·)
  | [] => List.Pairwise.nil
  | x :: xs => by
    unfold sortI
    exact insI_sorted x _ (sortI_sorted xs)
theorem sortI_is {a l : List Int} (hp : a.Perm l) (hs : a.Pairwise (· ≤ ·)) : a = sortI l := PySem.W.ksm_same (hp.trans (sortI_perm l).symm) hs (sortI_sorted l)
theorem maxI_spec : ∀ (l : List Int) (m : Int), (maxI m l = m ∨ maxI m l ∈ l) ∧ m ≤ maxI m l ∧ ∀ y ∈ l, y ≤ maxI m l
  | [], m => ⟨.inl rfl, Int.le_refl _, fun y h => by cases h⟩
  | x :: xs, m => by
    unfold maxI
    obtain ⟨h1, h2, h3⟩ := maxI_spec xs (if x > m then x else m)
    refine ⟨?_, ?_, fun y hy => ?_⟩
    · rcases h1 with h1 | h1
      · split at h1
        · right
          rename_i c
          rw [if_pos c, h1]
          exact List.mem_cons_self
        · left
          rename_i c
          rw [if_neg c, h1]
      · right
        exact List.mem_cons_of_mem _ h1
    · split at h2
      · rename_i c
        rw [if_pos c]
        omega
      · rename_i c
        rw [if_neg c]
        exact h2
    · rcases List.mem_cons.mp hy with rfl | hy
      · split at h2
        · rename_i c
          rw [if_pos c]
          exact h2
        · rename_i c
          rw [if_neg c]
          omega
      · exact h3 y hy
theorem minI_spec : ∀ (l : List Int) (m : Int), (minI m l = m ∨ minI m l ∈ l) ∧ minI m l ≤ m ∧ ∀ y ∈ l, minI m l ≤ y
  | [], m => ⟨.inl rfl, Int.le_refl _, fun y h => by cases h⟩
  | x :: xs, m => by
    unfold minI
    obtain ⟨h1, h2, h3⟩ := minI_spec xs (if x < m then x else m)
    refine ⟨?_, ?_, fun y hy => ?_⟩
    · rcases h1 with h1 | h1
      · split at h1
        · right
          rename_i c
          rw [if_pos c, h1]
          exact List.mem_cons_self
        · left
          rename_i c
          rw [if_neg c, h1]
      · right
        exact List.mem_cons_of_mem _ h1
    · split at h2
      · rename_i c
        rw [if_pos c]
        omega
      · rename_i c
        rw [if_neg c]
        exact h2
    · rcases List.mem_cons.mp hy with rfl | hy
      · split at h2
        · rename_i c
          rw [if_pos c]
          exact h2
        · rename_i c
          rw [if_neg c]
          omega
      · exact h3 y hy

/-! ### built-ins called by name -/
def rMax3 : List V → Hp → VK → Prop := fun xs H Q => ∃ i j l, xs = [.int i, .int j, .int l] ∧ Q (.int (if j > i then (if l > j then l else j) else (if l > i then l else i))) H
theorem call_max3 {X : Cx} (hc : X.calm = true) : CallR X (.builtin "max") rMax3 := by
  intro pins s σ H xs us Q I r h
  obtain ⟨i, j, l, rfl, q⟩ := h
  cases r with
  | cons r1 r =>
    obtain ⟨u, w', rfl, r2, r3⟩ := vals2 r
    obtain ⟨t1, rfl⟩ := r1
    obtain ⟨t2, rfl⟩ := r2
    obtain ⟨t3, rfl⟩ := r3
    refine max_three_ints (I.ok.hd hc) fun h' tk k => ⟨_, H, I.kept k, ?_, q⟩
    by_cases h1 : j > i
    · by_cases h2 : l > j
      · rw [if_pos h1, if_pos h2, if_pos h1, if_pos h2]; exact ⟨_, rfl⟩
      · rw [if_pos h1, if_neg h2, if_pos h1, if_neg h2]; exact ⟨_, rfl⟩
    · by_cases h2 : l > i
      · rw [if_neg h1, if_pos h2, if_neg h1, if_pos h2]; exact ⟨_, rfl⟩
      · rw [if_neg h1, if_neg h2, if_neg h1, if_neg h2]; exact ⟨_, rfl⟩
def callR (K : PySem.W.Frag) : Op → List V → Hp → VK → Prop
  | .len => fun xs H Q => ∃ p ys, xs = [.ref p] ∧ (SqL K H p ys ∨ SqT K H p ys) ∧ Q (.int ys.length) H
  | .abs => fun xs H Q => ∃ i, xs = [.int i] ∧ Q (.int (if i < 0 then -i else i)) H
  | .int => fun xs H Q => (∃ i, xs = [.int i] ∧ Q (.int i) H) ∨ ∃ k, xs = [.bl k] ∧ Q (.int (if k then 1 else 0)) H
  | .sum => rSum K
  | .max => fun xs H Q => ((∃ i j, xs = [.int i, .int j] ∧ Q (.int (if j > i then j else i)) H) ∨ rMax K xs H Q) ∨ rMax3 xs H Q
  | .min => fun xs H Q => (∃ i j, xs = [.int i, .int j] ∧ Q (.int (if j < i then j else i)) H) ∨ rMin K xs H Q
  | .sorted => fun xs H Q => rSortedI K xs H Q ∨ rSortedLL K xs H Q
  | .all => rAll K
  | .any => rAny K
  | .tuple => fun xs H Q => ∃ p ys, xs = [.ref p] ∧ ((SqL K H p ys ∧ ∀ l, H l = none → Q (.ref l) (upd H l (.tup ys))) ∨ (SqT K H p ys ∧ Q (.ref p) H))
  | .list => fun xs H Q => ∃ p ys, xs = [.ref p] ∧ (SqL K H p ys ∨ SqT K H p ys) ∧ ∀ l, H l = none → Q (.ref l) (upd H l (.lst ys))
  | _ => fun _ _ _ => False
/-- the built-in, whether it is a type -/
def bcall (id : Str) : Option (Op × Bool) :=
  if id = "len" then some (.len, false) else
  if id = "abs" then some (.abs, false) else
  if id = "int" then some (.int, true) else
  if id = "sum" then some (.sum, false) else
  if id = "max" then some (.max, false) else
  if id = "min" then some (.min, false) else
  if id = "sorted" then some (.sorted, false) else
  if id = "list" then some (.list, true) else
  if id = "all" then some (.all, false) else
  if id = "any" then some (.any, false) else
  if id = "tuple" then some (.tuple, true) else none
def bval (p : Op) (t : Bool) : Value := match p, t with
  | .len, _ => .builtin "len"
  | .abs, _ => .builtin "abs"
  | .int, _ => .type "int"
  | .sum, _ => .builtin "sum"
  | .max, _ => .builtin "max"
  | .min, _ => .builtin "min"
  | .sorted, _ => .builtin "sorted"
  | .list, _ => .type "list"
  | .all, _ => .builtin "all"
  | .any, _ => .builtin "any"
  | .tuple, _ => .type "tuple"
  | _, _ => .none
theorem bcall_rule {X : Cx} (hc : X.calm = true) (hu : X.A.units + 65 < cLine) {id : Str} {p : Op} {t : Bool} (h : bcall id = some (p, t)) :
    CallR X (bval p t) (callR X.K p) ∧ bootBuiltins id = some (bval p t) ∧ id ≠ "__name__" ∧ (id == ("__debug__" : Str)) = false ∧ ((∃ n, bval p t = .builtin n) ∨ ∃ n, bval p t = .type n) := by
  unfold bcall at h
  split at h
  · rename_i e; cases h; subst e
    exact ⟨call_len_seq, by decide +kernel, by decide, by decide, .inl ⟨_, rfl⟩⟩
  split at h
  · rename_i e; cases h; subst e
    exact ⟨call_abs, by decide +kernel, by decide, by decide, .inl ⟨_, rfl⟩⟩
  split at h
  · rename_i e; cases h; subst e
    exact ⟨call_int1, by decide +kernel, by decide, by decide, .inr ⟨_, rfl⟩⟩
  split at h
  · rename_i e; cases h; subst e
    exact ⟨cr_sum hc, by decide +kernel, by decide, by decide, .inl ⟨_, rfl⟩⟩
  split at h
  · rename_i e; cases h; subst e
    exact ⟨((call_max2 hc).or (cr_max hc)).or (call_max3 hc), by decide +kernel, by decide, by decide, .inl ⟨_, rfl⟩⟩
  split at h
  · rename_i e; cases h; subst e
    exact ⟨(call_min2 hc).or (cr_min hc), by decide +kernel, by decide, by decide, .inl ⟨_, rfl⟩⟩
  split at h
  · rename_i e; cases h; subst e
    exact ⟨cr_sortedI.or (cr_sortedLL hu), by decide +kernel, by decide, by decide, .inl ⟨_, rfl⟩⟩
  split at h
  · rename_i e; cases h; subst e
    exact ⟨call_list_of, by decide +kernel, by decide, by decide, .inr ⟨_, rfl⟩⟩
  split at h
  · rename_i e; cases h; subst e
    exact ⟨cr_all hc, by decide +kernel, by decide, by decide, .inl ⟨_, rfl⟩⟩
  split at h
  · rename_i e; cases h; subst e
    exact ⟨cr_any hc, by decide +kernel, by decide, by decide, .inl ⟨_, rfl⟩⟩
  split at h
  · rename_i e; cases h; subst e
    exact ⟨call_tuple_of, by decide +kernel, by decide, by decide, .inr ⟨_, rfl⟩⟩
  cases h
/-- all the arguments -/
inductive ObsL (H : Hp) (F : Fp) : List D → List V → Prop where
  | nil : ObsL H F [] []
  | cons {d : D} {ds : List D} {v : V} {vs : List V} : Obs H F d v → ObsL H F ds vs → ObsL H F (d :: ds) (v :: vs)
theorem ObsL.one {H : Hp} {F : Fp} {d : D} {vs : List V} (h : ObsL H F [d] vs) : ∃ v, vs = [v] ∧ Obs H F d v := by
  cases h with
  | cons a b => cases b; exact ⟨_, rfl, a⟩
theorem ObsL.two {H : Hp} {F : Fp} {d e : D} {vs : List V} (h : ObsL H F [d, e] vs) : ∃ v w, vs = [v, w] ∧ Obs H F d v ∧ Obs H F e w := by
  cases h with
  | cons a b =>
    cases b with
    | cons a' b' => cases b'; exact ⟨_, _, rfl, a, a'⟩
section
variable {H : Hp} {F : Fp} {c e d : D} {x y : V} {Q : VK} {K : PySem.W.Frag}
theorem Obs.ints {o : Fl} {ds : List D} {ns : List Int} (h : Obs H F (.lst o ds) x) (e : ints? ds = some ns) : ∃ a, x = .ref a ∧ SqL K H a (ns.map V.int) := by
  obtain ⟨a, vs, g, rfl, hr, r, _⟩ := h.lst
  rw [ints_of e] at r
  rw [← r.of_ints]
  exact ⟨a, rfl, .inl hr⟩
theorem len_sat (hx : Obs H F c x) (h : lenF c = some d) (k : Fin1 F H d Q) : callR K .len [x] H Q := by
  unfold lenF at h
  split at h
  · cases h
    obtain ⟨a, vs, g, rfl, hr, r, _⟩ := hx.lst
    refine ⟨a, vs, rfl, .inl (.inl hr), ?_⟩
    rw [← r.length]
    exact k.int
  · cases h
    obtain ⟨a, vs, g, rfl, hr, r, _⟩ := hx.tup
    refine ⟨a, vs, rfl, .inr (.inl hr), ?_⟩
    rw [← r.length]
    exact k.int
  · cases h
theorem abs_sat (hx : Obs H F c x) (h : absF c = some d) (k : Fin1 F H d Q) : callR K .abs [x] H Q := by
  unfold absF at h
  split at h
  · cases h
    exact ⟨_, by rw [hx.int], k.int⟩
  · cases h
theorem int1_sat (hx : Obs H F c x) (h : int1F c = some d) (k : Fin1 F H d Q) : callR K .int [x] H Q := by
  unfold int1F at h
  split at h
  · cases h
    exact .inl ⟨_, by rw [hx.int], k.int⟩
  · cases h
    exact .inr ⟨_, by rw [hx.bl], k.int⟩
  · cases h
theorem sum_sat (hx : Obs H F c x) (h : sumF c = some d) (k : Fin1 F H d Q) : callR K .sum [x] H Q := by
  unfold sumF at h
  split at h
  · obtain ⟨ns, e1, e2⟩ := Option.map_eq_some_iff.mp h
    subst e2
    obtain ⟨a, rfl, q⟩ := hx.ints (K := K) e1
    exact ⟨a, ns, rfl, q, k.int⟩
  · cases h
theorem max_sat (hx : Obs H F c x) (h : maxF c = some d) (k : Fin1 F H d Q) : callR K .max [x] H Q := by
  unfold maxF at h
  split at h
  · obtain ⟨ns, e1, e2⟩ := Option.bind_eq_some_iff.mp h
    obtain ⟨a, rfl, q⟩ := hx.ints (K := K) e1
    cases ns with
    | nil => cases e2
    | cons n ns =>
      cases e2
      obtain ⟨h1, h2, h3⟩ := maxI_spec ns n
      refine .inl (.inr ⟨a, n :: ns, rfl, q, Nat.succ_pos _, fun m hm hy => ?_⟩)
      have e : m = maxI n ns := by
        refine Int.le_antisymm ?_ (hy _ ?_)
        · rcases List.mem_cons.mp hm with rfl | hm
          · exact h2
          · exact h3 m hm
        · rcases h1 with h1 | h1
          · rw [h1]; exact List.mem_cons_self
          · exact List.mem_cons_of_mem _ h1
      rw [e]
      exact k.int
  · cases h
theorem min_sat (hx : Obs H F c x) (h : minF c = some d) (k : Fin1 F H d Q) : callR K .min [x] H Q := by
  unfold minF at h
  split at h
  · obtain ⟨ns, e1, e2⟩ := Option.bind_eq_some_iff.mp h
    obtain ⟨a, rfl, q⟩ := hx.ints (K := K) e1
    cases ns with
    | nil => cases e2
    | cons n ns =>
      cases e2
      obtain ⟨h1, h2, h3⟩ := minI_spec ns n
      refine .inr ⟨a, n :: ns, rfl, q, Nat.succ_pos _, fun m hm hy => ?_⟩
      have e : m = minI n ns := by
        refine Int.le_antisymm (hy _ ?_) ?_
        · rcases h1 with h1 | h1
          · rw [h1]; exact List.mem_cons_self
          · exact List.mem_cons_of_mem _ h1
        · rcases List.mem_cons.mp hm with rfl | hm
          · exact h2
          · exact h3 m hm
      rw [e]
      exact k.int
  · cases h
theorem RepL.perm' {H : Hp} : ∀ {vs ws : List V}, vs.Perm ws → ∀ {ds : List D} {f : Fp}, RepL H ds vs f → ∃ es, RepL H es ws f ∧ ds.Perm es := by
  intro vs ws p
  induction p with
  | nil => exact fun r => ⟨_, r, List.Perm.refl _⟩
  | cons x p ih =>
    intro ds f r
    cases ds with
    | nil => obtain ⟨q, _⟩ := r.inv0; cases q
    | cons d ds =>
      obtain ⟨v, vs, g, h, e, r1, r2, rfl⟩ := r.inv
      cases e
      obtain ⟨es, r3, p3⟩ := ih r2
      exact ⟨d :: es, .cons r1 r3, p3.cons d⟩
  | swap x y l =>
    intro ds f r
    cases ds with
    | nil => obtain ⟨q, _⟩ := r.inv0; cases q
    | cons d ds =>
      obtain ⟨v, vs, g, h, e, r1, r2, rfl⟩ := r.inv
      cases e
      cases ds with
      | nil => obtain ⟨q, _⟩ := r2.inv0; cases q
      | cons d2 ds =>
        obtain ⟨v, vs, g2, h2, e, r3, r4, rfl⟩ := r2.inv
        cases e
        refine ⟨d2 :: d :: ds, ?_, List.Perm.swap _ _ _⟩
        rw [Fp.add_left_comm]
        exact .cons r3 (.cons r1 r4)
  | trans p q ih1 ih2 =>
    intro ds f r
    obtain ⟨es, r1, p1⟩ := ih1 r
    obtain ⟨fs, r2, p2⟩ := ih2 r1
    exact ⟨fs, r2, p1.trans p2⟩
theorem rows_of : ∀ {ds : List D} {rs : List (List Int)}, rows? ds = some rs → ds = rs.map rowD
  | [], rs, h => by cases h; rfl
  | d :: ds, rs, h => by
    unfold rows? at h
    split at h
    · rename_i e; cases e
    · rename_i ys ds' e1
      cases e1
      obtain ⟨r, e2, h⟩ := Option.bind_eq_some_iff.mp h
      obtain ⟨rs', e3, h⟩ := Option.map_eq_some_iff.mp h
      subst h
      rw [rows_of e3, ints_of e2]
      rfl
    · cases h
theorem trows_of : ∀ {ds : List D} {rs : List (List Int)}, trows? ds = some rs → ds = rs.map trowD
  | [], rs, h => by cases h; rfl
  | d :: ds, rs, h => by
    unfold trows? at h
    split at h
    · rename_i e; cases e
    · rename_i ys ds' e1
      cases e1
      obtain ⟨r, e2, h⟩ := Option.bind_eq_some_iff.mp h
      obtain ⟨rs', e3, h⟩ := Option.map_eq_some_iff.mp h
      subst h
      rw [trows_of e3, ints_of e2]
      rfl
    · cases h
theorem bools_of : ∀ {ds : List D} {bs : List Bool}, bools? ds = some bs → ds = bs.map D.bl
  | [], rs, h => by cases h; rfl
  | d :: ds, rs, h => by
    unfold bools? at h
    split at h
    · rename_i e; cases e
    · rename_i b ds' e1
      cases e1
      obtain ⟨r, e2, h⟩ := Option.map_eq_some_iff.mp h
      subst h
      rw [bools_of e2]
      rfl
    · cases h
theorem RepL.of_bools : ∀ {bs : List Bool} {vs : List V} {f : Fp}, RepL H (bs.map D.bl) vs f → vs = bs.map V.bl
  | [], vs, f, r => r.inv0.1
  | b :: bs, vs, f, r => by
    obtain ⟨v, r', g, h, rfl, r1, r2, _⟩ := RepL.inv (d := .bl b) (ds := bs.map D.bl) r
    rw [RepL.of_bools r2]
    unfold Rep at r1
    rw [r1.1]
    rfl
theorem dupL_rows : ∀ rs : List (List Int), dupL (rs.map rowD) = true
  | [] => rfl
  | r :: rs => by
    show (dup (rowD r) && dupL (rs.map rowD)) = true
    rw [dupL_rows rs]
    rfl
theorem dupL_trows : ∀ rs : List (List Int), dupL (rs.map trowD) = true
  | [] => rfl
  | r :: rs => by
    show (dup (trowD r) && dupL (rs.map trowD)) = true
    rw [dupL_trows rs]
    have : dup (trowD r) = true := by
      show dupL (r.map D.int) = true
      induction r with
      | nil => rfl
      | cons i r ih => exact ih
    rw [this]
    rfl
/-- the list of ints at a value -/
theorem row_dp {r : List Int} {v : V} {g : Fp} (h : Rep H (rowD r) v g) : ∃ t, v = .ref t ∧ Dp K H v (.list (r.map PyData.int)) := by
  unfold rowD Rep at h
  obtain ⟨a, vs, f, rfl, rl, z, hr, _⟩ := h
  rw [rl.of_ints] at hr
  refine ⟨a, rfl, .lst (.inl hr) ?_⟩
  clear hr rl
  induction r with
  | nil => exact .nil
  | cons i r ih => exact .cons (.int i) ih
theorem trow_dp {r : List Int} {v : V} {g : Fp} (h : Rep H (trowD r) v g) : ∃ t, v = .ref t ∧ Dp K H v (.tuple (r.map PyData.int)) := by
  unfold trowD Rep at h
  obtain ⟨a, vs, f, rfl, rl, hr, _⟩ := h
  rw [rl.of_ints] at hr
  refine ⟨a, rfl, .tup (.inl hr) ?_⟩
  clear hr rl
  induction r with
  | nil => exact .nil
  | cons i r ih => exact .cons (.int i) ih
theorem toPy_row (r : List Int) : toPy (rowD r) = .list (r.map PyData.int) := by
  unfold rowD toPy
  congr 1
  induction r with
  | nil => rfl
  | cons i r ih => exact congrArg (PyData.int i :: ·) ih
theorem row_inj {v : V} {r r' : List Int} {g g' : Fp} (h : Rep H (rowD r) v g) (h' : Rep H (rowD r') v g') : r = r' := by
  unfold rowD Rep at h h'
  obtain ⟨a, vs, f, rfl, rl, z, hr, _⟩ := h
  obtain ⟨a', vs', f', e, rl', z', hr', _⟩ := h'
  cases e
  rw [rl.of_ints] at hr
  rw [rl'.of_ints] at hr'
  have inj : ∀ {a b : List Int}, a.map V.int = b.map V.int → a = b := fun {a b} e => by
    have := congrArg (List.map fun v => match v with | V.int i => i | _ => 0) e
    simpa [Function.comp_def] using this
  rcases hr with hr | ⟨o, hr⟩ <;> rcases hr' with hr' | ⟨o', hr'⟩ <;> rw [hr] at hr' <;> have e := Option.some.inj hr'
  · exact inj (HO.lst.inj e)
  · cases e
  · cases e
  · exact inj (HO.lst.inj (HO.frz.inj e).2)
def unrow : D → List Int
  | .lst _ xs => (ints? xs).getD []
  | _ => []
theorem ints_map : ∀ r : List Int, ints? (r.map D.int) = some r
  | [] => rfl
  | i :: r => by
    show (ints? (r.map D.int)).map (i :: ·) = _
    rw [ints_map r]
    rfl
theorem unrow_row (r : List Int) : unrow (rowD r) = r := by
  show (ints? (r.map D.int)).getD [] = r
  rw [ints_map]
  rfl
open Classical in
noncomputable def rowOf (H : Hp) (x : V) : List Int := if h : ∃ r g, Rep H (rowD r) x g then h.choose else []
theorem rowOf_is {x : V} {r : List Int} {g : Fp} (h : Rep H (rowD r) x g) : rowOf H x = r := by
  have e : ∃ r g, Rep H (rowD r) x g := ⟨r, g, h⟩
  unfold rowOf
  rw [dif_pos e]
  obtain ⟨g', h'⟩ := e.choose_spec
  exact row_inj h' h
theorem rows_read : ∀ {es : List D} {ys : List V} {f : Fp}, RepL H es ys f → (∀ e ∈ es, ∃ r, e = rowD r) → es = (ys.map (rowOf H)).map rowD
  | [], ys, f, r, _ => by
    rw [r.inv0.1]
    rfl
  | e :: es, ys, f, r, k => by
    obtain ⟨v, vs, g, h, rfl, r1, r2, _⟩ := r.inv
    obtain ⟨q, rfl⟩ := k e List.mem_cons_self
    rw [List.map_cons, List.map_cons, rowOf_is r1, ← rows_read r2 fun e he => k e (List.mem_cons_of_mem _ he)]
theorem trow_inj {v : V} {r r' : List Int} {g g' : Fp} (h : Rep H (trowD r) v g) (h' : Rep H (trowD r') v g') : r = r' := by
  unfold trowD Rep at h h'
  obtain ⟨a, vs, f, rfl, rl, hr, _⟩ := h
  obtain ⟨a', vs', f', e, rl', hr', _⟩ := h'
  cases e
  rw [rl.of_ints] at hr
  rw [rl'.of_ints] at hr'
  have inj : ∀ {a b : List Int}, a.map V.int = b.map V.int → a = b := fun {a b} e => by
    have := congrArg (List.map fun v => match v with | V.int i => i | _ => 0) e
    simpa [Function.comp_def] using this
  rcases hr with hr | ⟨o, hr⟩ <;> rcases hr' with hr' | ⟨o', hr'⟩ <;> rw [hr] at hr' <;> have e := Option.some.inj hr'
  · exact inj (HO.tup.inj e)
  · cases e
  · cases e
  · exact inj (HO.tup.inj (HO.frz.inj e).2)
def untrow : D → List Int
  | .tup xs => (ints? xs).getD []
  | _ => []
theorem untrow_trow (r : List Int) : untrow (trowD r) = r := by
  show (ints? (r.map D.int)).getD [] = r
  rw [ints_map]
  rfl
open Classical in
noncomputable def trowOf (H : Hp) (x : V) : List Int := if h : ∃ r g, Rep H (trowD r) x g then h.choose else []
theorem trowOf_is {x : V} {r : List Int} {g : Fp} (h : Rep H (trowD r) x g) : trowOf H x = r := by
  have e : ∃ r g, Rep H (trowD r) x g := ⟨r, g, h⟩
  unfold trowOf
  rw [dif_pos e]
  obtain ⟨g', h'⟩ := e.choose_spec
  exact trow_inj h' h
theorem trows_read : ∀ {es : List D} {ys : List V} {f : Fp}, RepL H es ys f → (∀ e ∈ es, ∃ r, e = trowD r) → es = (ys.map (trowOf H)).map trowD
  | [], ys, f, r, _ => by
    rw [r.inv0.1]
    rfl
  | e :: es, ys, f, r, k => by
    obtain ⟨v, vs, g, h, rfl, r1, r2, _⟩ := r.inv
    obtain ⟨q, rfl⟩ := k e List.mem_cons_self
    rw [List.map_cons, List.map_cons, trowOf_is r1, ← trows_read r2 fun e he => k e (List.mem_cons_of_mem _ he)]
theorem sort_sat (hx : Obs H F c x) (h : sortF c = some d) (k : Fin1 F H d Q) : callR K .sorted [x] H Q := by
  unfold sortF at h
  split at h
  · split at h
    · rename_i o xs ns e1
      cases h
      obtain ⟨a, rfl, q⟩ := hx.ints (K := K) e1
      refine .inl ⟨a, ns, rfl, q, fun ns' p hp hs hn => ?_⟩
      rw [sortI_is hp hs]
      exact k.lst (RepL.ints _) (fun _ => ⟨rfl, rfl⟩) (fun _ z => absurd z (Nat.lt_irrefl 0)) p hn
    · rename_i o xs e1
      split at h
      · rename_i rs e2
        cases h
        obtain ⟨a, vs, g, rfl, hr, r, l⟩ := hx.lst
        rw [rows_of e2] at r
        have hm : ∀ e ∈ rs.map rowD, ∃ r, e = rowD r := fun e he => by
          obtain ⟨q, _, rfl⟩ := List.mem_map.mp he
          exact ⟨q, rfl⟩
        refine .inr ⟨false, a, vs, rowOf H, rfl, .inl hr, fun x hx => ⟨?_, fun z => by cases z⟩, fun ys p hs hp hn => ?_⟩
        · obtain ⟨i, hi⟩ := List.getElem?_of_mem hx
          have hi' := (List.getElem?_eq_some_iff.mp hi).1
          rw [← r.length] at hi'
          obtain ⟨w, g', ew, rw', _⟩ := r.get' (List.getElem?_eq_getElem hi')
          rw [hi] at ew
          cases ew
          obtain ⟨q, eq⟩ := hm _ (List.getElem_mem hi')
          rw [eq] at rw'
          obtain ⟨t, e, dp⟩ := row_dp (K := K) rw'
          rw [rowOf_is rw']
          exact ⟨t, e, dp⟩
        · obtain ⟨es, r2, p2⟩ := RepL.perm' hp.symm r
          have e3 := rows_read r2 fun e he => hm e (p2.mem_iff.mpr he)
          have e4 : ys.map (rowOf H) = sortRows rs := by
            refine sortRows_is ?_ (List.pairwise_map.mpr hs)
            have := (p2.symm.map unrow)
            rw [e3, List.map_map, List.map_map] at this
            simpa [Function.comp_def, unrow_row] using this
          rw [e3, e4] at r2
          exact k.lst r2 (sh_of r2 (dupL_rows _)) (fun b p => Nat.lt_of_lt_of_le p (l b).2.2) p hn
      · obtain ⟨rs, e2, h⟩ := Option.bind_eq_some_iff.mp h
        split at h
        · rename_i hne
          cases h
          obtain ⟨a, vs, g, rfl, hr, r, l⟩ := hx.lst
          rw [trows_of e2] at r
          have hm : ∀ e ∈ rs.map trowD, ∃ r, e = trowD r := fun e he => by
            obtain ⟨q, _, rfl⟩ := List.mem_map.mp he
            exact ⟨q, rfl⟩
          refine .inr ⟨true, a, vs, trowOf H, rfl, .inl hr, fun x hx => ?_, fun ys p hs hp hn => ?_⟩
          · obtain ⟨i, hi⟩ := List.getElem?_of_mem hx
            have hi' := (List.getElem?_eq_some_iff.mp hi).1
            rw [← r.length] at hi'
            obtain ⟨w, g', ew, rw', _⟩ := r.get' (List.getElem?_eq_getElem hi')
            rw [hi] at ew
            cases ew
            obtain ⟨q, eq⟩ := hm _ (List.getElem_mem hi')
            rw [eq] at rw'
            obtain ⟨t, e, dp⟩ := trow_dp (K := K) rw'
            rw [trowOf_is rw']
            refine ⟨⟨t, e, dp⟩, fun _ => ?_⟩
            have qm : trowD q ∈ rs.map trowD := eq ▸ List.getElem_mem hi'
            obtain ⟨q2, hq2, e5⟩ := List.mem_map.mp qm
            have e6 : q2 = q := by rw [← untrow_trow q2, e5, untrow_trow]
            subst e6
            have := List.all_eq_true.mp hne _ hq2
            intro z
            rw [z] at this
            cases this
          · obtain ⟨es, r2, p2⟩ := RepL.perm' hp.symm r
            have e3 := trows_read r2 fun e he => hm e (p2.mem_iff.mpr he)
            have e4 : ys.map (trowOf H) = sortRows rs := by
              refine sortRows_is ?_ (List.pairwise_map.mpr hs)
              have := (p2.symm.map untrow)
              rw [e3, List.map_map, List.map_map] at this
              simpa [Function.comp_def, untrow_trow] using this
            rw [e3, e4] at r2
            exact k.lst r2 (sh_of r2 (dupL_trows _)) (fun b p => Nat.lt_of_lt_of_le p (l b).2.2) p hn
        · cases h
  · cases h
theorem sortR_sat (hx : Obs H F c x) (h : sortRF c = some d) (k : Fin1 F H d Q) : rSortedKw K true [.bl true] [x] [.bl true] H Q := by
  unfold sortRF at h
  split at h
  · rename_i o xs
    obtain ⟨ns, e1, e2⟩ := Option.map_eq_some_iff.mp h
    subst e2
    obtain ⟨a, rfl, q⟩ := hx.ints (K := K) e1
    refine ⟨a, ns, rfl, rfl, q, fun ns' p hp hs hn => ?_⟩
    have hs : ns'.Pairwise (· ≥ ·) := hs
    have e3 : ns'.reverse = sortI ns := sortI_is ((List.reverse_perm _).trans hp) (List.pairwise_reverse.mpr hs)
    have e4 : ns' = (sortI ns).reverse := by rw [← e3, List.reverse_reverse]
    rw [e4]
    exact k.lst (RepL.ints _) (fun _ => ⟨rfl, rfl⟩) (fun _ z => absurd z (Nat.lt_irrefl 0)) p hn
  · cases h
theorem all_sat (hx : Obs H F c x) (h : allF c = some d) (k : Fin1 F H d Q) : callR K .all [x] H Q := by
  unfold allF at h
  split at h
  · obtain ⟨bs, e1, e2⟩ := Option.map_eq_some_iff.mp h
    subst e2
    obtain ⟨a, vs, g, rfl, hr, r, l⟩ := hx.lst
    rw [bools_of e1] at r
    rw [r.of_bools] at hr
    exact ⟨a, bs, rfl, .inl hr, k.bl⟩
  · cases h
theorem any_sat (hx : Obs H F c x) (h : anyF c = some d) (k : Fin1 F H d Q) : callR K .any [x] H Q := by
  unfold anyF at h
  split at h
  · obtain ⟨bs, e1, e2⟩ := Option.map_eq_some_iff.mp h
    subst e2
    obtain ⟨a, vs, g, rfl, hr, r, l⟩ := hx.lst
    rw [bools_of e1] at r
    rw [r.of_bools] at hr
    exact ⟨a, bs, rfl, .inl hr, k.bl⟩
  · cases h
theorem tuple_sat (hx : Obs H F c x) (h : tupF c = some d) (k : Fin1 F H d Q) : callR K .tuple [x] H Q := by
  unfold tupF at h
  split at h
  · obtain ⟨h1, h2⟩ := guardO_some h
    cases h2
    obtain ⟨a, vs, g, rfl, hr, r, l⟩ := hx.lst
    exact ⟨a, vs, rfl, .inl ⟨.inl hr, k.tup r (sh_of r h1) fun b p => Nat.lt_of_lt_of_le p (l b).2.2⟩⟩
  · obtain ⟨h1, h2⟩ := guardO_some h
    cases h2
    obtain ⟨g, r, l⟩ := hx
    have r' := r
    unfold Rep at r
    obtain ⟨a, vs, g', rfl, rl, hr, rfl⟩ := r
    exact ⟨a, vs, rfl, .inr ⟨.inl hr, k.dup r' l h1⟩⟩
  · cases h
theorem list_sat (hx : Obs H F c x) (h : listF c = some d) (k : Fin1 F H d Q) : callR K .list [x] H Q := by
  unfold listF at h
  split at h
  · obtain ⟨h1, h2⟩ := guardO_some h
    cases h2
    obtain ⟨a, vs, g, rfl, hr, r, l⟩ := hx.lst
    exact ⟨a, vs, rfl, .inl (.inl hr), k.lst r (sh_of r h1) fun b p => Nat.lt_of_lt_of_le p (l b).2.2⟩
  · obtain ⟨h1, h2⟩ := guardO_some h
    cases h2
    obtain ⟨a, vs, g, rfl, hr, r, l⟩ := hx.tup
    exact ⟨a, vs, rfl, .inr (.inl hr), k.lst r (sh_of r h1) fun b p => Nat.lt_of_lt_of_le p (l b).2.2⟩
  · cases h
theorem call_sat {id : Str} {p : Op} {t : Bool} {ds : List D} {vs : List V} (hb : bcall id = some (p, t)) (hx : ObsL H F ds vs) (h : opF p ds = some d) (k : Fin1 F H d Q) : callR K p vs H Q := by
  have one : ∀ {f : D → Option D}, (∀ c, ds = [c] → f c = some d → ∃ v, vs = [v] ∧ Obs H F c v ∧ f c = some d) := fun {f} c e hf => by
    subst e
    obtain ⟨v, rfl, o⟩ := hx.one
    exact ⟨v, rfl, o, hf⟩
  unfold bcall at hb
  split at hb
  · cases hb
    cases hx with
    | nil => cases h
    | cons a b =>
      cases b with
      | nil => exact len_sat a h k
      | cons _ _ => cases h
  split at hb
  · cases hb
    cases hx with
    | nil => cases h
    | cons a b =>
      cases b with
      | nil => exact abs_sat a h k
      | cons _ _ => cases h
  split at hb
  · cases hb
    cases hx with
    | nil => cases h
    | cons a b =>
      cases b with
      | nil => exact int1_sat a h k
      | cons _ _ => cases h
  split at hb
  · cases hb
    cases hx with
    | nil => cases h
    | cons a b =>
      cases b with
      | nil => exact sum_sat a h k
      | cons _ _ => cases h
  split at hb
  · cases hb
    cases hx with
    | nil => cases h
    | cons a b =>
      cases b with
      | nil => exact max_sat a h k
      | cons a' b' =>
        cases b' with
        | nil =>
          have h' : max2F _ _ = some d := h
          unfold max2F at h'
          split at h'
          · cases h'
            exact .inl (.inl ⟨_, _, by rw [a.int, a'.int], k.int⟩)
          · cases h'
        | cons a2 b2 =>
          cases b2 with
          | nil =>
            have h' : max3F _ _ _ = some d := h
            unfold max3F at h'
            split at h'
            · cases h'
              exact .inr ⟨_, _, _, by rw [a.int, a'.int, a2.int], k.int⟩
            · cases h'
          | cons _ _ => cases h
  split at hb
  · cases hb
    cases hx with
    | nil => cases h
    | cons a b =>
      cases b with
      | nil => exact min_sat a h k
      | cons a' b' =>
        cases b' with
        | nil =>
          have h' : min2F _ _ = some d := h
          unfold min2F at h'
          split at h'
          · cases h'
            exact .inl ⟨_, _, by rw [a.int, a'.int], k.int⟩
          · cases h'
        | cons _ _ => cases h
  split at hb
  · cases hb
    cases hx with
    | nil => cases h
    | cons a b =>
      cases b with
      | nil => exact sort_sat a h k
      | cons _ _ => cases h
  split at hb
  · cases hb
    cases hx with
    | nil => cases h
    | cons a b =>
      cases b with
      | nil => exact list_sat a h k
      | cons _ _ => cases h
  split at hb
  · cases hb
    cases hx with
    | nil => cases h
    | cons a b =>
      cases b with
      | nil => exact all_sat a h k
      | cons _ _ => cases h
  split at hb
  · cases hb
    cases hx with
    | nil => cases h
    | cons a b =>
      cases b with
      | nil => exact any_sat a h k
      | cons _ _ => cases h
  split at hb
  · cases hb
    cases hx with
    | nil => cases h
    | cons a b =>
      cases b with
      | nil => exact tuple_sat a h k
      | cons _ _ => cases h
  cases hb

/-! ### isinstance -/
def Ty.name : Ty → String
  | .non => "NoneType"
  | .bl => "bool"
  | .int => "int"
  | .str => "str"
  | .tup => "tuple"
  | .lst => "list"
theorem kit_all (u t : Ty) (ht : t ≠ .non) : kitB u.name t.name = some (isTy u t) := by
  cases t <;> first | exact absurd rfl ht | skip
  all_goals cases u <;> decide +kernel
theorem isF_sat {t : Ty} (ht : t ≠ .non) (hx : Obs H F c x) (h : isF t c = some d) (k : Fin1 F H d Q) : rIsi K [x, .ty t.name] H Q := by
  unfold isF at h
  obtain ⟨u, e1, e2⟩ := Option.map_eq_some_iff.mp h
  subst e2
  have go : TyX K H x (.type u.name) → rIsi K [x, .ty t.name] H Q := fun ty => ⟨x, .ty t.name, _, _, isTy u t, rfl, .ty _, ty, kit_ty (kit_all u t ht), k.bl⟩
  cases c with
  | non => cases e1; rw [hx.non] at go ⊢; exact go (.base .non)
  | bl b => cases e1; rw [hx.bl] at go ⊢; exact go (.base (.bl b))
  | int i => cases e1; rw [hx.int] at go ⊢; exact go (.base (.int i))
  | str s => cases e1; rw [hx.str] at go ⊢; exact go (.base (.str s))
  | gone => cases e1
  | tup ds =>
    cases e1
    obtain ⟨a, vs, g, rfl, hr, r, l⟩ := hx.tup
    rcases hr with hr | ⟨o, hr⟩
    · exact go (.base (.tup hr))
    · exact go (.fTuple hr)
  | lst o ds =>
    cases e1
    obtain ⟨a, vs, g, rfl, hr, r, l⟩ := hx.lst
    rcases hr with hr | ⟨o, hr⟩
    · exact go (.base (.lst hr))
    · exact go (.base (.frz hr))

/-! ### items, cuts, index -/
theorem ixD_at {α : Type} : ∀ {ds : List D} {xs : List α} {i : Int} {d : D}, ds.length = xs.length → ixD ds i = some d → ∃ j : Nat, ds[j]? = some d ∧ ∀ x, xs[j]? = some x → atI xs i = some x := fun {ds xs i d} hl h => by
  unfold ixD at h
  split at h
  · rename_i h0
    refine ⟨i.toNat, h, fun x hx => ?_⟩
    unfold atI ixN
    have : i.toNat < xs.length := by
      rw [← hl]
      exact (List.getElem?_eq_some_iff.mp h).1
    rw [if_pos h0, if_pos (by omega)]
    exact hx
  · split at h
    · rename_i h0 h1
      refine ⟨(i + ds.length).toNat, h, fun x hx => ?_⟩
      unfold atI ixN
      rw [if_neg h0, if_pos (by rw [← hl]; exact h1), ← hl]
      exact hx
    · cases h
theorem ix_satL {o : Fl} {ds : List D} {i : Int} (hx : Obs H F (.lst o ds) x) (hy : y = .int i) (h : ixD ds i = some d) (q : ∀ v g, Rep H d v g → g.le F → Q v H) : rIx K x y H Q := by
  obtain ⟨a, vs, g, rfl, hr, r, l⟩ := hx.lst
  obtain ⟨j, h1, h2⟩ := ixD_at (xs := vs) r.length h
  obtain ⟨v, g2, e, r2, l2⟩ := r.get' h1
  exact .inl ⟨a, vs, i, v, rfl, hy, .inl hr, h2 v e, q v g2 r2 (l2.trans l)⟩
theorem ix_satT {ds : List D} {i : Int} (hx : Obs H F (.tup ds) x) (hy : y = .int i) (h : ixD ds i = some d) (q : ∀ v g, Rep H d v g → g.le F → Q v H) : rIx K x y H Q := by
  obtain ⟨a, vs, g, rfl, hr, r, l⟩ := hx.tup
  obtain ⟨j, h1, h2⟩ := ixD_at (xs := vs) r.length h
  obtain ⟨v, g2, e, r2, l2⟩ := r.get' h1
  exact .inr (.inl ⟨a, vs, i, v, rfl, hy, .inl hr, h2 v e, q v g2 r2 (l2.trans l)⟩)
theorem ixO_some {ds : List D} {i : Int} (h : ixO ds i = some d) : ixD ds i = some d ∧ dup d = true := by
  unfold ixO at h
  obtain ⟨c, e1, e2⟩ := Option.bind_eq_some_iff.mp h
  obtain ⟨e3, e4⟩ := guardO_some e2
  cases e4
  exact ⟨e1, e3⟩
theorem idx_sat (hx : Obs H F c x) (hy : Obs H F e y) (h : idxF c e = some d) (k : Fin1 F H d Q) : rIx K x y H Q := by
  unfold idxF at h
  split at h
  · obtain ⟨h1, h2⟩ := ixO_some h
    exact ix_satL hx hy.int h1 fun v g r l => k.dup r l h2
  · obtain ⟨h1, h2⟩ := ixO_some h
    exact ix_satT hx hy.int h1 fun v g r l => k.dup r l h2
  · cases h
theorem cutI_eq (n d : Nat) (o : Option Int) : cutI n d o = HT.sIx n d o := by
  cases o with
  | none => rfl
  | some i =>
    show (if 0 ≤ i then min i.toNat n else (i + n).toNat) = if i < 0 then (i + (n : Int)).toNat else min i.toNat n
    by_cases h : 0 ≤ i
    · rw [if_pos h, if_neg (by omega)]
    · rw [if_neg h, if_pos (by omega)]
theorem cut_sat {lo hi : Option Int} (hx : Obs H F c x) (h : cutF c lo hi = some d) (k : Fin1 F H d Q) : rSlL K x lo hi H Q := by
  unfold cutF at h
  split at h
  · obtain ⟨h1, h2⟩ := guardO_some h
    cases h2
    obtain ⟨a, vs, g, rfl, hr, r, l⟩ := hx.lst
    obtain ⟨g1, r1, l1⟩ := r.drop (HT.sIx vs.length 0 lo)
    obtain ⟨g2, r2, l2⟩ := r1.take (HT.sIx vs.length vs.length hi - HT.sIx vs.length 0 lo)
    have z := sh_of r h1
    have l3 := (l2.trans l1)
    refine ⟨a, vs, rfl, .inl hr, ?_⟩
    unfold cutV
    refine k.lst (g := g2) ?_ (fun b => ?_) fun b p => ?_
    · unfold cutD
      rw [cutI_eq, cutI_eq, r.length]
      exact r2
    · have := z b
      have := l3 b
      omega
    · have := l3 b
      have := l b
      omega
  · cases h
theorem rev_sat (hx : Obs H F c x) (h : revF c = some d) (k : Fin1 F H d Q) : ∃ a xs, x = .ref a ∧ SqL K H a xs ∧ ∀ p, H p = none → Q (.ref p) (upd H p (.lst xs.reverse)) := by
  unfold revF at h
  split at h
  · obtain ⟨h1, h2⟩ := guardO_some h
    cases h2
    obtain ⟨a, vs, g, rfl, hr, r, l⟩ := hx.lst
    exact ⟨a, vs, rfl, .inl hr, k.lst r.reverse (sh_of r h1) fun b p => Nat.lt_of_lt_of_le p (l b).2.2⟩
  · cases h
theorem neg_sat (hx : Obs H F c x) (h : negF c = some d) (k : Fin1 F H d Q) : rU (fun i => .int (-i)) x H Q := by
  unfold negF at h
  split at h
  · cases h
    exact ⟨_, hx.int, k.int⟩
  · cases h
theorem rg_sat (hx : Obs H F c x) (hy : Obs H F e y) (h : rgF c e = some d) (k : Fin1 F H d Q) : ∃ i j, x = .int i ∧ y = .int j ∧ RgOk i j ∧ ∀ q, H q = none → Q (.ref q) (upd H q (.lst (rgV i j))) := by
  unfold rgF at h
  split at h
  · rename_i i j
    obtain ⟨h1, h2⟩ := guardO_some h
    cases h2
    rw [Bool.and_eq_true] at h1
    have h3 := okRg_of h1.1
    have h4 := okRg_of h1.2
    refine ⟨_, _, hx.int, hy.int, ⟨by omega, by omega, by omega, by omega, by omega⟩, ?_⟩
    refine k.lst (g := Fp.zero) ?_ (fun _ => ⟨rfl, rfl⟩) fun _ z => absurd z (Nat.lt_irrefl 0)
    unfold rangeL rgV
    have := RepL.ints (H := H) ((List.range (j - i).toNat).map fun (n : Nat) => i + (n : Int))
    rw [List.map_map, List.map_map] at this
    exact this
  · cases h
theorem index_sat (hx : Obs H F c x) (hy : Obs H F e y) (h : indexF c e = some d) (k : Fin1 F H d Q) : rIndex K x [y] H Q := by
  unfold indexF at h
  split at h
  · rename_i o xs
    obtain ⟨h1, h2⟩ := guardO_some h
    rw [Bool.and_eq_true] at h1
    obtain ⟨j, e1, e2⟩ := Option.map_eq_some_iff.mp h2
    subst e2
    obtain ⟨a, vs, g, rfl, hr, r, l⟩ := hx.lst
    have fl : vs.all flatV = true := (flats r h1.2 h1.1 hy).1
    obtain ⟨hj, e3, e4⟩ := List.findIdx?_eq_some_iff_getElem.mp e1
    have gx : ∀ {i : Nat} {v : V}, vs[i]? = some v → ∃ hi : i < xs.length, eqV v y = eqF xs[i] e := fun {i v} hv => by
      have hi : i < xs.length := by
        rw [r.length]
        exact (List.getElem?_eq_some_iff.mp hv).1
      obtain ⟨w, g2, ew, r2, l2⟩ := r.get' (List.getElem?_eq_getElem hi)
      rw [hv] at ew
      cases ew
      refine ⟨hi, ?_⟩
      obtain ⟨fy, ry, ly⟩ := hy
      exact eqF_of (F := F) (List.all_eq_true.mp h1.2 _ (List.getElem_mem hi)) h1.1 ⟨g2, r2, l2.trans l⟩ ⟨fy, ry, ly⟩
    obtain ⟨w, g2, ew, r2, l2⟩ := r.get' (List.getElem?_eq_getElem hj)
    refine ⟨a, vs, y, j, w, rfl, rfl, .inl hr, flat_of h1.1 hy, fl, ew, ?_, fun m z' hm hz => ?_, k.int⟩
    · obtain ⟨hi, q⟩ := gx ew
      rw [q]
      exact e3
    · obtain ⟨hi, q⟩ := gx hz
      rw [q]
      have := e4 m hm
      simpa using this
  · cases h
end
end VE

end
section

set_option maxHeartbeats 1000000
/-! VEz1: len(set(x)), list(range(a, b, -1)), x.remove(k). -/
namespace VE
open PySem PySem.Spec PyProof.Rows L2
section
variable {X : Cx} {a : Expr} {ta : TE}
theorem fm_dedI (ns : List Int) : PyProof.Rows.firstMet (fun i => ns.getD i 0) ns.length = dedI ns := by
  have e : (List.range ns.length).map (fun i => ns.getD i 0) = ns := by
    refine List.ext_getElem (by simp) fun i h1 h2 => ?_
    rw [List.getElem_map, List.getElem_range, List.getD_eq_getElem?_getD, List.getElem?_eq_getElem h2]
    rfl
  unfold PyProof.Rows.firstMet dedI
  rw [e]
  rfl
def tLenSetV (K : PySem.W.Frag) (t : TE) : TE := fun σ H Q => t σ H fun x H1 => ∃ (l : Addr) (ns : List Int), x = .ref l ∧ SqL K H1 l (ns.map V.int) ∧ ns.length ≤ 4000 ∧ Q (.int ((dedI ns).length : Nat)) H1
theorem pe_lenSetV {p p2 q pos : Pos} (hc : X.calm = true) (hg : Gl X "len") (hm : X.mg "len" = none) (hg2 : Gl X "set") (hm2 : X.mg "set" = none) (ha : PE X a ta)
    (na : starEach [a] X.env = (false, eval a X.env) :: starEach [] X.env) : PE X (.Call (.Name "len" p) [.Call (.Name "set" p2) [a] [] q] [] pos) (tLenSetV X.K ta) := by
  refine ⟨fun pins s σ H Q I h => ?_⟩
  refine Call_ (ld_blt I hg hm PySem.boot_len (PyProof.Rows.callWith_builtin1 (PyProof.Rows.args_cons (Call_ (ld_blt I hg2 hm2 PyProof.Rows.boot_set (PyProof.Rows.callWith_type1 (one_arg ha I h (fun v s1 x H1 I1 r1 q1 => ?_) na) na rfl))) rfl) rfl rfl))
  obtain ⟨l, ns, ex, hq, h1, q1⟩ := q1
  subst ex
  cases (show v = Value.ref l from r1)
  obtain ⟨its, r, pl, hz⟩ := I1.list hq
  have hl : its.toArray.size = ns.length := by rw [List.size_toArray, ← r.length, List.length_map]
  refine call_set_list (I1.ok.hd hc) pl.isList (ns := ns) (by simpa using intsAre_of r) (by rw [hl]; unfold scanBound; omega) fun h' tk hS hk => ?_
  rw [hl, fm_dedI] at hS
  obtain ⟨o, es, ep, t, ho, hex, hd, _, _, _, hf, hn⟩ := hS
  have I2 : Inv X pins σ H1 { s1 with heap := h', toks := tk } := I1.kept fun b o e => hk b o (Heap.lt_size e) e
  have hsz : (dedI ns).length ≤ ns.length := by
    rw [← fm_dedI]
    exact PyProof.Rows.firstMet_length_le _ _
  refine PyProof.Rows.args_nil (call_len_set ho hex hd hf (by rw [hn]; omega) ⟨.int ((dedI ns).length : Nat), H1, I2.tok _, ⟨_, by rw [hn]⟩, q1⟩)

/-- a range that goes down by ones -/
def rgDV (a b : Int) : List V := (List.range (a - b).toNat).map fun (i : Nat) => V.int (a - i)
theorem vals_rgD {a b : Int} {acc : Array Value} (h : ItemsOf (fun i v => ∃ t, v = .int (a + i * (-1)) t) acc (a - b).toNat) : Vals (rgDV a b) acc.toList := by
  have e : acc.toList.length = (a - b).toNat := by rw [Array.length_toList]; exact h.1
  unfold rgDV
  rw [← e]
  refine vals_of_get acc.toList _ fun j u hj => ?_
  obtain ⟨t, rfl⟩ := h.2 j u (by rw [← hj, Array.getElem?_toList])
  refine ⟨t, ?_⟩
  have e2 : a + (j : Int) * (-1) = a - (j : Int) := by omega
  rw [e2]
def tLstRgD (ta : TA) : TE := fun σ H Q => ta σ H fun vs H1 => ∃ i j : Int, vs = [.int i, .int j, .int (-1)] ∧ RgC i j (-1) (i - j).toNat ∧ (i - j).toNat ≤ 2 ^ 24 ∧ ∀ q, H1 q = none → Q (.ref q) (upd H1 q (.lst (rgDV i j)))
theorem pe_listRgD {b c : Expr} {ta : TA} {p p2 pos pos2 : Pos} (hc : X.calm = true) (hg : Gl X "list") (hm : X.mg "list" = none) (hg2 : Gl X "range") (hm2 : X.mg "range" = none) (ha : PA X [a, b, c] ta)
    (hs : starEach [a, b, c] X.env = (false, eval a X.env) :: starEach [b, c] X.env) (hpl : (backTo pos (starEach [b, c] X.env)).any (·.1) = false) :
    PE X (.Call (.Name "list" p) [.Call (.Name "range" p2) [a, b, c] [] pos] [] pos2) (tLstRgD ta) := by
  refine ⟨fun pins s σ H Q I h => ?_⟩
  refine Call_ (ld_blt I hg hm boot_list (PyProof.Rows.callWith_type1 (args_cons (Call_ (ld_blt I hg2 hm2 boot_range (PyProof.Rows.callWith_type1 (thn (ha.run pos pins s σ H _ I h) fun us s1 ⟨vs, H1, I1, r1, q1⟩ => ?_) hs hpl))) rfl) rfl))
  obtain ⟨i, j, e, ⟨c0, c1, c2, c3⟩, hn, q⟩ := q1
  subst e
  cases r1 with
  | cons r rr =>
    cases rr with
    | cons r' rr =>
      cases rr with
      | cons r'' rr =>
        cases rr
        obtain ⟨t, rfl⟩ := r
        obtain ⟨t', rfl⟩ := r'
        obtain ⟨t'', rfl⟩ := r''
        refine call_range_3 c0 ?_ (.inl (PyProof.noPylong_small c1))
        have I2 : Inv X pins σ H1 { s1 with heap := s1.heap.push { cls := .type "range", data := .fields #[.int i t, .int j t', .int (-1) t''] } } := I1.kept (t' := s1.toks) fun b o e => Heap.get?_push_of_some _ e
        refine args_nil (call_list_range (n := (i - j).toNat) (I2.ok.hd hc) (IsRange.new _ _ _ _ _ _ _) c2 c3 hn fun h' tk acc c' hk e' hi => ?_)
        refine ⟨.ref _, upd H1 _ (.lst (rgDV i j)), I2.laid hk (Nat.le_refl _) (show ObjOk X.prog X.w _ _ _ (.lst (rgDV i j)) from ⟨?_, acc.toList, c', vals_rgD hi, ?_⟩), rfl, q _ (I2.hok.fresh (Nat.le_refl _))⟩
        · unfold rgDV
          rw [List.length_map, List.length_range, sizeLine_eq]
          omega
        · rw [Array.toArray_toList]
          exact e'
/-- x.remove(k), k is in x -/
def rRem : V → List V → Hp → VK → Prop := fun x zs H Q => ∃ (l : Addr) (ns : List Int) (k : Int), x = .ref l ∧ zs = [.int k] ∧ H l = some (.lst (ns.map V.int)) ∧ k ∈ ns ∧ Q .non (upd H l (.lst ((ns.erase k).map V.int)))
theorem mt_remove : MtR X "list.remove" rRem := by
  intro pins s σ H x zs v us Q I rx rz h
  obtain ⟨l, ns, k, rfl, rfl, hH, hk, q⟩ := h
  cases rx
  obtain ⟨u, rfl, ru⟩ := rz.one
  obtain ⟨t, rfl⟩ := ru
  obtain ⟨z, its, n, r, hl, e0⟩ := I.lstM hH
  have hi : IntsAre its ns := intsAre_of r
  have hnl : ns.length = its.length := by rw [← hl, List.length_map]
  obtain ⟨j, j1, j2, j3, j4⟩ := first_at hk
  have hj : j < its.length := by omega
  refine call_meets PySem.F.slot_list_remove ⟨_, e0, rfl⟩ PySem.F.entry_list_remove (PySem.F.args_list_remove_2 _ _)
    (MeetsSeq.list_remove l its.toArray n (.int k t) (isInt k) (fun y hy => eq_isInt k t hi y (by simpa using hy)) j (by rw [List.size_toArray]; exact hj) ((L2.isInt_at k hi j hj).mpr j2)
      (fun i hi2 hlt => by
        have hi3 : i < its.length := by rw [List.size_toArray] at hi2; exact hi2
        show isInt k its[i] = false
        rw [Bool.eq_false_iff]
        exact fun w => j3 i hlt ((L2.isInt_at k hi i hi3).mp w)) (by rw [List.size_toArray, ← hl]; exact z)) ⟨e0, ?_⟩
  have r2 := r.eraseIdx j
  rw [map_eraseIdx', j4] at r2
  refine ⟨.non, _, I.lset (its' := its.eraseIdx j) hH e0 ?_ r2 ?_, rfl, q⟩
  · show its.toArray.eraseIdxIfInBounds j = (its.eraseIdx j).toArray
    rw [List.eraseIdxIfInBounds_toArray]
  · have := List.length_erase_le (a := k) (l := ns)
    rw [List.length_map] at z ⊢
    omega
end
/-! what the reading says -/
section
variable {K : PySem.W.Frag} {H : Hp} {F : Fp} {x y : V} {c e d : D} {Q : VK}
theorem lset_sat (hx : Obs H F c x) (h : lsetF c = some d) (k : Fin1 F H d Q) : ∃ (l : Addr) (ns : List Int), x = .ref l ∧ SqL K H l (ns.map V.int) ∧ ns.length ≤ 4000 ∧ Q (.int ((dedI ns).length : Nat)) H := by
  unfold lsetF at h
  split at h
  · rename_i o xs
    obtain ⟨ns, e1, e2⟩ := Option.bind_eq_some_iff.mp h
    obtain ⟨h1, h2⟩ := guardO_some e2
    cases h2
    obtain ⟨a, rfl, q⟩ := hx.ints (K := K) e1
    exact ⟨a, ns, rfl, q, of_decide_eq_true h1, k.int⟩
  · cases h
theorem rgD_sat (hx : Obs H F c x) (hy : Obs H F e y) (h : rgDF c e = some d) (k : Fin1 F H d Q) : ∃ i j : Int, x = .int i ∧ y = .int j ∧ RgC i j (-1) (i - j).toNat ∧ (i - j).toNat ≤ 2 ^ 24 ∧ ∀ q, H q = none → Q (.ref q) (upd H q (.lst (rgDV i j))) := by
  unfold rgDF at h
  split at h
  · rename_i i j
    obtain ⟨h1, h2⟩ := guardO_some h
    cases h2
    rw [Bool.and_eq_true] at h1
    have h3 := okRg_of h1.1
    have h4 := okRg_of h1.2
    refine ⟨_, _, hx.int, hy.int, RgC.neg (by omega) (by omega) (by omega) (by omega), by omega, ?_⟩
    refine k.lst (g := Fp.zero) ?_ (fun _ => ⟨rfl, rfl⟩) fun _ z => absurd z (Nat.lt_irrefl 0)
    unfold rangeD rgDV
    have := RepL.ints (H := H) ((List.range (i - j).toNat).map fun (n : Nat) => i - (n : Int))
    rw [List.map_map, List.map_map] at this
    exact this
  · cases h
end
end VE

end
section
set_option maxHeartbeats 1000000
/-! VEf: contexts, the look at the text, argument lists. -/
namespace VE
open PySem PySem.Spec PyProof.Rows L2
variable [TC]

/-! ### contexts -/
inductive GK where
  | fn (i : Nat)
  | tld (i : Nat)
  | cst (c : Cst)
  | exc (fn : Str) (up : List Str)
  | bas
def GK.isCl : GK → Bool
  | .exc _ _ => true
  | .bas => true
  | _ => false
structure Ctx where
  N : List Str
  sc : Scope
  gl : List (Str × GK)
  bi : List Str
  lam : Bool
def Cst.v : Cst → V
  | .non => .non
  | .bl b => .bl b
  | .int i => .int i
  | .str s => .str s
/-- a flat datum's value -/
def xv : D → V
  | .bl b => .bl b
  | .int i => .int i
  | .str x => .str x
  | _ => .non
/-- what a def's end gives -/
def FP (mg : Str → Option Value) (H : Hp) (f : Fp) (vs : List V) (Q : VK) (E : XK) : F → Prop
  | .ok d fs => ∀ v H' g f', Rep H' d v g → RepL H' fs vs f' → Good (g.add f') → Step H f H' (g.add f') → Q v H'
  | .ex c [d] fs => ∀ C H' f' dx, mg c.x = some C → RepL H' fs vs f' → Good f' → Step H f H' f' → H' dx = some (.xd [(c.fn, xv d)]) → E C (some dx) H'
  | _ => False
def spV (T : Nat → Option Def) (mg : Str → Option Value) (k i : Nat) : Sp := fun vs H Q E => ∃ p ds f, T i = some p ∧ vs.length = p.np ∧ RepL H ds vs f ∧ Good f ∧ LamX.Tabs TC.T H ∧ FP mg H f vs Q E (run T k i ds)
/-- from H on with g: a value's end -/
def FPn (H : Hp) (g : Fp) (Q : VK) : F → Prop
  | .ok d _ => ∀ v H' g', Rep H' d v g' → Good g' → Step H g H' g' → Q v H'
  | _ => False
/-- what the def p makes of what the lambda's call gives -/
def TTv (p : Def) (mg : Str → Option Value) : (XK → Hp → VK → Prop) → Hp → VK → Prop := fun tl H Q => ∃ (E : XK) (Qv : VK), tl E H Qv ∧
  (∀ v H', Qv v H' → ∃ d g, Rep H' d v g ∧ Good g ∧ LamX.Tabs TC.T H' ∧ FPn H' g Q (toldRun p [.tup [d]])) ∧
  (∀ Cl dx H', E Cl dx H' → ∃ (c : Xn) (d : D) (x : Addr), mg c.x = some Cl ∧ dx = some x ∧ H' x = some (.xd [(c.fn, xv d)]) ∧ flat d = true ∧ LamX.Tabs TC.T H' ∧ FPn H' Fp.zero Q (toldRun p [.tup [.str c.x, .str c.fn, d]]))
/-- a def that calls what it got -/
structure ToldAt (T : Nat → Option Def) (P : Program) (w : World) (K : PySem.W.Frag) (mg : Str → Option Value) (base : Heap) (x : Str) (i : Nat) : Prop where
  is : ∃ (p : Def) (g : Addr) (oc : Value) (od : Option Addr) (osl : Array (Option Value)) (pg : Arguments) (bg : List PySem.Stmt) (sg : Scope) (dV kV doc pm cdv ct : Value) (an : Option Addr) (Ng : List Str) (a : Str),
    T i = some p ∧ p.kd.isTold = true ∧ p.np = 1 ∧ mg x = some (.ref g) ∧ PySem.W.keepIn K (.ref g) = true ∧ K.lookup g = some ⟨oc, od, .func (PySem.W.fnOf x x pg bg sg dV kV doc pm an cdv ct), osl⟩ ∧ PySem.W.codeIn K cdv x = true ∧
    Binds K (PySem.W.fnOf x x pg bg sg dV kV doc pm an cdv ct) [a] [] ∧ FnScope Ng [a] sg ∧ Ng[0]? = some a ∧ Vis sg a ∧ (a == ("__debug__" : Str)) = false ∧ (a == ("__classdict__" : Str)) = false ∧
    ∀ (X : Cx) (q : Str), X.prog = P → X.w = w → X.K = K → X.mg = mg → X.base = base → Room 25 X.A → LamX.GivesTo X Ng x sg g cdv bg a q (TTv p mg)
/-- what an own exception's __init__ promises: its one field -/
def spI (C : Addr) (fn : Str) : Sp := fun vs H Q _ => ∃ a y, vs = [.ref a, y] ∧ H a = some (exo a C none) ∧ ∀ dx, H dx = none → dx ≠ a → Q .non (upd (upd H dx (exd dx [(fn, y)])) a (exo a C (some dx)))
/-- an own exception's class: what is known of it -/
structure XcAt (P : Program) (w : World) (K : PySem.W.Frag) (mg : Str → Option Value) (base : Heap) (x fn : Str) (C : Addr) : Prop where
  at_ : mg x = some (.ref C)
  cls : OexC K C
  xf : XfC K C
  nof : PySem.W.findIn K (.ref C) fn = some none
  ini : ∃ fI fd ps, PySem.W.findIn K (.ref C) "__init__" = some (some (.ref fI)) ∧ PySem.W.typeIn K (.ref fI) = some (.type "function") ∧ Binds K fd ps [] ∧ FnOk P w K mg base (L2.CX P w) 1 fI fd ps (spI C fn)
structure TabOk (T : Nat → Option Def) (gl : List (Str × GK)) (bi : List Str) (P : Program) (w : World) (K : PySem.W.Frag) (mg : Str → Option Value) (base : Heap) (k : Nat) : Prop where
  cst : ∀ x c, gl.lookup x = some (.cst c) → ∃ u, mg x = some u ∧ RelV c.v u
  fn : ∀ x i, gl.lookup x = some (.fn i) → ∃ p f fd ps, T i = some p ∧ mg x = some (.ref f) ∧ PySem.W.keepIn K (.ref f) = true ∧ Binds K fd ps [] ∧ ps.length = p.np ∧ FnOk P w K mg base (L2.CX P w) (3 * k + 24) f fd ps (spV T mg k i)
  tld : ∀ x i, gl.lookup x = some (.tld i) → ToldAt T P w K mg base x i
  bi : ∀ x, x ∈ bi → mg x = none
  cls : ∀ y g, gl.lookup y = some g → g.isCl = true → ∃ Cy, mg y = some Cy
  exc : ∀ x fn up, gl.lookup x = some (.exc fn up) → ∃ C, XcAt P w K mg base x fn C ∧ ∀ y g Cy, gl.lookup y = some g → g.isCl = true → mg y = some Cy → PySem.W.exmOne K (.ref C) Cy = some (up.contains y)
structure CO (T : Nat → Option Def) (k : Nat) (c : Ctx) (X : Cx) : Prop where
  N : X.N = c.N
  nd : c.N.Nodup
  vis : ∀ x, (c.sc.names.lookup x = some .local ∨ c.sc.names.lookup x = some .cell ∨ c.sc.names.lookup x = some .free) → Vis X.env.scope x
  loc : ∀ x, c.sc.names.lookup x = some .local → X.env.scope.names.lookup x = some .local
  cel : ∀ x, c.sc.names.lookup x = some .cell → X.env.scope.names.lookup x = some .cell ∧ X.fn x = true
  cf : ∀ x, (c.sc.names.lookup x = some .cell ∨ c.sc.names.lookup x = some .free) → (X.env.scope.names.lookup x = some .cell ∨ X.env.scope.names.lookup x = some .free)
  glo : ∀ x, c.sc.names.lookup x = some .globalImplicit → X.env.kindOf x = some .globalImplicit
  kind : X.env.scope.kind = .function
  calm : X.calm = true
  room : Room (3 * k + 24) X.A
  lam : c.lam = true → Room (3 * k + 26) X.A ∧ ∃ cA P, LamX.TabB X.base X.mg cA P ∧ X.env.code = .ref cA ∧ (P, X.env.qual ++ "<lambda>") ∈ TC.T ∧ ∀ p ∈ TC.T, p.1 = P → p.2 = X.env.qual ++ "<lambda>"
  tab : TabOk T c.gl c.bi X.prog X.w X.K X.mg X.base k

/-! ### the look -/
def vis (c : Ctx) (i : Nat) (x : Str) : Bool := decide (c.N[i]? = some x) && !(x == ("__debug__" : Str)) && !(x == ("__classdict__" : Str)) && (match c.sc.names.lookup x with
  | some .local => true
  | some .cell => true
  | some .free => true
  | _ => false)
def loc (c : Ctx) (i : Nat) (x : Str) : Bool := decide (c.N[i]? = some x) && (match c.sc.names.lookup x with
  | some .local => true
  | some .cell => true
  | _ => false)
def gln (c : Ctx) (x : Str) : Bool := match c.sc.names.lookup x with
  | some .globalImplicit => !(x == ("__debug__" : Str))
  | _ => false
def noStar : Expr → Bool
  | .Starred _ _ => false
  | _ => true
def noSlice : Expr → Bool
  | .Slice _ _ _ _ => false
  | _ => true
def bin (c : Ctx) (x : Str) : Bool := gln c x && c.bi.contains x
/-- whose truth is asked of the value itself -/
def plainT : Expr → Bool
  | .Name _ _ => true
  | .Constant _ _ _ => true
  | .Call _ _ _ _ => true
  | .Subscript _ _ _ => true
  | .List _ _ => true
  | .Tuple _ _ _ => true
  | _ => false
def eqCst : Const → Cst → Bool
  | .none, .non => true
  | .bool a, .bl b => a == b
  | .int a, .int b => a == b
  | .str a, .str b => decide (a = b)
  | _, _ => false
def tyOf : Op → Option Str
  | .isI => some "int"
  | .isB => some "bool"
  | .isS => some "str"
  | .isT => some "tuple"
  | .isL => some "list"
  | _ => none
/-- the parts of an operation as it is written -/
def opArgs (c : Ctx) (m : Fm) (o : Op) (e : Expr) : Option (List Expr) := match m with
  | .bin => match e with
    | .BinOp a p b _ => if opOfBin p = some o then some [a, b] else none
    | _ => none
  | .un => match e with
    | .UnaryOp .USub a _ => if o = .neg then some [a] else none
    | _ => none
  | .call => match e with
    | .Call (.Name id _) (a :: as) [] _ => if bin c id = true ∧ (∃ t, bcall id = some (o, t)) then some (a :: as) else none
    | _ => none
  | .lrg => match e with
    | .Call (.Name id _) [.Call (.Name r _) args [] _] [] _ => if id = "list" ∧ r = "range" ∧ bin c id = true ∧ bin c r = true then (match o, args with
      | .range1, [a] => some [a]
      | .range2, [a, b] => some [a, b]
      | .range3, [a, b, .UnaryOp .USub (.Constant (.int 1) _ _) _] => some [a, b]
      | _, _ => none) else none
    | _ => none
  | .lset => match e with
    | .Call (.Name id _) [.Call (.Name r _) [a] [] _] [] _ => if id = "len" ∧ r = "set" ∧ bin c id = true ∧ bin c r = true ∧ o = .lset then some [a] else none
    | _ => none
  | .isi => match e with
    | .Call (.Name id _) [a, .Name t _] [] _ => if id = "isinstance" ∧ bin c id = true ∧ bin c t = true ∧ tyOf o = some t then some [a] else none
    | _ => none
  | .sub => match e with
    | .Subscript a i _ => if noSlice i = true ∧ o = .idx then some [a, i] else none
    | _ => none
  | .cut => match o, e with
    | .cut, .Subscript a (.Slice (some l) (some h) none _) _ => some [a, l, h]
    | .cutL, .Subscript a (.Slice (some l) none none _) _ => some [a, l]
    | .cutR, .Subscript a (.Slice none (some h) none _) _ => some [a, h]
    | _, _ => none
  | .rev => match o, e with
    | .rev, .Subscript a (.Slice none none (some (.UnaryOp .USub (.Constant (.int 1) _ _) _)) _) _ => some [a]
    | _, _ => none
  | .srev => match e with
    | .Call (.Name id _) [a] [⟨some kw, .Constant (.bool true) _ _, _⟩] _ => if id = "sorted" ∧ kw = "reverse" ∧ bin c id = true ∧ o = .sortR then some [a] else none
    | _ => none
/-- the terms of an argument list -/
inductive PEL (X : Cx) : List Expr → List TE → Prop where
  | nil : PEL X [] []
  | cons {e : Expr} {es : List Expr} {t : TE} {ts : List TE} : noStar e = true → PE X e t → PEL X es ts → PEL X (e :: es) (t :: ts)
def tL : List TE → TA
  | [] => tNil
  | t :: ts => tCons t (tL ts)
theorem starEach_cons {e : Expr} {es : List Expr} {env : Env} (h : noStar e = true) : starEach (e :: es) env = (false, eval e env) :: starEach es env := by
  cases e <;> first | rfl | (simp [noStar] at h)
theorem PEL.pa {X : Cx} : ∀ {es : List Expr} {ts : List TE}, PEL X es ts → PA X es (tL ts)
  | _, _, .nil => pa_nil
  | _, _, .cons h1 h2 h3 => pa_cons h2 h3.pa (starEach_cons h1)
theorem PEL.plain {X : Cx} {pos : Pos} : ∀ {es : List Expr} {ts : List TE}, PEL X es ts → (backTo pos (starEach es X.env)).any (·.1) = false
  | _, _, .nil => rfl
  | _, _, .cons (es := es) h1 h2 h3 => by
    have ih := PEL.plain (pos := pos) h3
    rw [starEach_cons h1]
    unfold backTo at ih ⊢
    rw [List.map_cons, List.any_cons, ih]
    rfl
theorem bin_of {c : Ctx} {x : Str} (h : bin c x = true) : c.sc.names.lookup x = some .globalImplicit ∧ x ∈ c.bi ∧ (x == ("__debug__" : Str)) = false := by
  unfold bin gln at h
  rw [Bool.and_eq_true] at h
  obtain ⟨h1, h2⟩ := h
  split at h1
  · rename_i e
    refine ⟨e, by simpa using h2, ?_⟩
    simpa using h1
  · cases h1
section
variable {T : Nat → Option Def} {k : Nat} {c : Ctx} {X : Cx}
theorem CO.bin (C : CO T k c X) {x : Str} (h : bin c x = true) : Gl X x ∧ X.mg x = none ∧ (x == ("__debug__" : Str)) = false := by
  obtain ⟨h1, h2, h3⟩ := bin_of h
  exact ⟨C.glo x h1, C.tab.bi x h2, h3⟩
/-- what an operation asks of its parts -/
def opAsk (o : Op) (Q : VK) (vs : List V) (H : Hp) : Prop := ∃ F ds d, ObsL H F ds vs ∧ opF o ds = some d ∧ Fin1 F H d Q
theorem plainIx {b : Expr} (h : noSlice b = true) : PlainIx b := by
  intro o i
  cases b <;> first | rfl | (simp [noSlice] at h)
/-- a slice's part by its value -/
inductive Part : V → Option Int → Prop where
  | non : Part .non none
  | int (i : Int) : Part (.int i) (some i)
def PP (X : Cx) (o : Option Expr) (t : TE) : Prop := ∀ (pins : List (Addr × Obj)) (s : Shared) (σ : L2.St) (H : Hp) (Q : VK), Inv X pins σ H s → t σ H Q → wpAny (model X.prog X.w) X.A (evalPart o X.env) (EP X pins σ Q) X.xe s
theorem pp_none : PP X none (tC .non) := fun pins s σ H Q I h => by
  rw [evalPart_none]
  exact wpAny_pure ⟨.non, H, I, rfl, h⟩
theorem pp_some {e : Expr} {t : TE} (h : PE X e t) : PP X (some e) t := fun pins s σ H Q I hq => h.run pins s σ H Q I hq
theorem part_of {y : V} {o : Option Int} {u : Value} (p : Part y o) (r : RelV y u) : IsPart u o := by
  cases p with
  | non => cases r; exact .none
  | int i => obtain ⟨t, rfl⟩ := r; exact .int i t
theorem pe_cutX {e : Expr} {te tl th : TE} {lo hi : Option Expr} {p2 pos : Pos} (he : PE X e te) (hl : PP X lo tl) (hh : PP X hi th) :
    PE X (.Subscript e (.Slice lo hi none p2) pos) (fun σ H Q => te σ H fun x H1 => tl σ H1 fun y H2 => th σ H2 fun z H3 => ∃ l u, Part y l ∧ Part z u ∧ rSlL X.K x l u H3 Q) := by
  refine ⟨fun pins s σ H Q I h => ?_⟩
  refine Subscript_ (thn (he.run pins s σ H _ I h) fun v s1 ⟨x, H1, I1, r1, q1⟩ => ?_)
  refine PySem.wpAny_Slice (thn (hl pins s1 σ H1 _ I1 q1) fun vl s2 ⟨y, H2, I2, ry, q2⟩ => thn (hh pins s2 σ H2 _ I2 q2) fun vu s3 ⟨z, H3, I3, rz, q3⟩ => ?_)
  obtain ⟨l, u, py, pz, q3⟩ := q3
  rw [evalPart_none]
  refine wpAny_pure ?_
  have I4 : Inv X pins σ H3 { s3 with heap := s3.heap.push { cls := .type "slice", data := .fields #[vl, vu, .none] } } := I3.kept (t' := s3.toks) fun b ob q => Heap.get?_push_of_some _ q
  obtain ⟨T, id, hT, ht, hg⟩ := sl_list pins { s3 with heap := s3.heap.push { cls := .type "slice", data := .fields #[vl, vu, .none] } } σ H3 x v vl vu l u s3.heap.objs.size Q I4 r1 (Heap.IsSliceOf.new ..) (part_of py ry) (part_of pz rz) q3
  show wpAny (model X.prog X.w) X.A (subscriptTail e (.Slice lo hi none p2) v (.ref s3.heap.objs.size)) (EP X pins σ Q) X.xe { s3 with heap := s3.heap.push { cls := .type "slice", data := .fields #[vl, vu, .none] } }
  exact tail_any (ops := [.ref s3.heap.objs.size, v]) ht hT hg (by with_unfolding_all rfl)
theorem int?_some {d : D} {i : Int} (h : int? d = some i) : d = .int i := by
  unfold int? at h
  split at h
  · cases h; rfl
  · cases h
/-- a call of a built-in by its name -/
theorem pe_bcall (C : CO T k c X) {id : Str} {p pos : Pos} {o : Op} {t : Bool} {a : Expr} {as : List Expr} {ts : List TE} (hb : bin c id = true) (h : bcall id = some (o, t)) (hp : PEL X (a :: as) ts) :
    PE X (.Call (.Name id p) (a :: as) [] pos) (tCB (callR X.K o) (tL ts)) := by
  obtain ⟨g1, g2, g3⟩ := C.bin hb
  obtain ⟨r1, r2, r3, r4, r5⟩ := bcall_rule (X := X) C.calm (by have := C.room.un; omega) h
  have n1 : noStar a = true := by cases hp; assumption
  have pl : (backTo pos (starEach as X.env)).any (·.1) = false := by
    cases hp with
    | cons _ _ q => exact q.plain
  rcases r5 with ⟨n, e⟩ | ⟨n, e⟩
  · rw [e] at r1 r2
    exact pe_callB r1 g1 g2 r2 hp.pa r3 g3 (starEach_cons n1) pl
  · rw [e] at r1 r2
    exact pe_callTy r1 g1 g2 r2 hp.pa r3 g3 (starEach_cons n1) pl
theorem tyOf_spec {o : Op} {t : Str} (h : tyOf o = some t) : ∃ u : Ty, u ≠ .non ∧ bootBuiltins t = some (.type u.name) ∧ t ≠ "__name__" ∧ ∀ d, opF o [d] = isF u d := by
  cases o <;> simp [tyOf] at h <;> subst h
  · exact ⟨.int, by simp, by decide +kernel, by decide, fun _ => rfl⟩
  · exact ⟨.bl, by simp, by decide +kernel, by decide, fun _ => rfl⟩
  · exact ⟨.str, by simp, by decide +kernel, by decide, fun _ => rfl⟩
  · exact ⟨.tup, by simp, by decide +kernel, by decide, fun _ => rfl⟩
  · exact ⟨.lst, by simp, by decide +kernel, by decide, fun _ => rfl⟩
theorem ObsL.nil1 {H : Hp} {F : Fp} {ds : List D} (h : ObsL H F ds []) : ds = [] := by
  cases h
  rfl
theorem ObsL.l1 {H : Hp} {F : Fp} {ds : List D} {v : V} (h : ObsL H F ds [v]) : ∃ d, ds = [d] ∧ Obs H F d v := by
  cases h with
  | cons a b => cases b; exact ⟨_, rfl, a⟩
theorem ObsL.l2 {H : Hp} {F : Fp} {ds : List D} {v w : V} (h : ObsL H F ds [v, w]) : ∃ d e, ds = [d, e] ∧ Obs H F d v ∧ Obs H F e w := by
  cases h with
  | cons a b =>
    cases b with
    | cons a' b' => cases b'; exact ⟨_, _, rfl, a, a'⟩
theorem ObsL.l3 {H : Hp} {F : Fp} {ds : List D} {v w x : V} (h : ObsL H F ds [v, w, x]) : ∃ d e f, ds = [d, e, f] ∧ Obs H F d v ∧ Obs H F e w ∧ Obs H F f x := by
  cases h with
  | cons a b =>
    obtain ⟨d, e, rfl, h1, h2⟩ := b.l2
    exact ⟨_, _, _, rfl, a, h1, h2⟩
/-- r1, r2, r3: what is asked of the values -/
def on1 (r : V → Hp → Prop) : List V → Hp → Prop
  | [x], H => r x H
  | _, _ => False
def on2 (r : V → V → Hp → Prop) : List V → Hp → Prop
  | [x, y], H => r x y H
  | _, _ => False
def on3 (r : V → V → V → Hp → Prop) : List V → Hp → Prop
  | [x, y, z], H => r x y z H
  | _, _ => False
theorem PEL.l1 {a : Expr} {ts : List TE} (h : PEL X [a] ts) : ∃ t, ts = [t] ∧ noStar a = true ∧ PE X a t := by
  cases h with
  | cons n p q => cases q; exact ⟨_, rfl, n, p⟩
theorem PEL.l2 {a b : Expr} {ts : List TE} (h : PEL X [a, b] ts) : ∃ t u, ts = [t, u] ∧ noStar a = true ∧ noStar b = true ∧ PE X a t ∧ PE X b u := by
  cases h with
  | cons n p q =>
    obtain ⟨u, rfl, n2, p2⟩ := q.l1
    exact ⟨_, _, rfl, n, n2, p, p2⟩
theorem PEL.l3 {a b d : Expr} {ts : List TE} (h : PEL X [a, b, d] ts) : ∃ t u v, ts = [t, u, v] ∧ PE X a t ∧ PE X b u ∧ PE X d v := by
  cases h with
  | cons n p q =>
    obtain ⟨u, v, rfl, _, _, p2, p3⟩ := q.l2
    exact ⟨_, _, _, rfl, p, p2, p3⟩
theorem pe_lRgD {a b : Expr} {t u : TE} {kk : Nat} {p p2 q1 q2 pos pos2 : Pos} (hc : X.calm = true) (hg : Gl X "list") (hm : X.mg "list" = none) (hg2 : Gl X "range") (hm2 : X.mg "range" = none) (n1 : noStar a = true) (n2 : noStar b = true) (h1 : PE X a t) (h2 : PE X b u) :
    PE X (.Call (.Name "list" p) [.Call (.Name "range" p2) [a, b, .UnaryOp .USub (.Constant (.int 1) kk q1) q2] [] pos] [] pos2) (tLstRgD (tL [t, u, tUn (rU fun i => .int (-i)) (tC (.int 1))])) := by
  have pl : PEL X [a, b, .UnaryOp .USub (.Constant (.int 1) kk q1) q2] [t, u, tUn (rU fun i => .int (-i)) (tC (.int 1))] := PEL.cons n1 h1 (PEL.cons n2 h2 (PEL.cons rfl (pe_un un_neg pe_int) .nil))
  exact pe_listRgD hc hg hm hg2 hm2 pl.pa (by rw [starEach_cons n1]) (by cases pl with | cons _ _ q => exact q.plain)
theorem op_ok (C : CO T k c X) {m : Fm} {o : Op} {e : Expr} {xs : List Expr} {ts : List TE} (h : opArgs c m o e = some xs) (hp : PEL X xs ts) :
    ∃ te, PE X e te ∧ ∃ R : VK → List V → Hp → Prop, (∀ σ H Q, tL ts σ H (R Q) → te σ H Q) ∧ ∀ Q vs H, vs.length = ts.length → opAsk o Q vs H → R Q vs H := by
  have len1 : ∀ {vs : List V}, vs.length = 1 → ∃ v, vs = [v] := fun {vs} h => by
    match vs, h with
    | [v], _ => exact ⟨v, rfl⟩
  have len2 : ∀ {vs : List V}, vs.length = 2 → ∃ v w, vs = [v, w] := fun {vs} h => by
    match vs, h with
    | [v, w], _ => exact ⟨v, w, rfl⟩
  have len3 : ∀ {vs : List V}, vs.length = 3 → ∃ v w x, vs = [v, w, x] := fun {vs} h => by
    match vs, h with
    | [v, w, x], _ => exact ⟨v, w, x, rfl⟩
  unfold opArgs at h
  cases m with
  | bin =>
    dsimp only at h
    split at h
    · split at h
      · rename_i ho
        cases h
        obtain ⟨t, u, rfl, n1, n2, p1, p2⟩ := hp.l2
        refine ⟨_, pe_op (bin_rule ho) p1 p2, fun Q => on2 fun x y H => binR o x y H Q, fun σ H Q q => q, fun Q vs H hl ⟨F, ds, d, hx, hf, kk⟩ => ?_⟩
        obtain ⟨v, w, rfl⟩ := len2 hl
        obtain ⟨d1, d2, rfl, h1, h2⟩ := hx.l2
        exact bin_sat h1 h2 hf ⟨_, ho⟩ kk
      · cases h
    · cases h
  | un =>
    dsimp only at h
    split at h
    · split at h
      · rename_i ho
        subst ho
        cases h
        obtain ⟨t, rfl, n1, p1⟩ := hp.l1
        refine ⟨_, pe_un un_neg p1, fun Q => on1 fun x H => rU (fun i => .int (-i)) x H Q, fun σ H Q q => q, fun Q vs H hl ⟨F, ds, d, hx, hf, kk⟩ => ?_⟩
        obtain ⟨v, rfl⟩ := len1 hl
        obtain ⟨d1, rfl, h1⟩ := hx.l1
        exact neg_sat h1 hf kk
      · cases h
    · cases h
  | call =>
    dsimp only at h
    split at h
    · split at h
      · rename_i hh
        obtain ⟨hb, t, ht⟩ := hh
        cases h
        refine ⟨_, pe_bcall C hb ht hp, fun Q vs H => callR X.K o vs H Q, fun σ H Q q => q, fun Q vs H hl ⟨F, ds, d, hx, hf, kk⟩ => ?_⟩
        exact call_sat ht hx hf kk
      · cases h
    · cases h
  | lrg =>
    dsimp only at h
    split at h
    · split at h
      · rename_i hh
        obtain ⟨rfl, rfl, hb, hr⟩ := hh
        obtain ⟨g1, g2, _⟩ := C.bin hb
        obtain ⟨g3, g4, _⟩ := C.bin hr
        split at h
        · cases h
          obtain ⟨t, rfl, n1, p1⟩ := hp.l1
          refine ⟨_, pe_listRg C.calm g1 g2 (prg_1 g3 g4 p1 (starEach_cons n1)), fun Q => on1 fun x H => ∃ n, x = .int n ∧ RgOk 0 n ∧ ∀ q, H q = none → Q (.ref q) (upd H q (.lst (rgV 0 n))), fun σ H Q q => q, fun Q vs H hl ⟨F, ds, d, hx, hf, kk⟩ => ?_⟩
          obtain ⟨v, rfl⟩ := len1 hl
          obtain ⟨d1, rfl, h1⟩ := hx.l1
          obtain ⟨i, j, e1, e2, q1, q2⟩ := rg_sat (F := F) (x := .int 0) ⟨Fp.zero, rep_int 0, fun a => ⟨Nat.zero_le _, Nat.zero_le _, Nat.zero_le _⟩⟩ h1 hf kk
          cases e1
          exact ⟨j, e2, q1, q2⟩
        · cases h
          obtain ⟨t, u, rfl, n1, n2, p1, p2⟩ := hp.l2
          refine ⟨_, pe_listRg C.calm g1 g2 (prg_2 g3 g4 p1 p2 (starEach_cons n1) (starEach_cons n2) (by cases hp with | cons _ _ q => exact q.plain)), fun Q => on2 fun x y H => ∃ i j, x = .int i ∧ y = .int j ∧ RgOk i j ∧ ∀ q, H q = none → Q (.ref q) (upd H q (.lst (rgV i j))), fun σ H Q q => q, fun Q vs H hl ⟨F, ds, d, hx, hf, kk⟩ => ?_⟩
          obtain ⟨v, w, rfl⟩ := len2 hl
          obtain ⟨d1, d2, rfl, h1, h2⟩ := hx.l2
          exact rg_sat h1 h2 hf kk
        · cases h
          obtain ⟨t, u, rfl, n1, n2, p1, p2⟩ := hp.l2
          refine ⟨_, pe_lRgD C.calm g1 g2 g3 g4 n1 n2 p1 p2, fun Q => on2 fun x y H => ∃ m, V.int 1 = .int m ∧ ∃ i j : Int, [x, y, .int (-m)] = [.int i, .int j, .int (-1)] ∧ RgC i j (-1) (i - j).toNat ∧ (i - j).toNat ≤ 2 ^ 24 ∧ ∀ q, H q = none → Q (.ref q) (upd H q (.lst (rgDV i j))), fun σ H Q q => q, fun Q vs H hl ⟨F, ds, d, hx, hf, kk⟩ => ?_⟩
          obtain ⟨v, w, rfl⟩ := len2 hl
          obtain ⟨d1, d2, rfl, h1, h2⟩ := hx.l2
          obtain ⟨i, j, rfl, rfl, q1, q2, q3⟩ := rgD_sat h1 h2 hf kk
          exact ⟨1, rfl, i, j, rfl, q1, q2, q3⟩
        · cases h
      · cases h
    · cases h
  | lset =>
    dsimp only at h
    split at h
    · split at h
      · rename_i hh
        obtain ⟨rfl, rfl, hb, hr, rfl⟩ := hh
        cases h
        obtain ⟨g1, g2, _⟩ := C.bin hb
        obtain ⟨g3, g4, _⟩ := C.bin hr
        obtain ⟨t, rfl, n1, p1⟩ := hp.l1
        refine ⟨_, pe_lenSetV C.calm g1 g2 g3 g4 p1 (starEach_cons n1), fun Q => on1 fun x H => ∃ (l : Addr) (ns : List Int), x = .ref l ∧ SqL X.K H l (ns.map V.int) ∧ ns.length ≤ 4000 ∧ Q (.int ((dedI ns).length : Nat)) H, fun σ H Q q => q, fun Q vs H hl ⟨F, ds, d, hx, hf, kk⟩ => ?_⟩
        obtain ⟨v, rfl⟩ := len1 hl
        obtain ⟨d1, rfl, h1⟩ := hx.l1
        exact lset_sat h1 hf kk
      · cases h
    · cases h
  | isi =>
    dsimp only at h
    split at h
    · split at h
      · rename_i hh
        obtain ⟨rfl, hb, ht, hy⟩ := hh
        cases h
        obtain ⟨g1, g2, g3⟩ := C.bin hb
        obtain ⟨g4, g5, g6⟩ := C.bin ht
        obtain ⟨u, hu, b1, b2, b3⟩ := tyOf_spec hy
        obtain ⟨t, rfl, n1, p1⟩ := hp.l1
        have pt : ∀ pp, PE X (.Name _ pp) (tC (.ty u.name)) := fun pp => pe_bltn (pos := pp) g4 g5 b1 rfl b2 g6
        refine ⟨_, pe_callB call_isi g1 g2 boot_isinstance (pa_cons p1 (pa_cons (pt _) pa_nil) (starEach_cons n1)) (by decide) g3 (starEach_cons n1) (by rfl), fun Q => on1 fun x H => rIsi X.K [x, .ty u.name] H Q, fun σ H Q q => q, fun Q vs H hl ⟨F, ds, d, hx, hf, kk⟩ => ?_⟩
        obtain ⟨v, rfl⟩ := len1 hl
        obtain ⟨d1, rfl, h1⟩ := hx.l1
        rw [b3] at hf
        exact isF_sat hu h1 hf kk
      · cases h
    · cases h
  | sub =>
    dsimp only at h
    split at h
    · split at h
      · rename_i hh
        obtain ⟨hs, rfl⟩ := hh
        cases h
        obtain ⟨t, u, rfl, n1, n2, p1, p2⟩ := hp.l2
        refine ⟨_, pe_ix ix_seq p1 p2 (plainIx hs), fun Q => on2 fun x y H => rIx X.K x y H Q, fun σ H Q q => q, fun Q vs H hl ⟨F, ds, d, hx, hf, kk⟩ => ?_⟩
        obtain ⟨v, w, rfl⟩ := len2 hl
        obtain ⟨d1, d2, rfl, h1, h2⟩ := hx.l2
        exact idx_sat h1 h2 hf kk
      · cases h
    · cases h
  | cut =>
    dsimp only at h
    split at h
    · cases h
      obtain ⟨t, u, v, rfl, p1, p2, p3⟩ := hp.l3
      refine ⟨_, pe_cutX p1 (pp_some p2) (pp_some p3), fun Q => on3 fun x y z H => ∃ l u, Part y l ∧ Part z u ∧ rSlL X.K x l u H Q, fun σ H Q q => q, fun Q vs H hl ⟨F, ds, d, hx, hf, kk⟩ => ?_⟩
      obtain ⟨v1, v2, v3, rfl⟩ := len3 hl
      obtain ⟨d1, d2, d3, rfl, h1, h2, h3⟩ := hx.l3
      obtain ⟨i, e1, hf⟩ := Option.bind_eq_some_iff.mp (show (int? d2).bind _ = some d from hf)
      obtain ⟨j, e2, hf⟩ := Option.bind_eq_some_iff.mp hf
      have e1 := int?_some e1
      have e2 := int?_some e2
      subst e1; subst e2
      refine ⟨some i, some j, ?_, ?_, cut_sat h1 hf kk⟩
      · rw [h2.int]; exact .int i
      · rw [h3.int]; exact .int j
    · cases h
      obtain ⟨t, u, rfl, _, _, p1, p2⟩ := hp.l2
      refine ⟨_, pe_cutX p1 (pp_some p2) pp_none, fun Q => on2 fun x y H => ∃ l u, Part y l ∧ Part .non u ∧ rSlL X.K x l u H Q, fun σ H Q q => q, fun Q vs H hl ⟨F, ds, d, hx, hf, kk⟩ => ?_⟩
      obtain ⟨v1, v2, rfl⟩ := len2 hl
      obtain ⟨d1, d2, rfl, h1, h2⟩ := hx.l2
      obtain ⟨i, e1, hf⟩ := Option.bind_eq_some_iff.mp (show (int? d2).bind _ = some d from hf)
      have e1 := int?_some e1
      subst e1
      refine ⟨some i, none, ?_, .non, cut_sat h1 hf kk⟩
      rw [h2.int]; exact .int i
    · cases h
      obtain ⟨t, u, rfl, _, _, p1, p2⟩ := hp.l2
      refine ⟨_, pe_cutX p1 pp_none (pp_some p2), fun Q => on2 fun x y H => ∃ l u, Part .non l ∧ Part y u ∧ rSlL X.K x l u H Q, fun σ H Q q => q, fun Q vs H hl ⟨F, ds, d, hx, hf, kk⟩ => ?_⟩
      obtain ⟨v1, v2, rfl⟩ := len2 hl
      obtain ⟨d1, d2, rfl, h1, h2⟩ := hx.l2
      obtain ⟨i, e1, hf⟩ := Option.bind_eq_some_iff.mp (show (int? d2).bind _ = some d from hf)
      have e1 := int?_some e1
      subst e1
      refine ⟨none, some i, .non, ?_, cut_sat h1 hf kk⟩
      rw [h2.int]; exact .int i
    · cases h
  | rev =>
    dsimp only at h
    split at h
    · cases h
      obtain ⟨t, rfl, n1, p1⟩ := hp.l1
      refine ⟨_, pe_revL p1, fun Q => on1 fun x H => ∃ a xs, x = .ref a ∧ SqL X.K H a xs ∧ ∀ p, H p = none → Q (.ref p) (upd H p (.lst xs.reverse)), fun σ H Q q => q, fun Q vs H hl ⟨F, ds, d, hx, hf, kk⟩ => ?_⟩
      obtain ⟨v, rfl⟩ := len1 hl
      obtain ⟨d1, rfl, h1⟩ := hx.l1
      exact rev_sat h1 hf kk
    · cases h
  | srev =>
    dsimp only at h
    split at h
    · split at h
      · rename_i hh
        obtain ⟨rfl, rfl, hb, rfl⟩ := hh
        cases h
        obtain ⟨g1, g2, _⟩ := C.bin hb
        obtain ⟨t, rfl, n1, p1⟩ := hp.l1
        have st : ∀ pos, backTo pos (starEach [_] X.env) = (false, eval _ X.env) :: backTo pos (starEach [] X.env) := fun pos => by rw [starEach_cons n1]; rfl
        refine ⟨_, pe_callBK (ks := [Str.ofString "reverse"]) (cr_sortedRev (b := true)) g1 g2 (by decide +kernel) (pa_cons p1 pa_nil (starEach_cons n1)) (pk_cons pe_bl pk_nil) (by decide) (by decide) (st _) (by rw [st]; rfl), fun Q => on1 fun x H => rSortedKw X.K true [.bl true] [x] [.bl true] H Q, fun σ H Q q => q, fun Q vs H hl ⟨F, ds, d, hx, hf, kk⟩ => ?_⟩
        obtain ⟨v, rfl⟩ := len1 hl
        obtain ⟨d1, rfl, h1⟩ := hx.l1
        exact sortR_sat h1 hf kk
      · cases h
    · cases h
end
end VE

end
section
set_option maxHeartbeats 1000000
/-! VEg: targets, walks, argument lists. -/
namespace VE
open PySem PySem.Spec PyProof.Rows L2
variable [TC]

section
variable {H H' : Hp}
theorem REnv.congr : ∀ {Γ : En} {σ σ' : L2.St} {f : Fp}, REnv H Γ σ f → σ'.length = σ.length → (∀ (i : Nat) (d : D), Γ[i]? = some (some d) → σ'[i]? = σ[i]?) → REnv H Γ σ' f
  | [], σ, σ', f, h, l, k => by
    unfold REnv at h ⊢
    obtain ⟨rfl, e⟩ := h
    exact ⟨List.length_eq_zero_iff.mp l, e⟩
  | .none :: Γ, σ, σ', f, h, l, k => by
    unfold REnv at h ⊢
    obtain ⟨x, r, rfl, q⟩ := h
    cases σ' with
    | nil => simp at l
    | cons y r' => exact ⟨y, r', rfl, REnv.congr q (by simpa using l) fun i d e => by simpa using k (i + 1) d (by simpa using e)⟩
  | some c :: Γ, σ, σ', f, h, l, k => by
    unfold REnv at h ⊢
    obtain ⟨v, r, g, h', rfl, q1, q2, rfl⟩ := h
    cases σ' with
    | nil => simp at l
    | cons y r' =>
      have e0 := k 0 c rfl
      simp at e0
      subst e0
      exact ⟨v, r', g, h', rfl, q1, REnv.congr q2 (by simpa using l) fun i d e => by simpa using k (i + 1) d (by simpa using e), rfl⟩
theorem wipeE_length (Γ : En) : ∀ is : List Nat, (wipeE Γ is).length = Γ.length
  | [] => rfl
  | i :: is => by unfold wipeE; rw [List.length_set, wipeE_length Γ is]
theorem wipeE_in {Γ : En} {i : Nat} {d : D} : ∀ {is : List Nat}, (wipeE Γ is)[i]? = some (some d) → i ∉ is ∧ Γ[i]? = some (some d)
  | [], h => ⟨by simp, h⟩
  | j :: is, h => by
    unfold wipeE at h
    by_cases e : j = i
    · subst e
      by_cases l : j < (wipeE Γ is).length
      · rw [List.getElem?_set_self l] at h; cases h
      · rw [List.getElem?_eq_none (by simpa using l)] at h; cases h
    · rw [List.getElem?_set_ne e] at h
      obtain ⟨h1, h2⟩ := wipeE_in h
      exact ⟨by simp only [List.mem_cons, not_or]; exact ⟨fun q => e q.symm, h1⟩, h2⟩
theorem REnv.wipe : ∀ {Γ : En} {σ : L2.St} {f : Fp} (is : List Nat), REnv H Γ σ f → ∃ g, REnv H (wipeE Γ is) σ g ∧ g.le f
  | Γ, σ, f, [], h => ⟨f, h, Fp.le.refl _⟩
  | Γ, σ, f, i :: is, h => by
    obtain ⟨g, q, l⟩ := REnv.wipe is h
    obtain ⟨g1, g2, e, q2⟩ := q.none i
    subst e
    exact ⟨g2, q2, (Fp.le_addR _ _).trans l⟩
theorem REnv.wipeS {Γ : En} {σ : L2.St} {f : Fp} {is : List Nat} (h : REnv H (wipeE Γ is) σ f) : REnv H (wipeE Γ is) (L2.wipe σ is) f :=
  h.congr (wipe_length _ _) fun i d e => wipe_out (wipeE_in e).1
theorem REnv.unwipe {Γ : En} {σ : L2.St} {f : Fp} {is : List Nat} (h : REnv H (wipeE Γ is) (L2.wipe σ is) f) : REnv H (wipeE Γ is) σ f :=
  h.congr (wipe_length _ _).symm fun i d e => (wipe_out (wipeE_in e).1).symm
theorem wipeE_idem (Γ : En) (is : List Nat) : wipeE (wipeE Γ is) is = wipeE Γ is := by
  apply List.ext_getElem?
  intro i
  by_cases h : ∃ d, (wipeE (wipeE Γ is) is)[i]? = some (some d)
  · obtain ⟨d, hd⟩ := h
    rw [hd, (wipeE_in hd).2]
  · by_cases h2 : ∃ d, (wipeE Γ is)[i]? = some (some d)
    · obtain ⟨d, hd⟩ := h2
      exfalso
      apply h
      refine ⟨d, ?_⟩
      have ni := (wipeE_in hd).1
      have : ∀ (js : List Nat) (Δ : En), i ∉ js → (wipeE Δ js)[i]? = Δ[i]? := fun js => by
        induction js with
        | nil => intro Δ _; rfl
        | cons j js ih =>
          intro Δ hn
          simp only [List.mem_cons, not_or] at hn
          unfold wipeE
          rw [List.getElem?_set_ne (Ne.symm hn.1)]
          exact ih Δ hn.2
      rw [this _ _ ni]
      exact hd
    · have l1 : (wipeE (wipeE Γ is) is).length = Γ.length := by rw [wipeE_length, wipeE_length]
      have l2 : (wipeE Γ is).length = Γ.length := wipeE_length _ _
      by_cases hi : i < Γ.length
      · have e1 := List.getElem?_eq_getElem (l := wipeE (wipeE Γ is) is) (by rw [l1]; exact hi)
        have e2 := List.getElem?_eq_getElem (l := wipeE Γ is) (by rw [l2]; exact hi)
        rw [e1, e2]
        cases x1 : (wipeE (wipeE Γ is) is)[i] with
        | some d => exact absurd ⟨d, by rw [e1, x1]⟩ h
        | none =>
          cases x2 : (wipeE Γ is)[i] with
          | some d => exact absurd ⟨d, by rw [e2, x2]⟩ h2
          | none => rfl
      · rw [List.getElem?_eq_none (by omega), List.getElem?_eq_none (by omega)]
end

/-! ### targets -/
def tgS : Tg → List Nat
  | .nm i => [i]
  | .tp is => is
def chkN (c : Ctx) : List Nat → List Expr → Bool
  | [], [] => true
  | i :: is, .Name x _ :: xs => loc c i x && chkN c is xs
  | _, _ => false
def chkG (c : Ctx) : Tg → Expr → Bool
  | .nm i, .Name x _ => loc c i x
  | .tp is, .Tuple xs _ _ => chkN c is xs
  | _, _ => false
theorem loc_of {c : Ctx} {i : Nat} {x : Str} (h : loc c i x = true) : c.N[i]? = some x ∧ (c.sc.names.lookup x = some .local ∨ c.sc.names.lookup x = some .cell) := by
  unfold loc at h
  rw [Bool.and_eq_true, decide_eq_true_eq] at h
  refine ⟨h.1, ?_⟩
  have h2 := h.2
  split at h2
  · left; assumption
  · right; assumption
  · cases h2
theorem vis_of {c : Ctx} {i : Nat} {x : Str} (h : vis c i x = true) : c.N[i]? = some x ∧ (x == ("__debug__" : Str)) = false ∧ (x == ("__classdict__" : Str)) = false ∧ (c.sc.names.lookup x = some .local ∨ c.sc.names.lookup x = some .cell ∨ c.sc.names.lookup x = some .free) := by
  unfold vis at h
  simp only [Bool.and_eq_true, decide_eq_true_eq, Bool.not_eq_true'] at h
  obtain ⟨⟨⟨h1, h2⟩, h3⟩, h4⟩ := h
  refine ⟨h1, h2, h3, ?_⟩
  split at h4
  · left; assumption
  · right; left; assumption
  · right; right; assumption
  · cases h4
section
variable {T : Nat → Option Def} {k : Nat} {c : Ctx} {X : Cx}
theorem CO.pv (C : CO T k c X) {i : Nat} {x : Str} {pos : Pos} (h : VE.vis c i x = true) : PE X (.Name x pos) (tVar i) := by
  obtain ⟨h1, h2, h3, h4⟩ := vis_of h
  exact pe_var (by rw [C.N]; exact h1) (C.vis x h4) h2 h3
theorem CO.pg (C : CO T k c X) {i : Nat} {x : Str} {pos : Pos} (h : VE.loc c i x = true) : PG X (.Name x pos) (gName i) := by
  obtain ⟨h1, h2⟩ := loc_of h
  have nd : X.N.Nodup := by rw [C.N]; exact C.nd
  have hN : X.N[i]? = some x := by rw [C.N]; exact h1
  rcases h2 with h2 | h2
  · exact pg_name nd hN (.inl (C.loc x h2)) (.inr (C.loc x h2))
  · exact pg_name nd hN (.inr (C.cel x h2).1) (.inl (C.cel x h2).2)
def gNs : List Nat → TGs
  | [] => gNil
  | i :: is => gCons (gName i) (gNs is)
theorem CO.pgs (C : CO T k c X) : ∀ {is : List Nat} {xs : List Expr}, chkN c is xs = true → PGs X xs (gNs is) ∧ (assignEach xs X.env).length = is.length ∧ (assignEach xs X.env).findIdx? (·.1) = none
  | [], [], _ => ⟨pgs_nil, rfl, rfl⟩
  | [], _ :: _, h => by simp [chkN] at h
  | i :: is, [], h => by simp [chkN] at h
  | i :: is, e :: xs, h => by
    cases e with
    | Name x p =>
      unfold chkN at h
      rw [Bool.and_eq_true] at h
      obtain ⟨q1, q2, q3⟩ := CO.pgs C h.2
      have e1 : assignEach (.Name x p :: xs) X.env = (false, assign (.Name x p) X.env) :: assignEach xs X.env := rfl
      refine ⟨pgs_cons (C.pg h.1) q1 (by rw [e1]; rfl), by rw [e1, List.length_cons, List.length_cons, q2], ?_⟩
      rw [e1, List.findIdx?_cons, q3]
      rfl
    | _ => simp [chkN] at h
def gTg (K : PySem.W.Frag) : Tg → TG
  | .nm i => gName i
  | .tp is => fun v σ H Q => gTup K is.length (gNs is) v σ H Q ∨ gUnl K is.length (gNs is) v σ H Q
theorem CO.tg (C : CO T k c X) : ∀ {t : Tg} {e : Expr}, chkG c t e = true → PG X e (gTg X.K t)
  | .nm i, e, h => by
    cases e with
    | Name x p => exact C.pg h
    | _ => simp [chkG] at h
  | .tp is, e, h => by
    cases e with
    | Tuple xs kk p =>
      obtain ⟨q1, q2, q3⟩ := C.pgs (show chkN c is xs = true from h)
      have p1 := pg_tup (k := kk) (pos := p) C.calm q1 q2 q3
      have p2 := pg_unl (k := kk) (pos := p) C.calm q1 q2 q3
      exact ⟨fun pins s σ H v u Q I r hq => hq.elim (p1.run pins s σ H v u Q I r) (p2.run pins s σ H v u Q I r)⟩
    | _ => simp [chkG] at h
end
/-- the slots stored one by one -/
def stL (Γ : En) : List Nat → List D → En
  | i :: is, d :: ds => stL (Γ.set i (some d)) is ds
  | _, _ => Γ
def stV (σ : L2.St) : List Nat → List V → L2.St
  | i :: is, v :: vs => stV (σ.set i (some v)) is vs
  | _, _ => σ
theorem stV_out {i : Nat} : ∀ {is : List Nat} {vs : List V} {σ : L2.St}, i ∉ is → (stV σ is vs)[i]? = σ[i]?
  | [], _, _, _ => by cases ‹List V› <;> rfl
  | j :: is, [], _, _ => rfl
  | j :: is, v :: vs, σ, h => by
    simp only [List.mem_cons, not_or] at h
    unfold stV
    rw [stV_out h.2, List.getElem?_set_ne (Ne.symm h.1)]
theorem stV_length : ∀ {is : List Nat} {vs : List V} {σ : L2.St}, (stV σ is vs).length = σ.length
  | [], vs, _ => by cases vs <;> rfl
  | j :: is, [], _ => rfl
  | j :: is, v :: vs, σ => by
    unfold stV
    rw [stV_length, List.length_set]
theorem gNs_ok : ∀ {is : List Nat} {vs : List V} {σ : L2.St} {H : Hp} {Q : L2.St → Hp → Prop}, is.length = vs.length → Q (stV σ is vs) H → gNs is vs σ H Q
  | [], vs, σ, H, Q, l, q => by
    cases vs with
    | nil => exact ⟨rfl, q⟩
    | cons v vs => simp at l
  | i :: is, vs, σ, H, Q, l, q => by
    cases vs with
    | nil => simp at l
    | cons v vs =>
      exact ⟨v, vs, rfl, gNs_ok (σ := σ.set i (some v)) (by simpa using l) q⟩
section
variable {H : Hp}
/-- stored: what is held is no more than before -/
theorem REnv.put1 {Γ : En} {σ : L2.St} {f g : Fp} {i : Nat} {d : D} {v : V} (h : REnv H Γ σ f) (r : Rep H d v g) : ∃ f', REnv H (Γ.set i (some d)) (σ.set i (some v)) f' ∧ f'.le (g.add f) := by
  by_cases l : i < Γ.length
  · obtain ⟨a, b, rfl, q⟩ := h.store l
    refine ⟨_, q d v g r, fun x => ?_⟩
    show g.o x + b.o x ≤ g.o x + (a.o x + b.o x) ∧ g.l x + b.l x ≤ g.l x + (a.l x + b.l x) ∧ g.s x + b.s x ≤ g.s x + (a.s x + b.s x)
    omega
  · have l2 : ¬ i < σ.length := by rw [← h.length]; exact l
    rw [List.set_eq_of_length_le (by omega), List.set_eq_of_length_le (by omega)]
    exact ⟨f, h, Fp.le_addR _ _⟩
theorem REnv.st : ∀ {is : List Nat} {ds : List D} {vs : List V} {Γ : En} {σ : L2.St} {f g : Fp}, REnv H Γ σ f → RepL H ds vs g → ∃ f', REnv H (stL Γ is ds) (stV σ is vs) f' ∧ f'.le (g.add f)
  | [], ds, vs, Γ, σ, f, g, h, r => ⟨f, by
      have e1 : stL Γ [] ds = Γ := by cases ds <;> rfl
      have e2 : stV σ [] vs = σ := by cases vs <;> rfl
      rw [e1, e2]
      exact h, Fp.le_addR _ _⟩
  | i :: is, [], vs, Γ, σ, f, g, h, r => by
    obtain ⟨rfl, rfl⟩ := r.inv0
    exact ⟨f, h, Fp.le_addR _ _⟩
  | i :: is, d :: ds, vs, Γ, σ, f, g, h, r => by
    obtain ⟨v, w, g1, g2, rfl, r1, r2, rfl⟩ := r.inv
    obtain ⟨f1, q, l1⟩ := h.put1 (i := i) r1
    obtain ⟨f', q1, q2⟩ := REnv.st (is := is) q r2
    refine ⟨f', q1, q2.trans fun x => ?_⟩
    have := l1 x
    simp only [Fp.add] at this ⊢
    omega
theorem setG_tp {Γ Γ' : En} {is : List Nat} {d : D} (h : setG Γ (.tp is) d = some Γ') : ∃ ds, items? d = some ds ∧ is.length = ds.length ∧ Γ' = stL Γ is ds := by
  have fold : ∀ (is : List Nat) (ds : List D) (Γ : En), is.length = ds.length → (is.zip ds).foldl (fun Γ p => Γ.set p.1 (some p.2)) Γ = stL Γ is ds := by
    intro is
    induction is with
    | nil => intro ds Γ l; cases ds <;> rfl
    | cons i is ih =>
      intro ds Γ l
      cases ds with
      | nil => rfl
      | cons d ds =>
        show (is.zip ds).foldl _ _ = _
        rw [ih ds _ (by simpa using l)]
        rfl
  unfold setG at h
  obtain ⟨ds, e1, e2⟩ := Option.bind_eq_some_iff.mp h
  split at e2
  · rename_i l
    cases e2
    exact ⟨ds, e1, l, fold is ds Γ l⟩
  · cases e2
theorem setG_ok {K : PySem.W.Frag} {t : Tg} {Γ Γ' : En} {σ : L2.St} {f g : Fp} {d : D} {v : V} {Q : L2.St → Hp → Prop} (h : REnv H Γ σ f) (r : Rep H d v g) (e : setG Γ t d = some Γ')
    (k : ∀ σ' f', REnv H Γ' σ' f' → f'.le (g.add f) → σ'.length = σ.length → (∀ i, i ∉ tgS t → σ'[i]? = σ[i]?) → Q σ' H) : gTg K t v σ H Q := by
  cases t with
  | nm i =>
    have e' : Γ.set i (some d) = Γ' := by
      unfold setG at e
      exact Option.some.inj e
    subst e'
    obtain ⟨f1, q, l1⟩ := h.put1 (i := i) r
    refine k _ _ q l1 (List.length_set ..) fun j hj => ?_
    · rw [List.getElem?_set_ne]
      intro q
      apply hj
      simp [tgS, q]
  | tp is =>
    obtain ⟨ds, e1, l, rfl⟩ := setG_tp e
    have fin : ∀ {vs : List V} {g' : Fp}, RepL H ds vs g' → g'.le g → Q (stV σ is vs) H := fun {vs g'} rl lg => by
      obtain ⟨f', q1, q2⟩ := REnv.st (is := is) h rl
      refine k _ f' q1 (q2.trans fun x => ?_) stV_length fun j hj => stV_out hj
      have := lg x
      show g'.o x + f.o x ≤ g.o x + f.o x ∧ g'.l x + f.l x ≤ g.l x + f.l x ∧ g'.s x + f.s x ≤ g.s x + f.s x
      omega
    cases d with
    | tup xs =>
      cases e1
      obtain ⟨a, vs, g', rfl, hr, rl, lg⟩ := Obs.tup (F := g) ⟨g, r, Fp.le.refl _⟩
      exact .inl ⟨a, vs, rfl, .inl hr, by rw [← rl.length]; exact l.symm, gNs_ok (by rw [← rl.length]; exact l) (fin rl lg)⟩
    | lst o xs =>
      cases e1
      obtain ⟨a, vs, g', rfl, hr, rl, lg⟩ := Obs.lst (F := g) ⟨g, r, Fp.le.refl _⟩
      exact .inr ⟨a, vs, rfl, .inl hr, by rw [← rl.length]; exact l.symm, gNs_ok (by rw [← rl.length]; exact l) (fin rl lg)⟩
    | _ => cases e1
end

/-! ### what is walked -/
inductive Src (K : PySem.W.Frag) (H : Hp) (f : Fp) : L2.It → List V → Prop where
  | lst {a : Addr} {vs : List V} : Rd H a (.lst vs) → f.o a = 0 → Src K H f (Itl K a) vs
  | tup {a : Addr} {vs : List V} : Rd H a (.tup vs) → f.o a = 0 → Src K H f (Itt K a) vs
  | rng {lo : Int} {n : Nat} : Src K H f (Itr lo n) ((List.range n).map fun (i : Nat) => V.int (lo + i))
  | rngc {lo c : Int} {n : Nat} : Src K H f (Itc lo c n) ((List.range n).map fun (i : Nat) => V.int (lo + i * c))
theorem rd_injL {H : Hp} {a : Addr} {xs ys : List V} (h : Rd H a (.lst xs)) (h' : Rd H a (.lst ys)) : xs = ys := by
  rcases h with h | ⟨o, h⟩ <;> rcases h' with h' | ⟨o', h'⟩ <;> rw [h] at h' <;> cases h' <;> rfl
theorem rd_injT {H : Hp} {a : Addr} {xs ys : List V} (h : Rd H a (.tup xs)) (h' : Rd H a (.tup ys)) : xs = ys := by
  rcases h with h | ⟨o, h⟩ <;> rcases h' with h' | ⟨o', h'⟩ <;> rw [h] at h' <;> cases h' <;> rfl
section
variable {K : PySem.W.Frag} {H H' : Hp} {f f' : Fp} {J : L2.It} {vs : List V}
theorem Src.step (s : Src K H f J vs) (S : Step H f H' f') : Src K H' f' J vs := by
  have z : ∀ {a : Addr}, Dm H a → f.o a = 0 → f'.o a = 0 := fun {a} dm h0 => by
    by_cases p : 0 < f'.o a
    · rcases S.own a p with q | q
      · omega
      · exact q.no dm
    · omega
  cases s with
  | lst h h0 => exact .lst (rd_impT h (fun ps e => by cases e) fun o nt ho => S.frame _ _ ho h0 nt) (z (rd_nt h fun ps e => by cases e) h0)
  | tup h h0 => exact .tup (rd_impT h (fun ps e => by cases e) fun o nt ho => S.frame _ _ ho h0 nt) (z (rd_nt h fun ps e => by cases e) h0)
  | rng => exact .rng
  | rngc => exact .rngc
theorem Src.go (s : Src K H f J vs) {i : Nat} (h : i < vs.length) : J.go i H := by
  cases s with
  | lst r _ => exact ⟨vs, vs[i], .inl r, by simp [h]⟩
  | tup r _ => exact ⟨vs, vs[i], .inl r, by simp [h]⟩
  | rng =>
    rw [List.length_map, List.length_range] at h
    exact h
  | rngc =>
    rw [List.length_map, List.length_range] at h
    exact h
theorem Src.stop (s : Src K H f J vs) {i : Nat} (h : vs.length ≤ i) : J.stop i H := by
  cases s with
  | lst r _ => exact ⟨vs, .inl r, h⟩
  | tup r _ => exact ⟨vs, .inl r, h⟩
  | rng =>
    rw [List.length_map, List.length_range] at h
    exact h
  | rngc =>
    rw [List.length_map, List.length_range] at h
    exact h
theorem Src.yld (s : Src K H f J vs) {i : Nat} {x : V} {H1 : Hp} (y : J.yld i H x H1) (h : i < vs.length) : H1 = H ∧ vs[i]? = some x := by
  cases s with
  | lst r _ => exact ⟨y.1, y.2 vs (.inl r)⟩
  | tup r _ => exact ⟨y.1, y.2 vs (.inl r)⟩
  | rng =>
    obtain ⟨e1, e2⟩ := y
    refine ⟨e1, ?_⟩
    rw [List.getElem?_map, List.getElem?_range (by simpa using h), e2]
    rfl
  | rngc =>
    obtain ⟨e1, e2⟩ := y
    refine ⟨e1, ?_⟩
    rw [List.getElem?_map, List.getElem?_range (by simpa using h), e2]
    rfl
end
/-- the items xs (shared) stand beside what is held -/
structure Walks (K : PySem.W.Frag) (H : Hp) (f : Fp) (J : L2.It) (xs : List D) (vs : List V) (g : Fp) : Prop where
  rep : RepL H xs vs g
  sh : ∀ a, g.o a = 0 ∧ g.l a = 0
  good : Good (g.add f)
  src : Src K H f J vs
theorem Walks.step {K : PySem.W.Frag} {H H' : Hp} {f f' : Fp} {J : L2.It} {xs : List D} {vs : List V} {g : Fp} (w : Walks K H f J xs vs g) (S : Step H f H' f') (G : Good f') : Walks K H' f' J xs vs g :=
  ⟨RepL.mono xs w.rep (S.keeps w.good (RepL.dom xs w.rep)), w.sh, S.good w.good G (RepL.dom xs w.rep), w.src.step S⟩
end VE

end
section
set_option maxHeartbeats 2000000
/-! VEh: lists lent. -/
namespace VE
open PySem PySem.Spec PyProof.Rows L2
variable [TC]

theorem one_self (a : Addr) : one a a = 1 := by unfold one; rw [if_pos rfl]
theorem one_le (a b : Addr) : one a b ≤ 1 := by unfold one; split <;> omega
section
variable {K : PySem.W.Frag} {H H0 H9 : Hp} {Γ Γ0 Γ9 : En} {σ σ9 : L2.St} {f f0 f9 gt' : Fp} {j : Nat}
/-- what a walk over a datum at v wants -/
def WkOk (K : PySem.W.Frag) (H : Hp) (f F : Fp) (d : D) (v : V) (xs : List D) : Prop :=
  ∃ a vs g, v = .ref a ∧ (∀ b, 0 < g.s b → 0 < F.at b) ∧ ((∃ o ys, d = .lst o ys ∧ Rd H a (.lst vs) ∧ Walks K H f (Itl K a) xs vs g) ∨ (∃ ys, d = .tup ys ∧ Rd H a (.tup vs) ∧ Walks K H f (Itt K a) xs vs g))
theorem lend_ok {d : D} {xs : List D} (h : REnv H Γ σ f) (G : Good f) (e : gt Γ j = some d) (w : walk? d = some xs) :
    ∃ v f', σ[j]? = some (some v) ∧ REnv H (lendE Γ (.pk j)) σ f' ∧ Good f' ∧ Step H f H f' ∧ WkOk K H f' f d v xs := by
  have e' := gt_some e
  obtain ⟨v, g0, h0, e1, r, rfl, _, put⟩ := h.put e'
  cases d with
  | lst o ys =>
    cases o with
    | shr =>
      cases w
      unfold Rep at r
      obtain ⟨a, vs, g, rfl, rl, z, hr, rfl⟩ := r
      have el : lendE Γ (.pk j) = Γ := by unfold lendE; simp only [e]
      rw [el]
      refine ⟨_, _, e1, h, G, Step.refl _ _, a, vs, g, rfl, (fun b p => by (try simp only [Fp.shr] at p); simp only [Fp.at, Fp.add, Fp.sh, Fp.own, Fp.lent]; omega), .inl ⟨.shr, xs, rfl, hr, rl, z, ⟨fun b => ?_⟩, .lst hr ?_⟩⟩
      · have q := G.g b
        have zb := z b
        unfold Fp.add Fp.sh at q ⊢
        simp only at q ⊢
        refine ⟨by omega, fun p => ?_⟩
        have := q.2 (by omega)
        omega
      · have q := G.g a
        unfold Fp.add Fp.sh at q ⊢
        simp only [one_self] at q ⊢
        by_cases p : 0 < g.o a + h0.o a + (g.l a + h0.l a)
        · have := q.2 p
          omega
        · omega
    | own =>
      cases w
      unfold Rep at r
      obtain ⟨a, vs, g, rfl, rl, hr, rfl⟩ := r
      have el : lendE Γ (.pk j) = Γ.set j (some (.lst .lent (frzL ys))) := by unfold lendE; simp only [e]
      rw [el]
      have rep' : Rep H (.lst .lent (frzL ys)) (.ref a) (g.shr.lent a) := by
        unfold Rep
        exact ⟨a, vs, _, rfl, RepL.frz ys rl, hr, rfl⟩
      refine ⟨_, _, e1, put _ _ rep', ⟨fun b => ?_⟩, ⟨fun _ _ x _ _ => x, fun x => x, fun b p => .inl ?_, fun b p => .inl ?_, fun b p => .inl ?_⟩, a, vs, g.shr, rfl, (fun b p => by (try simp only [Fp.shr] at p); simp only [Fp.at, Fp.add, Fp.sh, Fp.own, Fp.lent]; omega), .inl ⟨.own, ys, rfl, .inl hr, RepL.frz ys rl, fun _ => ⟨rfl, rfl⟩, ⟨fun b => ?_⟩, .lst (.inl hr) ?_⟩⟩
      · have q := G.g b
        unfold Fp.add Fp.own at q
        unfold Fp.add Fp.lent Fp.shr
        simp only at q ⊢
        refine ⟨by omega, fun p => ?_⟩
        have := q.2 (by omega)
        omega
      · unfold Fp.add Fp.lent Fp.shr at p
        unfold Fp.add Fp.own
        simp only at p ⊢
        omega
      · unfold Fp.add Fp.lent Fp.shr at p
        unfold Fp.add Fp.own
        simp only at p ⊢
        omega
      · unfold Fp.add Fp.lent Fp.shr at p
        unfold Fp.add Fp.own
        simp only at p ⊢
        omega
      · have q := G.g b
        unfold Fp.add Fp.own at q
        unfold Fp.add Fp.lent Fp.shr
        simp only at q ⊢
        refine ⟨by omega, fun p => ?_⟩
        have := q.2 (by omega)
        omega
      · have q := G.g a
        unfold Fp.add Fp.own at q
        unfold Fp.add Fp.lent Fp.shr
        simp only [one_self] at q ⊢
        omega
    | lent =>
      cases w
      unfold Rep at r
      obtain ⟨a, vs, g, rfl, rl, hr, rfl⟩ := r
      have el : lendE Γ (.pk j) = Γ.set j (some (.lst .lent (frzL ys))) := by unfold lendE; simp only [e]
      rw [el]
      have rep' : Rep H (.lst .lent (frzL ys)) (.ref a) (g.shr.lent a) := by
        unfold Rep
        exact ⟨a, vs, _, rfl, RepL.frz ys rl, hr, rfl⟩
      refine ⟨_, _, e1, put _ _ rep', ⟨fun b => ?_⟩, ⟨fun _ _ x _ _ => x, fun x => x, fun b p => .inl ?_, fun b p => .inl ?_, fun b p => .inl ?_⟩, a, vs, g.shr, rfl, (fun b p => by (try simp only [Fp.shr] at p); simp only [Fp.at, Fp.add, Fp.sh, Fp.own, Fp.lent]; omega), .inl ⟨.lent, ys, rfl, .inl hr, RepL.frz ys rl, fun _ => ⟨rfl, rfl⟩, ⟨fun b => ?_⟩, .lst (.inl hr) ?_⟩⟩
      · have q := G.g b
        unfold Fp.add Fp.lent at q
        unfold Fp.add Fp.lent Fp.shr
        simp only at q ⊢
        refine ⟨by omega, fun p => ?_⟩
        have := q.2 (by omega)
        omega
      · unfold Fp.add Fp.lent Fp.shr at p
        unfold Fp.add Fp.lent
        simp only at p ⊢
        omega
      · unfold Fp.add Fp.lent Fp.shr at p
        unfold Fp.add Fp.lent
        simp only at p ⊢
        omega
      · unfold Fp.add Fp.lent Fp.shr at p
        unfold Fp.add Fp.lent
        simp only at p ⊢
        omega
      · have q := G.g b
        unfold Fp.add Fp.lent at q
        unfold Fp.add Fp.lent Fp.shr
        simp only at q ⊢
        refine ⟨by omega, fun p => ?_⟩
        have := q.2 (by omega)
        omega
      · have q := G.g a
        unfold Fp.add Fp.lent at q
        unfold Fp.add Fp.lent Fp.shr
        simp only [one_self] at q ⊢
        omega
  | tup ys =>
    unfold Rep at r
    obtain ⟨a, vs, g, rfl, rl, hr, rfl⟩ := r
    have ha : ∀ {x : Nat}, (G' : (g.sh a).o a + h0.o a = x) → x = 0 := fun {x} hx => by
      have q := G.g a
      unfold Fp.add Fp.sh at q
      unfold Fp.sh at hx
      simp only [one_self] at q hx
      by_cases p : 0 < g.o a + h0.o a + (g.l a + h0.l a)
      · have := q.2 p
        omega
      · omega
    by_cases hd : dupL ys = true
    · have w' : ys = xs := by
        have : walk? (.tup ys) = some (if dupL ys = true then ys else frzL ys) := rfl
        rw [this, if_pos hd] at w
        exact Option.some.inj w
      subst w'
      have el : lendE Γ (.pk j) = Γ := by unfold lendE; simp only [e, if_pos hd]
      rw [el]
      have z := sh_of rl hd
      refine ⟨_, _, e1, h, G, Step.refl _ _, a, vs, g, rfl, (fun b p => by (try simp only [Fp.shr] at p); simp only [Fp.at, Fp.add, Fp.sh, Fp.own, Fp.lent]; omega), .inr ⟨ys, rfl, hr, rl, z, ⟨fun b => ?_⟩, .tup hr (ha rfl)⟩⟩
      have q := G.g b
      have zb := z b
      unfold Fp.add Fp.sh at q ⊢
      simp only at q ⊢
      refine ⟨by omega, fun p => ?_⟩
      have := q.2 (by omega)
      omega
    · have w' : frzL ys = xs := by
        have : walk? (.tup ys) = some (if dupL ys = true then ys else frzL ys) := rfl
        rw [this, if_neg hd] at w
        exact Option.some.inj w
      subst w'
      have el : lendE Γ (.pk j) = Γ.set j (some (.tup (frzL ys))) := by unfold lendE; simp only [e, if_neg hd]
      rw [el]
      have rep' : Rep H (.tup (frzL ys)) (.ref a) (g.shr.sh a) := by
        unfold Rep
        exact ⟨a, vs, _, rfl, RepL.frz ys rl, hr, rfl⟩
      refine ⟨_, _, e1, put _ _ rep', ⟨fun b => ?_⟩, ⟨fun _ _ x _ _ => x, fun x => x, fun b p => .inl ?_, fun b p => .inl ?_, fun b p => .inl ?_⟩, a, vs, g.shr, rfl, (fun b p => by (try simp only [Fp.shr] at p); simp only [Fp.at, Fp.add, Fp.sh, Fp.own, Fp.lent]; omega), .inr ⟨ys, rfl, hr, RepL.frz ys rl, fun _ => ⟨rfl, rfl⟩, ⟨fun b => ?_⟩, .tup hr ?_⟩⟩
      · have q := G.g b
        unfold Fp.add Fp.sh at q
        unfold Fp.add Fp.sh Fp.shr
        simp only at q ⊢
        refine ⟨by omega, fun p => ?_⟩
        have := q.2 (by omega)
        omega
      · unfold Fp.add Fp.sh Fp.shr at p
        unfold Fp.add Fp.sh
        simp only at p ⊢
        omega
      · unfold Fp.add Fp.sh Fp.shr at p
        unfold Fp.add Fp.sh
        simp only at p ⊢
        omega
      · unfold Fp.add Fp.sh Fp.shr at p
        unfold Fp.add Fp.sh
        simp only at p ⊢
        omega
      · have q := G.g b
        unfold Fp.add Fp.sh at q
        unfold Fp.add Fp.sh Fp.shr
        simp only at q ⊢
        refine ⟨by omega, fun p => ?_⟩
        have := q.2 (by omega)
        omega
      · have q := ha rfl
        unfold Fp.sh at q
        unfold Fp.add Fp.sh Fp.shr
        simp only at q ⊢
        omega
  | _ => cases w
/-- the list is one's own again -/
theorem unlend_ok {Hs : Hp} {fs : Fp} (h0 : REnv H0 Γ0 σ f0) (S0 : Step Hs fs H0 f0) (h9 : REnv H9 Γ9 σ9 f9) (G : Good (gt'.add f9)) (S : Step Hs fs H9 (gt'.add f9)) (hs : σ9[j]? = σ[j]?) :
    ∃ f', REnv H9 (unlendE Γ0 Γ9 (.pk j)) σ9 f' ∧ Good (gt'.add f') ∧ Step Hs fs H9 (gt'.add f') := by
  by_cases hc : ∃ xs ys, gt Γ0 j = some (.lst .own xs) ∧ gt Γ9 j = some (.lst .lent ys)
  · obtain ⟨xs, ys, e0, e9⟩ := hc
    have el : unlendE Γ0 Γ9 (.pk j) = Γ9.set j (some (.lst .own ys)) := by unfold unlendE; simp only [e0, e9]
    rw [el]
    obtain ⟨v, g, h, e1, r, rfl, _, put⟩ := h9.put (gt_some e9)
    obtain ⟨v0, g0, hh, e2, r0, rfl, _, _⟩ := h0.put (gt_some e0)
    rw [hs, e2] at e1
    cases e1
    unfold Rep at r r0
    obtain ⟨a, vs, g1, rfl, rl, hr, rfl⟩ := r
    obtain ⟨a', vs', g1', ea, rl', hr', rfl⟩ := r0
    cases ea
    have rep' : Rep H9 (.lst .own ys) (.ref a) (g1.own a) := by
      unfold Rep
      exact ⟨a, vs, _, rfl, rl, hr, rfl⟩
    refine ⟨_, put _ _ rep', ⟨fun b => ?_⟩, ⟨S.frame, S.tab, fun b p => ?_, fun b p => ?_, fun b p => ?_⟩⟩
    · have q := G.g b
      unfold Fp.add Fp.lent at q
      unfold Fp.add Fp.own
      simp only at q ⊢
      refine ⟨by omega, fun p => ?_⟩
      have := q.2 (by omega)
      omega
    · by_cases hb : b = a
      · subst hb
        refine S0.own b ?_
        unfold Fp.add Fp.own
        simp only [one_self]
        omega
      · refine S.own b ?_
        unfold Fp.add Fp.own one at p
        unfold Fp.add Fp.lent
        simp only [if_neg hb] at p ⊢
        omega
    · refine S.lent b ?_
      unfold Fp.add Fp.own at p
      unfold Fp.add Fp.lent
      simp only at p ⊢
      omega
    · refine S.shr b ?_
      unfold Fp.add Fp.own at p
      unfold Fp.add Fp.lent
      simp only at p ⊢
      omega
  · have el : unlendE Γ0 Γ9 (.pk j) = Γ9 := by
      unfold unlendE
      simp only
      split
      · rename_i x1 x2 e1 e2
        exact absurd ⟨_, _, e1, e2⟩ hc
      · rfl
    rw [el]
    exact ⟨f9, h9, G, S⟩
/-- a temporary list, walked -/
theorem temp_ok {d : D} {xs : List D} {v : V} {g : Fp} (r : Rep H d v g) (G : Good (g.add f)) (w : walk? d = some xs) : WkOk K H f g d v xs := by
  cases d with
  | lst o ys =>
    cases o with
    | shr =>
      cases w
      unfold Rep at r
      obtain ⟨a, vs, g, rfl, rl, z, hr, rfl⟩ := r
      refine ⟨a, vs, g, rfl, (fun b p => by (try simp only [Fp.shr] at p); simp only [Fp.at, Fp.add, Fp.sh, Fp.own, Fp.lent]; omega), .inl ⟨.shr, xs, rfl, hr, rl, z, G.le fun b => ?_, .lst hr ?_⟩⟩
      · unfold Fp.add Fp.sh
        simp only
        omega
      · have q := G.g a
        unfold Fp.add Fp.sh at q
        simp only [one_self] at q
        by_cases p : 0 < g.o a + f.o a + (g.l a + f.l a)
        · have := q.2 p
          omega
        · omega
    | own =>
      cases w
      unfold Rep at r
      obtain ⟨a, vs, g, rfl, rl, hr, rfl⟩ := r
      refine ⟨a, vs, g.shr, rfl, (fun b p => by (try simp only [Fp.shr] at p); simp only [Fp.at, Fp.add, Fp.sh, Fp.own, Fp.lent]; omega), .inl ⟨.own, ys, rfl, .inl hr, RepL.frz ys rl, fun _ => ⟨rfl, rfl⟩, ⟨fun b => ?_⟩, .lst (.inl hr) ?_⟩⟩
      · have q := G.g b
        unfold Fp.add Fp.own at q
        unfold Fp.add Fp.shr
        simp only at q ⊢
        refine ⟨by omega, fun p => ?_⟩
        have := q.2 (by omega)
        omega
      · have q := G.g a
        unfold Fp.add Fp.own at q
        simp only [one_self] at q
        omega
    | lent =>
      cases w
      unfold Rep at r
      obtain ⟨a, vs, g, rfl, rl, hr, rfl⟩ := r
      refine ⟨a, vs, g.shr, rfl, (fun b p => by (try simp only [Fp.shr] at p); simp only [Fp.at, Fp.add, Fp.sh, Fp.own, Fp.lent]; omega), .inl ⟨.lent, ys, rfl, .inl hr, RepL.frz ys rl, fun _ => ⟨rfl, rfl⟩, ⟨fun b => ?_⟩, .lst (.inl hr) ?_⟩⟩
      · have q := G.g b
        unfold Fp.add Fp.lent at q
        unfold Fp.add Fp.shr
        simp only at q ⊢
        refine ⟨by omega, fun p => ?_⟩
        have := q.2 (by omega)
        omega
      · have q := G.g a
        unfold Fp.add Fp.lent at q
        simp only [one_self] at q
        omega
  | tup ys =>
    unfold Rep at r
    obtain ⟨a, vs, g, rfl, rl, hr, rfl⟩ := r
    have ha : f.o a = 0 := by
      have q := G.g a
      unfold Fp.add Fp.sh at q
      simp only [one_self] at q
      by_cases p : 0 < g.o a + f.o a + (g.l a + f.l a)
      · have := q.2 p
        omega
      · omega
    by_cases hd : dupL ys = true
    · have w' : ys = xs := by
        have : walk? (.tup ys) = some (if dupL ys = true then ys else frzL ys) := rfl
        rw [this, if_pos hd] at w
        exact Option.some.inj w
      subst w'
      refine ⟨a, vs, g, rfl, (fun b p => by (try simp only [Fp.shr] at p); simp only [Fp.at, Fp.add, Fp.sh, Fp.own, Fp.lent]; omega), .inr ⟨ys, rfl, hr, rl, sh_of rl hd, G.le fun b => ?_, .tup hr ha⟩⟩
      unfold Fp.add Fp.sh
      simp only
      omega
    · have w' : frzL ys = xs := by
        have : walk? (.tup ys) = some (if dupL ys = true then ys else frzL ys) := rfl
        rw [this, if_neg hd] at w
        exact Option.some.inj w
      subst w'
      refine ⟨a, vs, g.shr, rfl, (fun b p => by (try simp only [Fp.shr] at p); simp only [Fp.at, Fp.add, Fp.sh, Fp.own, Fp.lent]; omega), .inr ⟨ys, rfl, hr, RepL.frz ys rl, fun _ => ⟨rfl, rfl⟩, ⟨fun b => ?_⟩, .tup hr ha⟩⟩
      have q := G.g b
      unfold Fp.add Fp.sh at q
      unfold Fp.add Fp.shr
      simp only at q ⊢
      refine ⟨by omega, fun p => ?_⟩
      have := q.2 (by omega)
      omega
  | _ => cases w
end
end VE

end
section
set_option maxHeartbeats 2000000
/-! VEi: each construct of an expression. -/
namespace VE
open PySem PySem.Spec PyProof.Rows L2
variable [TC]

/-! ### what is wanted -/
def PV (H : Hp) (f : Fp) (σ : L2.St) (Q : VK) : R D → Prop
  | .ok d Γ => ∀ v H' g f', Rep H' d v g → REnv H' Γ σ f' → Good (g.add f') → Step H f H' (g.add f') → Q v H'
  | _ => False
def PB (H : Hp) (f : Fp) (σ : L2.St) (Q : Bool → Hp → Prop) : R Bool → Prop
  | .ok b Γ => ∀ H' f', REnv H' Γ σ f' → Good f' → Step H f H' f' → Q b H'
  | _ => False
def RepO (H : Hp) (σ : L2.St) : List Ex → List Ob → List V → Fp → Prop
  | [], [], vs, g => vs = [] ∧ g = Fp.zero
  | .pk i :: es, .r :: os, vs, g => ∃ v r, vs = v :: r ∧ σ[i]? = some (some v) ∧ RepO H σ es os r g
  | .pk _ :: _, .v _ :: _, _, _ => False
  | .ob i :: es, .r :: os, vs, g => ∃ v r, vs = v :: r ∧ σ[i]? = some (some v) ∧ RepO H σ es os r g
  | .pki j _ :: es, .ix k :: os, vs, g => ∃ v r a ws, vs = v :: r ∧ σ[j]? = some (some (.ref a)) ∧ (Rd H a (.lst ws) ∨ Rd H a (.tup ws)) ∧ atI ws k = some v ∧ RepO H σ es os r g
  | _ :: es, .v d :: os, vs, g => ∃ v r g1 g2, vs = v :: r ∧ Rep H d v g1 ∧ RepO H σ es os r g2 ∧ g = g1.add g2
  | _, _, _, _ => False
def PA' (H : Hp) (f : Fp) (σ : L2.St) (es : List Ex) (Q : List V → Hp → Prop) : R (List Ob) → Prop
  | .ok os Γ => ∀ vs H' g f', RepO H' σ es os vs g → REnv H' Γ σ f' → Good (g.add f') → Step H f H' (g.add f') → Q vs H'
  | _ => False
def PI' (K : PySem.W.Frag) (H : Hp) (f : Fp) (σ : L2.St) (it : It) (R' : L2.It → Hp → Prop) : R (List D) → Prop
  | .ok xs Γ => ∀ J H' f1 f' vs g, REnv H' Γ σ f1 → Good f1 → Step H f H' f1 → REnv H' (lendI Γ it) σ f' → Good f' → Step H' f1 H' f' → Walks K H' f' J xs vs g → Step H f H' (g.add f') → R' J H'
  | _ => False
section
variable (T : Nat → Option Def) (k : Nat) (X : Cx)
def VEx (ex : Ex) (e : Expr) : Prop := ∃ te, PE X e te ∧ ∀ Γ σ H f Q, REnv H Γ σ f → Good f → PV H f σ Q (evE (run T k) ex Γ) → te σ H Q
def VAs (exs : List Ex) (es : List Expr) : Prop := ∃ ts, PEL X es ts ∧ ts.length = exs.length ∧ ∀ Γ σ H f Q, REnv H Γ σ f → Good f → PA' H f σ exs Q (evAs (run T k) exs Γ) → tL ts σ H Q
def VTx (t : Tx) (e : Expr) : Prop := ∃ tt, PT X e tt ∧ ∀ Γ σ H f Q, REnv H Γ σ f → Good f → PB H f σ Q (evT (run T k) t Γ) → tt σ H Q
def VBx (t : Tx) (e : Expr) : Prop := ∃ te, PE X e te ∧ ∀ Γ σ H f Q, REnv H Γ σ f → Good f → PB H f σ (fun b H' => Q (.bl b) H') (evB (run T k) t Γ) → te σ H Q
def VIx (it : It) (tg e : Expr) : Prop := ∃ wi, PI X tg e wi ∧ ∀ Γ σ H f R', REnv H Γ σ f → Good f → PI' X.K H f σ it R' (evI (run T k) it Γ) → wi σ H R'
end
section
variable {T : Nat → Option Def} {k : Nat} {c : Ctx} {X : Cx}

/-! ### helpers -/
theorem PV.bind {α : Type} {H : Hp} {f : Fp} {σ : L2.St} {Q : VK} {r : R α} {g : α → En → R D} (h : PV H f σ Q (r.bind g)) : ∃ a Γ, r = .ok a Γ ∧ PV H f σ Q (g a Γ) := by
  cases r with
  | ok a Γ => exact ⟨a, Γ, rfl, h⟩
  | ex _ _ _ => exact h.elim
  | bad => exact h.elim
theorem PB.bind {α : Type} {H : Hp} {f : Fp} {σ : L2.St} {Q : Bool → Hp → Prop} {r : R α} {g : α → En → R Bool} (h : PB H f σ Q (r.bind g)) : ∃ a Γ, r = .ok a Γ ∧ PB H f σ Q (g a Γ) := by
  cases r with
  | ok a Γ => exact ⟨a, Γ, rfl, h⟩
  | ex _ _ _ => exact h.elim
  | bad => exact h.elim
theorem PA'.bind {α : Type} {H : Hp} {f : Fp} {σ : L2.St} {es : List Ex} {Q : List V → Hp → Prop} {r : R α} {g : α → En → R (List Ob)} (h : PA' H f σ es Q (r.bind g)) : ∃ a Γ, r = .ok a Γ ∧ PA' H f σ es Q (g a Γ) := by
  cases r with
  | ok a Γ => exact ⟨a, Γ, rfl, h⟩
  | ex _ _ _ => exact h.elim
  | bad => exact h.elim
theorem PI'.bind {α : Type} {K : PySem.W.Frag} {H : Hp} {f : Fp} {σ : L2.St} {it : It} {Q : L2.It → Hp → Prop} {r : R α} {g : α → En → R (List D)} (h : PI' K H f σ it Q (r.bind g)) : ∃ a Γ, r = .ok a Γ ∧ PI' K H f σ it Q (g a Γ) := by
  cases r with
  | ok a Γ => exact ⟨a, Γ, rfl, h⟩
  | ex _ _ _ => exact h.elim
  | bad => exact h.elim
theorem PV.opt {H : Hp} {f : Fp} {σ : L2.St} {Q : VK} {Γ : En} {o : Option D} (h : PV H f σ Q (optR Γ o)) : ∃ d, o = some d ∧ PV H f σ Q (.ok d Γ) := by
  cases o with
  | some d => exact ⟨d, rfl, h⟩
  | none => exact h.elim
theorem PB.opt {H : Hp} {f : Fp} {σ : L2.St} {Q : Bool → Hp → Prop} {Γ : En} {o : Option Bool} (h : PB H f σ Q (optR Γ o)) : ∃ d, o = some d ∧ PB H f σ Q (.ok d Γ) := by
  cases o with
  | some d => exact ⟨d, rfl, h⟩
  | none => exact h.elim
/-- a scalar -/
theorem PV.scal {H : Hp} {f : Fp} {σ : L2.St} {Q : VK} {d : D} {v : V} {Γ : En} (h : PV H f σ Q (.ok d Γ)) (r : Rep H d v Fp.zero) (e : REnv H Γ σ f) (G : Good f) : Q v H :=
  h v H Fp.zero f r e (by rw [Fp.zero_add]; exact G) (by rw [Fp.zero_add]; exact Step.refl _ _)
theorem PV.later {H H1 : Hp} {f f1 : Fp} {σ : L2.St} {Q : VK} {r : R D} (h : PV H f σ Q r) (S : Step H f H1 f1) : PV H1 f1 σ Q r := by
  cases r with
  | ok d Γ => exact fun v H' g f' a b G s => h v H' g f' a b G (S.trans s)
  | ex _ _ _ => exact h
  | bad => exact h
theorem PB.later {H H1 : Hp} {f f1 : Fp} {σ : L2.St} {Q : Bool → Hp → Prop} {r : R Bool} (h : PB H f σ Q r) (S : Step H f H1 f1) : PB H1 f1 σ Q r := by
  cases r with
  | ok d Γ => exact fun H' f' b G s => h H' f' b G (S.trans s)
  | ex _ _ _ => exact h
  | bad => exact h
/-- an operation's result laid beside -/
theorem PV.res {H H' : Hp} {f g f' : Fp} {σ : L2.St} {Q : VK} {d : D} {Γ : En} (h : PV H f σ Q (.ok d Γ)) (e : REnv H' Γ σ f') (hg : ∀ a, 0 < g.at a → Dm H' a) (G : Good (g.add f')) (S : Step H f H' (g.add f')) : Fin1 (g.add f') H' d Q := by
  intro v H2 g2 r
  have dom2 : ∀ a, 0 < f'.at a → Dm H' a := e.dom
  have nn : ∀ a, 0 < (g.add f').at a → ¬ H' a = none := fun a p z => by
    have : 0 < g.at a ∨ 0 < f'.at a := by
      unfold Fp.at Fp.add at *
      simp only at *
      omega
    rcases this with q | q
    · obtain ⟨u, hu, _⟩ := hg a q
      rw [hu] at z; cases z
    · obtain ⟨u, hu, _⟩ := dom2 a q
      rw [hu] at z; cases z
  refine h v H2 g2 f' r.rep (e.mono (fun a u hu _ => r.ext a u hu) fun t => t.ext r.ext) ⟨fun a => ?_⟩ ⟨fun a u hu z nt => r.ext a u (S.frame a u hu z nt), fun t => (S.tab t).ext r.ext, fun a p => ?_, fun a p => ?_, fun a p => ?_⟩
  · have q1 := r.good.g a
    have q2 := G.g a
    have q3 := r.lent a
    have q4 := r.own a
    have q5 := r.shr a
    have n := nn a
    unfold Fp.add at q2 n q5 ⊢
    unfold Fp.at at n
    simp only at q2 n q5 ⊢
    refine ⟨?_, fun p => ?_⟩
    · by_cases p : 0 < g2.o a
      · have z := q4 p
        have : ¬ 0 < f'.o a + f'.l a := fun y => n (by omega) z
        omega
      · omega
    · by_cases p2 : 0 < g2.o a
      · have z := q4 p2
        have y := q1.2 (by omega)
        have : ¬ 0 < f'.s a := fun y => n (by omega) z
        omega
      · have y1 : 0 < f'.o a + f'.l a := by omega
        have y2 := q2.2 (by omega)
        have : ¬ 0 < g2.s a := fun y => by
          rcases q5 y with q | q
          · omega
          · exact n (by omega) q
        omega
  · unfold Fp.add at p
    simp only at p
    by_cases p2 : 0 < g2.o a
    · exact S.gone (.inl (r.own a p2))
    · exact S.own a (by unfold Fp.add; simp only; omega)
  · have := r.lent a
    unfold Fp.add at p
    simp only at p
    exact S.lent a (by unfold Fp.add; simp only; omega)
  · unfold Fp.add at p
    simp only at p
    by_cases p2 : 0 < g2.s a
    · rcases r.shr a p2 with q | q
      · exact S.shr a q
      · exact S.gone3 (.inl q)
    · exact S.shr a (by unfold Fp.add; simp only; omega)

/-! ### names and constants -/
theorem l_var (C : CO T k c X) {i : Nat} {x : Str} {pos : Pos} (h : vis c i x = true) : VEx T k X (.var i) (.Name x pos) := by
  refine ⟨_, C.pv h, fun Γ σ H f Q e G p => ?_⟩
  have p : PV H f σ Q (match gt Γ i with
    | some d => if dup d = true then .ok d Γ else .ok (frz d) (Γ.set i (some (frz d)))
    | none => .bad) := p
  cases hg : gt Γ i with
  | none => rw [hg] at p; exact p.elim
  | some d =>
    rw [hg] at p
    dsimp only at p
    obtain ⟨v, g, h', e1, r, rfl, _, put⟩ := e.put (gt_some hg)
    refine ⟨v, e1, ?_⟩
    by_cases hd : dup d = true
    · rw [if_pos hd] at p
      have z := Rep.dup d r hd
      refine p v H g (g.add h') r e ⟨fun a => ?_⟩ ⟨fun _ _ x _ _ => x, fun x => x, fun a q => .inl ?_, fun a q => .inl ?_, fun a q => .inl ?_⟩
      · have q := G.g a
        have y := z a
        unfold Fp.add at q ⊢
        simp only at q ⊢
        refine ⟨by omega, fun p => ?_⟩
        have := q.2 (by omega)
        omega
      · have y := z a
        unfold Fp.add at q ⊢
        simp only at q ⊢
        omega
      · have y := z a
        unfold Fp.add at q ⊢
        simp only at q ⊢
        omega
      · unfold Fp.add at q ⊢
        simp only at q ⊢
        omega
    · rw [if_neg hd] at p
      have r' := Rep.frz d r
      refine p v H g.shr _ r' (put _ _ r') ⟨fun a => ?_⟩ ⟨fun _ _ x _ _ => x, fun x => x, fun a q => .inl ?_, fun a q => .inl ?_, fun a q => .inl ?_⟩
      · have q := G.g a
        unfold Fp.add at q
        unfold Fp.add Fp.shr
        simp only at q ⊢
        refine ⟨by omega, fun p => ?_⟩
        have := q.2 (by omega)
        omega
      · unfold Fp.add Fp.shr at q
        unfold Fp.add
        simp only at q ⊢
        omega
      · unfold Fp.add Fp.shr at q
        unfold Fp.add
        simp only at q ⊢
        omega
      · unfold Fp.add Fp.shr at q
        unfold Fp.add
        simp only at q ⊢
        omega
theorem rep_cst {H : Hp} (c : Cst) : Rep H c.d c.v Fp.zero := by
  cases c <;> (unfold Cst.d Rep; exact ⟨rfl, rfl⟩)
theorem l_cst {u : Const} {q : Cst} {n : Nat} {pos : Pos} (h : eqCst u q = true) : VEx T k X (.cst q) (.Constant u n pos) := by
  have : PE X (.Constant u n pos) (tC q.v) := by
    cases u <;> cases q <;> simp [eqCst] at h
    · exact pe_non
    · subst h; exact pe_bl
    · subst h; exact pe_int
    · subst h; exact pe_str
  exact ⟨_, this, fun Γ σ H f Q e G p => PV.scal (v := q.v) p (rep_cst q) e G⟩
def isCst : Option GK → Cst → Bool
  | some (.cst (.int a)), .int b => a == b
  | some (.cst (.str a)), .str b => decide (a = b)
  | _, _ => false
theorem gln_of {c : Ctx} {x : Str} (h : gln c x = true) : c.sc.names.lookup x = some .globalImplicit ∧ (x == ("__debug__" : Str)) = false := by
  unfold gln at h
  split at h
  · rename_i e
    exact ⟨e, by simpa using h⟩
  · cases h
theorem l_glb (C : CO T k c X) {g : Nat} {q : Cst} {x : Str} {pos : Pos} (h : gln c x = true) (h2 : isCst (c.gl.lookup x) q = true) : VEx T k X (.glb g q) (.Name x pos) := by
  obtain ⟨h3, h4⟩ := gln_of h
  have e : c.gl.lookup x = some (.cst q) := by
    unfold isCst at h2
    split at h2
    · rename_i a b e1
      have : a = b := by simpa using h2
      rw [e1, this]
    · rename_i a b e1
      have : a = b := of_decide_eq_true h2
      rw [e1, this]
    · cases h2
  obtain ⟨u, hm, hr⟩ := C.tab.cst x q e
  exact ⟨_, pe_glob (C.glo x h3) hm hr h4, fun Γ σ H f Q e G p => PV.scal (v := q.v) p (rep_cst q) e G⟩

/-! ### argument lists -/
def isVal : Ex → Bool
  | .pk _ => false
  | .ob _ => false
  | .pki _ _ => false
  | _ => true
theorem evAs_val {cf : CF} {e : Ex} {es : List Ex} {Γ : En} (h : isVal e = true) : evAs cf (e :: es) Γ = (evE cf e Γ).bind fun d Γ1 => (evAs cf es Γ1).bind fun os Γ2 => .ok (.v d :: os) Γ2 := by
  cases e <;> first | (simp [isVal] at h; done) | rfl
theorem RepO.val {H : Hp} {σ : L2.St} {e : Ex} {es : List Ex} {d : D} {os : List Ob} {v : V} {vs : List V} {g1 g2 : Fp} (h : isVal e = true) (r : Rep H d v g1) (q : RepO H σ es os vs g2) : RepO H σ (e :: es) (.v d :: os) (v :: vs) (g1.add g2) := by
  cases e <;> first | (simp [isVal] at h; done) | exact ⟨v, vs, g1, g2, rfl, r, q, rfl⟩
theorem RepO.dom {H : Hp} {σ : L2.St} : ∀ {es : List Ex} {os : List Ob} {vs : List V} {g : Fp}, RepO H σ es os vs g → ∀ a, 0 < g.at a → Dm H a
  | [], [], vs, g, h, a, p => by
    obtain ⟨_, rfl⟩ := (show vs = [] ∧ g = Fp.zero from h)
    exact absurd p (Nat.lt_irrefl 0)
  | [], _ :: _, vs, g, h, a, p => by cases h
  | e :: es, [], vs, g, h, a, p => by cases e <;> cases h
  | e :: es, o :: os, vs, g, h, a, p => by
    cases o with
    | v d =>
      have h : ∃ v r g1 g2, vs = v :: r ∧ Rep H d v g1 ∧ RepO H σ es os r g2 ∧ g = g1.add g2 := by cases e <;> first | exact h | cases h
      obtain ⟨v, r, g1, g2, rfl, q1, q2, rfl⟩ := h
      by_cases z : 0 < g1.at a
      · exact Rep.dom d q1 a z
      · exact RepO.dom q2 a (by unfold Fp.at Fp.add at *; simp only at *; omega)
    | r =>
      have h : ∃ r, RepO H σ es os r g := by
        cases e <;> first | (obtain ⟨v, r, _, _, q⟩ := h; exact ⟨r, q⟩) | cases h
      obtain ⟨r, q⟩ := h
      exact RepO.dom q a p
    | ix n =>
      have h : ∃ r, RepO H σ es os r g := by
        cases e <;> first | (obtain ⟨v, r, b, ws, _, _, _, _, q⟩ := h; exact ⟨r, q⟩) | cases h
      obtain ⟨r, q⟩ := h
      exact RepO.dom q a p
theorem a_nil : VAs T k X [] [] := ⟨[], .nil, rfl, fun Γ σ H f Q e G p => p [] H Fp.zero f ⟨rfl, rfl⟩ e (by rw [Fp.zero_add]; exact G) (by rw [Fp.zero_add]; exact Step.refl _ _)⟩
theorem a_val {ex : Ex} {exs : List Ex} {e : Expr} {es : List Expr} (hv : isVal ex = true) (n : noStar e = true) (h1 : VEx T k X ex e) (h2 : VAs T k X exs es) : VAs T k X (ex :: exs) (e :: es) := by
  obtain ⟨te, p1, s1⟩ := h1
  obtain ⟨ts, p2, l2, s2⟩ := h2
  refine ⟨te :: ts, .cons n p1 p2, by rw [List.length_cons, List.length_cons, l2], fun Γ σ H f Q en G p => ?_⟩
  rw [evAs_val hv] at p
  obtain ⟨d, Γ1, e1, p⟩ := p.bind
  refine s1 Γ σ H f _ en G ?_
  rw [e1]
  intro v H1 g1 f1 r1 en1 G1 S1
  have G1' : Good f1 := G1.le (Fp.le_addR _ _)
  refine s2 Γ1 σ H1 f1 _ en1 G1' ?_
  obtain ⟨os, Γ2, e2, p⟩ := p.bind
  rw [e2]
  intro vs H2 g2 f2 r2 en2 G2 S2
  refine p (v :: vs) H2 (g1.add g2) f2 (RepO.val hv (Rep.mono d r1 (S2.keeps G1 (Rep.dom d r1))) r2) en2 ?_ ?_
  · rw [Fp.add_assoc]
    exact S2.good G1 G2 (Rep.dom d r1)
  · rw [Fp.add_assoc]
    exact S1.trans (S2.beside (Rep.dom d r1))
theorem some_of {α : Type} {o : Option α} (h : o.isSome = true) : ∃ x, o = some x := Option.isSome_iff_exists.mp h
theorem a_ref (C : CO T k c X) {i : Nat} {exs : List Ex} {x : Str} {pos : Pos} {es : List Expr} (ex : Ex) (hx : ex = .pk i ∨ ex = .ob i) (hv : vis c i x = true) (h2 : VAs T k X exs es) : VAs T k X (ex :: exs) (.Name x pos :: es) := by
  obtain ⟨ts, p2, l2, s2⟩ := h2
  refine ⟨tVar i :: ts, .cons rfl (C.pv hv) p2, by rw [List.length_cons, List.length_cons, l2], fun Γ σ H f Q en G p => ?_⟩
  have ev : evAs (run T k) (ex :: exs) Γ = (if (gt Γ i).isSome = true then (evAs (run T k) exs Γ).bind fun os Γ1 => .ok (.r :: os) Γ1 else .bad) := by
    rcases hx with rfl | rfl <;> rfl
  rw [ev] at p
  by_cases hg : (gt Γ i).isSome = true
  · rw [if_pos hg] at p
    obtain ⟨d, hd⟩ := some_of hg
    obtain ⟨v, g, h', e1, r, rfl, _⟩ := en.put (gt_some hd)
    refine ⟨v, e1, ?_⟩
    refine s2 Γ σ H _ _ en G ?_
    obtain ⟨os, Γ1, e2, p⟩ := p.bind
    rw [e2]
    intro vs H2 g2 f2 r2 en2 G2 S2
    refine p (v :: vs) H2 g2 f2 ?_ en2 G2 S2
    rcases hx with rfl | rfl
    · exact ⟨v, vs, rfl, e1, r2⟩
    · exact ⟨v, vs, rfl, e1, r2⟩
  · rw [if_neg hg] at p
    exact p.elim
/-- what changes nothing at all -/
def VAt (T : Nat → Option Def) (k : Nat) (X : Cx) (exs : List Ex) (es : List Expr) : Prop := ∃ ts, PEL X es ts ∧ ts.length = exs.length ∧ ∀ Γ σ H f Q os Γ', REnv H Γ σ f → evAs (run T k) exs Γ = .ok os Γ' → Γ' = Γ ∧ ((∀ vs, RepO H σ exs os vs Fp.zero → Q vs H) → tL ts σ H Q)
theorem t_nil : VAt T k X [] [] := ⟨[], .nil, rfl, fun Γ σ H f Q os Γ' en e => by
  cases e
  exact ⟨rfl, fun q => q [] ⟨rfl, rfl⟩⟩⟩
theorem t_ref (C : CO T k c X) {i : Nat} {exs : List Ex} {x : Str} {pos : Pos} {es : List Expr} (ex : Ex) (hx : ex = .pk i ∨ ex = .ob i) (hv : vis c i x = true) (h2 : VAt T k X exs es) : VAt T k X (ex :: exs) (.Name x pos :: es) := by
  obtain ⟨ts, p2, l2, s2⟩ := h2
  refine ⟨tVar i :: ts, .cons rfl (C.pv hv) p2, by rw [List.length_cons, List.length_cons, l2], fun Γ σ H f Q os Γ' en e => ?_⟩
  have ev : evAs (run T k) (ex :: exs) Γ = (if (gt Γ i).isSome = true then (evAs (run T k) exs Γ).bind fun os Γ1 => .ok (.r :: os) Γ1 else .bad) := by
    rcases hx with rfl | rfl <;> rfl
  rw [ev] at e
  by_cases hg : (gt Γ i).isSome = true
  · rw [if_pos hg] at e
    obtain ⟨d, hd⟩ := some_of hg
    obtain ⟨v, g, h', e1, r, rfl, _⟩ := en.put (gt_some hd)
    cases e2 : evAs (run T k) exs Γ with
    | ok os1 Γ1 =>
      rw [e2] at e
      have e : R.ok (Ob.r :: os1) Γ1 = .ok os Γ' := e
      cases e
      obtain ⟨q1, q2⟩ := s2 Γ σ H _ (fun vs H' => Q (v :: vs) H') _ _ en e2
      refine ⟨q1, fun q => ⟨v, e1, q2 fun vs r2 => q (v :: vs) ?_⟩⟩
      rcases hx with rfl | rfl
      · exact ⟨v, vs, rfl, e1, r2⟩
      · exact ⟨v, vs, rfl, e1, r2⟩
    | ex _ _ _ => rw [e2] at e; cases e
    | bad => rw [e2] at e; cases e
  · rw [if_neg hg] at e
    cases e
theorem t_sc {exs : List Ex} {q : Cst} {e : Expr} {es : List Expr} (ex : Ex) (hx : isVal ex = true) (hev : ∀ Γ, evE (run T k) ex Γ = .ok q.d Γ) (n : noStar e = true) (hp : PE X e (tC q.v)) (h2 : VAt T k X exs es) : VAt T k X (ex :: exs) (e :: es) := by
  obtain ⟨ts, p2, l2, s2⟩ := h2
  refine ⟨tC q.v :: ts, .cons n hp p2, by rw [List.length_cons, List.length_cons, l2], fun Γ σ H f Q os Γ' en e => ?_⟩
  rw [evAs_val hx, hev] at e
  have e : ((evAs (run T k) exs Γ).bind fun os Γ2 => R.ok (Ob.v q.d :: os) Γ2) = .ok os Γ' := e
  cases e2 : evAs (run T k) exs Γ with
  | ok os1 Γ1 =>
    rw [e2] at e
    have e : R.ok (Ob.v q.d :: os1) Γ1 = .ok os Γ' := e
    cases e
    obtain ⟨q1, q2⟩ := s2 Γ σ H _ (fun vs H' => Q (q.v :: vs) H') _ _ en e2
    refine ⟨q1, fun qq => q2 fun vs r2 => qq (q.v :: vs) ?_⟩
    have := RepO.val hx (rep_cst (H := H) q) r2
    rw [Fp.zero_add] at this
    exact this
  | ex _ _ _ => rw [e2] at e; cases e
  | bad => rw [e2] at e; cases e
theorem atI_some {α : Type} {ds : List D} {xs : List α} {i : Int} {d : D} (hl : ds.length = xs.length) (h : ixD ds i = some d) : ∃ x, atI xs i = some x := by
  obtain ⟨j, h1, h2⟩ := ixD_at hl h
  have : j < xs.length := by
    rw [← hl]
    exact (List.getElem?_eq_some_iff.mp h1).1
  exact ⟨xs[j], h2 _ (List.getElem?_eq_getElem this)⟩
/-- a peeked item is there -/
theorem item_at {Γ : En} {σ : L2.St} {H : Hp} {f : Fp} {j : Nat} {n : Int} {v : V} (en : REnv H Γ σ f) (h : (((gt Γ j).bind items?).bind fun xs => ixD xs n).isSome = true) (e : σ[j]? = some (some v)) :
    ∃ a ws x, v = .ref a ∧ (Rd H a (.lst ws) ∨ Rd H a (.tup ws)) ∧ atI ws n = some x := by
  obtain ⟨d, hd⟩ := some_of h
  obtain ⟨xs, h1, h2⟩ := Option.bind_eq_some_iff.mp hd
  obtain ⟨c, h3, h4⟩ := Option.bind_eq_some_iff.mp h1
  obtain ⟨w, g, h', e1, r, rfl, _⟩ := en.put (gt_some h3)
  rw [e] at e1
  cases e1
  cases c with
  | lst o ys =>
    cases h4
    obtain ⟨a, vs, g', rfl, hr, rl, _⟩ := Obs.lst (F := g) ⟨g, r, Fp.le.refl _⟩
    obtain ⟨x, hx⟩ := atI_some rl.length h2
    exact ⟨a, vs, x, rfl, .inl hr, hx⟩
  | tup ys =>
    cases h4
    obtain ⟨a, vs, g', rfl, hr, rl, _⟩ := Obs.tup (F := g) ⟨g, r, Fp.le.refl _⟩
    obtain ⟨x, hx⟩ := atI_some rl.length h2
    exact ⟨a, vs, x, rfl, .inr hr, hx⟩
  | _ => cases h4
theorem rIx_of {K : PySem.W.Frag} {H : Hp} {a : Addr} {ws : List V} {n : Int} {x : V} {Q : VK} (h : Rd H a (.lst ws) ∨ Rd H a (.tup ws)) (e : atI ws n = some x) (q : Q x H) : rIx K (.ref a) (.int n) H Q := by
  rcases h with h | h
  · exact .inl ⟨a, ws, n, x, rfl, rfl, .inl h, e, q⟩
  · exact .inr (.inl ⟨a, ws, n, x, rfl, rfl, .inl h, e, q⟩)
theorem a_pki (C : CO T k c X) {j : Nat} {ei : Ex} {exs : List Ex} {x : Str} {p1 pos : Pos} {s : Expr} {es : List Expr} (hv : vis c j x = true) (hs : noSlice s = true) (h1 : VEx T k X ei s) (h2 : VAt T k X exs es ∨ exs.all triv = false) (h3 : VAs T k X exs es) :
    VAs T k X (.pki j ei :: exs) (.Subscript (.Name x p1) s pos :: es) := by
  obtain ⟨ti, pi, si⟩ := h1
  have pe : PE X (.Subscript (.Name x p1) s pos) (tOp (rIx X.K) (tVar j) ti) := pe_ix ix_seq (C.pv hv) pi (plainIx hs)
  rcases h2 with h2 | h2
  · obtain ⟨ts, p2, l2, s2⟩ := h2
    refine ⟨tOp (rIx X.K) (tVar j) ti :: ts, .cons rfl pe p2, by rw [List.length_cons, List.length_cons, l2], fun Γ σ H f Q en G p => ?_⟩
    have p : PA' H f σ (.pki j ei :: exs) Q (if (gt Γ j).isSome = true then (evE (run T k) ei Γ).bind fun d Γ1 => match d with
      | .int n => if (exs.all triv && (((gt Γ1 j).bind items?).bind fun xs => ixD xs n).isSome) = true then (evAs (run T k) exs Γ1).bind fun os Γ2 => .ok (.ix n :: os) Γ2 else .bad
      | _ => .bad
      else .bad) := p
    by_cases hg : (gt Γ j).isSome = true
    · rw [if_pos hg] at p
      obtain ⟨d, hd⟩ := some_of hg
      obtain ⟨v, g, h', e1, r, rfl, _⟩ := en.put (gt_some hd)
      obtain ⟨di, Γ1, e2, p⟩ := p.bind
      cases di with
      | int n =>
        dsimp only at p
        by_cases hc : (exs.all triv && (((gt Γ1 j).bind items?).bind fun xs => ixD xs n).isSome) = true
        · rw [if_pos hc] at p
          rw [Bool.and_eq_true] at hc
          refine ⟨v, e1, ?_⟩
          refine si Γ σ H _ _ en G ?_
          rw [e2]
          intro y H1 g1 f1 r1 en1 G1 S1
          unfold Rep at r1
          obtain ⟨rfl, rfl⟩ := r1
          rw [Fp.zero_add] at G1 S1
          obtain ⟨a, ws, z, rfl, hr, ha⟩ := item_at en1 hc.2 e1
          refine rIx_of hr ha ?_
          obtain ⟨os, Γ2, e3, pp⟩ := p.bind
          obtain ⟨q1, q2⟩ := s2 Γ1 σ H1 f1 (fun vs H' => Q (z :: vs) H') os Γ2 en1 e3
          rw [q1] at pp
          refine q2 fun vs r2 => ?_
          exact pp (z :: vs) H1 Fp.zero f1 ⟨z, vs, a, ws, rfl, e1, hr, ha, r2⟩ en1 (by rw [Fp.zero_add]; exact G1) (by rw [Fp.zero_add]; exact S1)
        · rw [if_neg hc] at p
          exact p.elim
      | _ => exact p.elim
    · rw [if_neg hg] at p
      exact p.elim
  · obtain ⟨ts, p2, l2, s2⟩ := h3
    refine ⟨tOp (rIx X.K) (tVar j) ti :: ts, .cons rfl pe p2, by rw [List.length_cons, List.length_cons, l2], fun Γ σ H f Q en G p => ?_⟩
    have p : PA' H f σ (.pki j ei :: exs) Q (if (gt Γ j).isSome = true then (evE (run T k) ei Γ).bind fun d Γ1 => match d with
      | .int n => if (exs.all triv && (((gt Γ1 j).bind items?).bind fun xs => ixD xs n).isSome) = true then (evAs (run T k) exs Γ1).bind fun os Γ2 => .ok (.ix n :: os) Γ2 else .bad
      | _ => .bad
      else .bad) := p
    exfalso
    rw [h2] at p
    by_cases hg : (gt Γ j).isSome = true
    · rw [if_pos hg] at p
      obtain ⟨di, Γ1, e2, p⟩ := p.bind
      cases di with
      | int n => exact p
      | _ => exact p
    · rw [if_neg hg] at p
      exact p
/-- a peeked item, its index a local int -/
theorem t_pki (C : CO T k c X) {j i : Nat} {exs : List Ex} {x y : Str} {p1 p2 pos : Pos} {es : List Expr} (hv : vis c j x = true) (hi : vis c i y = true) (h2 : VAt T k X exs es) : VAt T k X (.pki j (.var i) :: exs) (.Subscript (.Name x p1) (.Name y p2) pos :: es) := by
  obtain ⟨ts, q2, l2, s2⟩ := h2
  have pe : PE X (.Subscript (.Name x p1) (.Name y p2) pos) (tOp (rIx X.K) (tVar j) (tVar i)) := pe_ix ix_seq (C.pv hv) (C.pv hi) (plainIx rfl)
  refine ⟨tOp (rIx X.K) (tVar j) (tVar i) :: ts, .cons rfl pe q2, by rw [List.length_cons, List.length_cons, l2], fun Γ σ H f Q os Γ' en e0 => ?_⟩
  have e : (if (gt Γ j).isSome = true then (kVar i Γ).bind fun d Γ1 => match d with
      | .int n => if (exs.all triv && (((gt Γ1 j).bind items?).bind fun xs => ixD xs n).isSome) = true then (evAs (run T k) exs Γ1).bind fun os Γ2 => .ok (.ix n :: os) Γ2 else .bad
      | _ => .bad
      else .bad) = R.ok os Γ' := e0
  clear e0
  by_cases hg : (gt Γ j).isSome = true
  · rw [if_pos hg] at e
    obtain ⟨d, hd⟩ := some_of hg
    obtain ⟨v, g, h', e1, r, rfl, _⟩ := en.put (gt_some hd)
    cases ev : kVar i Γ with
    | ok di Γ1 =>
      rw [ev] at e
      cases di with
      | int n =>
        have hk : gt Γ i = some (.int n) ∧ Γ1 = Γ := by
          unfold kVar at ev
          cases hq : gt Γ i with
          | none => rw [hq] at ev; cases ev
          | some d2 =>
            rw [hq] at ev
            dsimp only at ev
            by_cases hd2 : dup d2 = true
            · rw [if_pos hd2] at ev
              cases ev
              exact ⟨rfl, rfl⟩
            · rw [if_neg hd2] at ev
              exfalso
              cases d2 <;> first | exact hd2 rfl | cases ev
        obtain ⟨hk, rfl⟩ := hk
        have e : (if (exs.all triv && (((gt Γ1 j).bind items?).bind fun xs => ixD xs n).isSome) = true then (evAs (run T k) exs Γ1).bind fun os Γ2 => R.ok (Ob.ix n :: os) Γ2 else .bad) = R.ok os Γ' := e
        by_cases hc : (exs.all triv && (((gt Γ1 j).bind items?).bind fun xs => ixD xs n).isSome) = true
        · rw [if_pos hc] at e
          rw [Bool.and_eq_true] at hc
          cases e2 : evAs (run T k) exs Γ1 with
          | ok os1 Γ2 =>
            rw [e2] at e
            have e : R.ok (Ob.ix n :: os1) Γ2 = .ok os Γ' := e
            cases e
            obtain ⟨a, ws, z, rfl, hr, ha⟩ := item_at en hc.2 e1
            obtain ⟨q1, q3⟩ := s2 Γ1 σ H _ (fun vs H' => Q (z :: vs) H') _ _ en e2
            obtain ⟨vi, gi, hi', ei, ri, _⟩ := en.put (gt_some hk)
            unfold Rep at ri
            obtain ⟨rfl, _⟩ := ri
            refine ⟨q1, fun q => ⟨_, e1, _, ei, rIx_of hr ha (q3 fun vs r2 => q (z :: vs) ⟨z, vs, a, ws, rfl, e1, hr, ha, r2⟩)⟩⟩
          | ex _ _ _ => rw [e2] at e; cases e
          | bad => rw [e2] at e; cases e
        · rw [if_neg hc] at e
          cases e
      | _ => cases e
    | ex _ _ _ => rw [ev] at e; cases e
    | bad => rw [ev] at e; cases e
  · rw [if_neg hg] at e
    cases e
/-- the observed data behind an evaluated list -/
theorem fetch_ok {H : Hp} {σ : L2.St} {Γ : En} {f : Fp} (en : REnv H Γ σ f) : ∀ {es : List Ex} {os : List Ob} {vs : List V} {g : Fp} {ds : List D}, RepO H σ es os vs g → fetch Γ es os = some ds → ObsL H (g.add f) ds vs
  | [], [], vs, g, ds, h, e => by
    obtain ⟨rfl, rfl⟩ := (show vs = [] ∧ g = Fp.zero from h)
    cases e
    exact .nil
  | [], _ :: _, vs, g, ds, h, e => by cases h
  | e :: es, [], vs, g, ds, h, _ => by cases e <;> cases h
  | e :: es, o :: os, vs, g, ds, h, hf => by
    cases o with
    | v d =>
      have h : ∃ v r g1 g2, vs = v :: r ∧ Rep H d v g1 ∧ RepO H σ es os r g2 ∧ g = g1.add g2 := by cases e <;> first | exact h | cases h
      have hf : (fetch Γ es os).map (d :: ·) = some ds := by cases e <;> first | exact hf | cases h
      obtain ⟨v, r, g1, g2, rfl, q1, q2, rfl⟩ := h
      obtain ⟨ds', e2, rfl⟩ := Option.map_eq_some_iff.mp hf
      have ih := fetch_ok en q2 e2
      have up : ∀ {ds : List D} {vs : List V}, ObsL H (g2.add f) ds vs → ObsL H ((g1.add g2).add f) ds vs := fun {ds vs} h => by
        induction h with
        | nil => exact .nil
        | cons a b ih =>
          obtain ⟨ga, ra, la⟩ := a
          exact .cons ⟨ga, ra, by rw [Fp.add_assoc]; exact la.trans (Fp.le_addR _ _)⟩ ih
      exact .cons ⟨g1, q1, by rw [Fp.add_assoc]; exact Fp.le_addL _ _⟩ (up ih)
    | r =>
      have h : ∃ i v r, vs = v :: r ∧ (σ[(i : Nat)]? : Option (Option V)) = some (some v) ∧ RepO H σ es os r g ∧ fetch Γ (e :: es) (.r :: os) = ((gt Γ i).bind fun d => (fetch Γ es os).map (d :: ·)) := by
        cases e <;> first | (obtain ⟨v, r, q1, q2, q3⟩ := h; exact ⟨_, v, r, q1, q2, q3, rfl⟩) | cases h
      obtain ⟨i, v, r, rfl, e1, q, ef⟩ := h
      rw [ef] at hf
      obtain ⟨d, e2, hf⟩ := Option.bind_eq_some_iff.mp hf
      obtain ⟨ds', e3, rfl⟩ := Option.map_eq_some_iff.mp hf
      obtain ⟨w, g0, h0, e4, r0, e5, _⟩ := en.put (gt_some e2)
      rw [e1] at e4
      cases e4
      refine .cons ⟨g0, r0, ?_⟩ (fetch_ok en q e3)
      rw [e5]
      exact (Fp.le_addL _ _).trans (Fp.le_addR _ _)
    | ix n =>
      have h : ∃ j ei, e = .pki j ei := by cases e <;> first | exact ⟨_, _, rfl⟩ | cases h
      obtain ⟨j, ei, rfl⟩ := h
      obtain ⟨v, r, a, ws, rfl, e1, hr, ha, q⟩ := (show ∃ v r a ws, vs = v :: r ∧ σ[j]? = some (some (.ref a)) ∧ (Rd H a (.lst ws) ∨ Rd H a (.tup ws)) ∧ atI ws n = some v ∧ RepO H σ es os r g from h)
      have hf : ((((gt Γ j).bind items?).bind fun xs => ixD xs n).bind fun d => (fetch Γ es os).map (d :: ·)) = some ds := hf
      obtain ⟨d, e2, hf⟩ := Option.bind_eq_some_iff.mp hf
      obtain ⟨ds', e3, rfl⟩ := Option.map_eq_some_iff.mp hf
      obtain ⟨xs, h1, h2⟩ := Option.bind_eq_some_iff.mp e2
      obtain ⟨cc, h3, h4⟩ := Option.bind_eq_some_iff.mp h1
      obtain ⟨w, g0, h0, e4, r0, e5, _⟩ := en.put (gt_some h3)
      rw [e1] at e4
      cases e4
      refine .cons ?_ (fetch_ok en q e3)
      have fin : ∀ {ws' : List V} {g' : Fp}, ws' = ws → RepL H xs ws' g' → g'.le g0 → Obs H (g.add f) d v := fun {ws' g'} ew rl lg => by
        subst ew
        obtain ⟨m, m1, m2⟩ := ixD_at (xs := ws') rl.length h2
        obtain ⟨v', g2, e6, r2, l2⟩ := rl.get' m1
        have := m2 v' e6
        rw [ha] at this
        cases this
        refine ⟨g2, r2, (l2.trans lg).trans ?_⟩
        rw [e5]
        exact (Fp.le_addL _ _).trans (Fp.le_addR _ _)
      have lt : ∀ {xs ys : List V}, Rd H a (.lst xs) → Rd H a (.tup ys) → False := fun {xs ys} p q => by
        rcases p with p | ⟨o, p⟩ <;> rcases q with q | ⟨o', q⟩ <;> rw [p] at q <;> cases q
      cases cc with
      | lst o ys =>
        cases h4
        obtain ⟨a', vs', g', ea, hr', rl, lg⟩ := Obs.lst (F := g0) ⟨g0, r0, Fp.le.refl _⟩
        cases ea
        rcases hr with hr | hr
        · exact fin (rd_injL hr' hr) rl lg
        · exact (lt hr' hr).elim
      | tup ys =>
        cases h4
        obtain ⟨a', vs', g', ea, hr', rl, lg⟩ := Obs.tup (F := g0) ⟨g0, r0, Fp.le.refl _⟩
        cases ea
        rcases hr with hr | hr
        · exact (lt hr hr').elim
        · exact fin (rd_injT hr' hr) rl lg
      | _ => cases h4
theorem RepO.length {H : Hp} {σ : L2.St} : ∀ {es : List Ex} {os : List Ob} {vs : List V} {g : Fp}, RepO H σ es os vs g → vs.length = es.length
  | [], [], vs, g, h => by
    obtain ⟨rfl, _⟩ := (show vs = [] ∧ g = Fp.zero from h)
    rfl
  | [], _ :: _, vs, g, h => by cases h
  | e :: es, [], vs, g, h => by cases e <;> cases h
  | e :: es, o :: os, vs, g, h => by
    have h : ∃ v r g', vs = v :: r ∧ RepO H σ es os r g' := by
      cases o with
      | v d =>
        have h : ∃ v r g1 g2, vs = v :: r ∧ Rep H d v g1 ∧ RepO H σ es os r g2 ∧ g = g1.add g2 := by cases e <;> first | exact h | cases h
        obtain ⟨v, r, g1, g2, q, _, q2, _⟩ := h
        exact ⟨v, r, g2, q, q2⟩
      | r => cases e <;> first | (obtain ⟨v, r, q1, _, q3⟩ := h; exact ⟨v, r, _, q1, q3⟩) | cases h
      | ix n => cases e <;> first | (obtain ⟨v, r, b, ws, q1, _, _, _, q⟩ := h; exact ⟨v, r, _, q1, q⟩) | cases h
    obtain ⟨v, r, g', rfl, q⟩ := h
    rw [List.length_cons, List.length_cons, RepO.length q]
/-- all are values -/
theorem alls_ok {H : Hp} {σ : L2.St} : ∀ {es : List Ex} {os : List Ob} {vs : List V} {g : Fp} {ds : List D}, RepO H σ es os vs g → alls os = some ds → RepL H ds vs g
  | [], [], vs, g, ds, h, e => by
    obtain ⟨rfl, rfl⟩ := (show vs = [] ∧ g = Fp.zero from h)
    cases e
    exact RepL.nil
  | [], _ :: _, vs, g, ds, h, e => by cases h
  | e :: es, [], vs, g, ds, h, _ => by cases e <;> cases h
  | e :: es, o :: os, vs, g, ds, h, hf => by
    cases o with
    | v d =>
      have h : ∃ v r g1 g2, vs = v :: r ∧ Rep H d v g1 ∧ RepO H σ es os r g2 ∧ g = g1.add g2 := by cases e <;> first | exact h | cases h
      obtain ⟨v, r, g1, g2, rfl, q1, q2, rfl⟩ := h
      obtain ⟨ds', e2, rfl⟩ := Option.map_eq_some_iff.mp (show (alls os).map (d :: ·) = some ds from hf)
      exact RepL.cons q1 (alls_ok q2 e2)
    | r => cases hf
    | ix n => cases hf

/-! ### displays and operations -/
/-- a new object at p: a list of one's own, a tuple -/
theorem PV.new {H H' : Hp} {f g f' : Fp} {σ : L2.St} {Q : VK} {d : D} {Γ : En} {p : Addr} {o : HO} {gp : Fp} (h : PV H f σ Q (.ok d Γ)) (en : REnv H' Γ σ f') (hg : ∀ a, 0 < g.at a → Dm H' a) (G : Good (g.add f')) (S : Step H f H' (g.add f')) (hp : H' p = none)
    (r : Rep (upd H' p o) d (.ref p) gp) (hgp : gp = g.own p ∨ gp = g.sh p) : Q (.ref p) (upd H' p o) := by
  have z : (g.add f').at p = 0 := by
    by_cases y : 0 < (g.add f').at p
    · have : 0 < g.at p ∨ 0 < f'.at p := by
        unfold Fp.at Fp.add at *
        simp only at *
        omega
      rcases this with q | q
      · obtain ⟨u, hu, _⟩ := hg p q
        rw [hp] at hu; cases hu
      · obtain ⟨u, hu, _⟩ := en.dom p q
        rw [hp] at hu; cases hu
    · omega
  have kp : ∀ a u, H' a = some u → upd H' p o a = some u := fun a u hu => by
    rw [upd_ne (ne_of_none hu hp)]
    exact hu
  have dm : ∀ a, upd H' p o a = none → H' a = none := fun a e => by
    by_cases ha : a = p
    · rw [ha]; exact hp
    · rw [upd_ne ha] at e
      exact e
  refine h _ _ gp f' r (en.mono (fun a u hu _ => kp a u hu) fun t => t.ext kp) ⟨fun a => ?_⟩ ⟨fun a u hu y nt => kp a u (S.frame a u hu y nt), fun t => (S.tab t).ext kp, fun a q => ?_, fun a q => ?_, fun a q => ?_⟩
  · have q := G.g a
    rcases hgp with rfl | rfl
    · unfold Fp.add Fp.own
      unfold Fp.at Fp.add at z
      unfold Fp.add at q
      simp only at q z ⊢
      by_cases ha : a = p
      · subst ha
        rw [one_self]
        omega
      · unfold one
        rw [if_neg ha]
        refine ⟨by omega, fun y => ?_⟩
        have := q.2 (by omega)
        omega
    · unfold Fp.add Fp.sh
      unfold Fp.at Fp.add at z
      unfold Fp.add at q
      simp only at q z ⊢
      by_cases ha : a = p
      · subst ha
        rw [one_self]
        omega
      · unfold one
        rw [if_neg ha]
        refine ⟨by omega, fun y => ?_⟩
        have := q.2 (by omega)
        omega
  · by_cases ha : a = p
    · rw [ha]
      exact S.gone (.inl hp)
    · refine S.own a ?_
      rcases hgp with rfl | rfl
      · unfold Fp.add Fp.own one at q
        unfold Fp.add
        simp only [if_neg ha] at q ⊢
        omega
      · exact q
  · refine S.lent a ?_
    rcases hgp with rfl | rfl <;> exact q
  · by_cases ha : a = p
    · rw [ha]
      exact S.gone3 (.inl hp)
    · refine S.shr a ?_
      rcases hgp with rfl | rfl
      · exact q
      · unfold Fp.add Fp.sh one at q
        unfold Fp.add
        simp only [if_neg ha] at q ⊢
        omega
theorem rep_upd {H : Hp} {ds : List D} {vs : List V} {g : Fp} {p : Addr} {o : HO} (r : RepL H ds vs g) (hp : H p = none) : RepL (upd H p o) ds vs g :=
  RepL.mono ds r fun a u hu _ => by rw [upd_ne (ne_of_none hu hp)]; exact hu
theorem len1000 {n : Nat} (h : n ≤ 1000) : n ≤ sizeLine := by
  rw [sizeLine_eq]
  omega
theorem l_tup {exs : List Ex} {es : List Expr} {n : Nat} {pos : Pos} (hl : es.length ≤ 1000) (hn : es.length = exs.length) (h : VAs T k X exs es) : VEx T k X (.tup exs) (.Tuple es n pos) := by
  obtain ⟨ts, p1, l1, s1⟩ := h
  refine ⟨_, pe_tup p1.pa, fun Γ σ H f Q en G p => ?_⟩
  refine s1 Γ σ H f _ en G ?_
  obtain ⟨os, Γ1, e1, p⟩ := PV.bind (r := evAs (run T k) exs Γ) p
  rw [e1]
  intro vs H1 g1 f1 r1 en1 G1 S1
  obtain ⟨d, e2, p⟩ := p.opt
  obtain ⟨ds, e3, rfl⟩ := Option.map_eq_some_iff.mp e2
  have rl := alls_ok r1 e3
  refine ⟨by rw [r1.length, ← hn]; exact len1000 hl, fun q hq => ?_⟩
  refine PV.new p en1 r1.dom G1 S1 hq (gp := g1.sh q) ?_ (.inr rfl)
  unfold Rep
  exact ⟨q, vs, g1, rfl, rep_upd rl hq, .inl upd_same, rfl⟩
theorem l_lst {exs : List Ex} {es : List Expr} {pos : Pos} (hl : es.length ≤ 1000) (hn : es.length = exs.length) (h : VAs T k X exs es) : VEx T k X (.lst exs) (.List es pos) := by
  obtain ⟨ts, p1, l1, s1⟩ := h
  refine ⟨_, pe_lst p1.pa, fun Γ σ H f Q en G p => ?_⟩
  refine s1 Γ σ H f _ en G ?_
  obtain ⟨os, Γ1, e1, p⟩ := PV.bind (r := evAs (run T k) exs Γ) p
  rw [e1]
  intro vs H1 g1 f1 r1 en1 G1 S1
  obtain ⟨d, e2, p⟩ := p.opt
  obtain ⟨ds, e3, rfl⟩ := Option.map_eq_some_iff.mp e2
  have rl := alls_ok r1 e3
  refine ⟨by rw [r1.length, ← hn]; exact len1000 hl, fun q hq => ?_⟩
  refine PV.new p en1 r1.dom G1 S1 hq (gp := g1.own q) ?_ (.inl rfl)
  unfold Rep
  exact ⟨q, vs, g1, rfl, rep_upd rl hq, upd_same, rfl⟩
theorem l_op (C : CO T k c X) {m : Fm} {o : Op} {e : Expr} {xs : List Expr} {exs : List Ex} (h : opArgs c m o e = some xs) (ha : VAs T k X exs xs) : VEx T k X (.op m o exs) e := by
  obtain ⟨ts, p1, l1, s1⟩ := ha
  obtain ⟨te, pe, R', h1, h2⟩ := op_ok C h p1
  refine ⟨te, pe, fun Γ σ H f Q en G p => h1 σ H Q ?_⟩
  refine s1 Γ σ H f _ en G ?_
  obtain ⟨os, Γ1, e1, p⟩ := PV.bind (r := evAs (run T k) exs Γ) p
  rw [e1]
  intro vs H1 g1 f1 r1 en1 G1 S1
  obtain ⟨d, e2, p⟩ := p.opt
  obtain ⟨ds, e3, e4⟩ := Option.bind_eq_some_iff.mp e2
  exact h2 Q vs H1 (by rw [r1.length, l1]) ⟨_, ds, d, fetch_ok en1 r1 e3, e4, p.res en1 r1.dom G1 S1⟩
theorem l_tst {t : Tx} {e : Expr} (h : VBx T k X t e) : VEx T k X (.tst t) e := by
  obtain ⟨te, pe, s⟩ := h
  refine ⟨te, pe, fun Γ σ H f Q en G p => s Γ σ H f Q en G ?_⟩
  obtain ⟨b, Γ1, e1, p⟩ := PV.bind (r := evB (run T k) t Γ) p
  rw [e1]
  intro H1 f1 en1 G1 S1
  exact PV.scal (v := .bl b) (p.later S1) (by unfold Rep; exact ⟨rfl, rfl⟩) en1 G1
theorem l_ite {t : Tx} {a b : Ex} {x y z : Expr} {pos : Pos} (h1 : VTx T k X t x) (h2 : VEx T k X a y) (h3 : VEx T k X b z) : VEx T k X (.ite t a b) (.IfExp x y z pos) := by
  obtain ⟨tt, pt, st⟩ := h1
  obtain ⟨ta, pa, sa⟩ := h2
  obtain ⟨tb, pb, sb⟩ := h3
  refine ⟨_, pe_ifExp pt pa pb, fun Γ σ H f Q en G p => ?_⟩
  refine st Γ σ H f _ en G ?_
  obtain ⟨w, Γ1, e1, p⟩ := PV.bind (r := evT (run T k) t Γ) p
  rw [e1]
  intro H1 f1 en1 G1 S1
  have p := PV.later p S1
  by_cases hw : w = true
  · rw [if_pos hw] at p ⊢
    exact sa Γ1 σ H1 f1 Q en1 G1 p
  · rw [if_neg hw] at p ⊢
    exact sb Γ1 σ H1 f1 Q en1 G1 p
/-- a new thing handed on as one that may be held twice -/
theorem l_frz {ex : Ex} {e : Expr} (h : VEx T k X ex e) : VEx T k X (.frz ex) e := by
  obtain ⟨te, pe, s⟩ := h
  refine ⟨te, pe, fun Γ σ H f Q en G p => s Γ σ H f Q en G ?_⟩
  obtain ⟨d, Γ1, e1, p⟩ := PV.bind (r := evE (run T k) ex Γ) p
  rw [e1]
  intro v H' g f' r en' G' S'
  refine p v H' g.shr f' (Rep.frz d r) en' ⟨fun a => ?_⟩ ⟨S'.frame, S'.tab, fun a q => ?_, fun a q => ?_, fun a q => ?_⟩
  · have q := G'.g a
    unfold Fp.add at q
    unfold Fp.add Fp.shr
    simp only at q ⊢
    refine ⟨by omega, fun z => ?_⟩
    have := q.2 (by omega)
    omega
  · refine S'.own a ?_
    unfold Fp.add Fp.shr at q
    unfold Fp.add
    simp only at q ⊢
    omega
  · refine S'.lent a ?_
    unfold Fp.add Fp.shr at q
    unfold Fp.add
    simp only at q ⊢
    omega
  · unfold Fp.add Fp.shr at q
    simp only at q
    have e0 : ∀ b, (g.add f').o b = g.o b + f'.o b ∧ (g.add f').l b = g.l b + f'.l b ∧ (g.add f').s b = g.s b + f'.s b := fun b => ⟨rfl, rfl, rfl⟩
    have := e0 a
    by_cases z1 : 0 < (g.add f').o a
    · rcases S'.own a z1 with h | h
      · left; omega
      · exact .inr h
    · by_cases z2 : 0 < (g.add f').l a
      · rcases S'.lent a z2 with h | h
        · left; omega
        · exact .inr h
      · exact S'.shr a (by omega)
end
end VE

end
section
set_option maxHeartbeats 2000000
/-! VEj: calls. -/
namespace VE
open PySem PySem.Spec PyProof.Rows L2
variable [TC]

section
variable {H H' : Hp} {σ : L2.St}
mutual
theorem Rep.lists : ∀ (d : D) {v : V} {f : Fp}, Rep H d v f → ∀ a, 0 < f.o a + f.l a → ∃ vs, H a = some (.lst vs)
  | .non, _, _, h, a, p => by unfold Rep at h; obtain ⟨_, rfl⟩ := h; exact absurd p (Nat.lt_irrefl 0)
  | .bl _, _, _, h, a, p => by unfold Rep at h; obtain ⟨_, rfl⟩ := h; exact absurd p (Nat.lt_irrefl 0)
  | .int _, _, _, h, a, p => by unfold Rep at h; obtain ⟨_, rfl⟩ := h; exact absurd p (Nat.lt_irrefl 0)
  | .str _, _, _, h, a, p => by unfold Rep at h; obtain ⟨_, rfl⟩ := h; exact absurd p (Nat.lt_irrefl 0)
  | .gone, _, _, h, a, p => by unfold Rep at h; subst h; exact absurd p (Nat.lt_irrefl 0)
  | .tup ds, v, f, h, b, p => by
    unfold Rep at h
    obtain ⟨a, vs, g, e, r, q, rfl⟩ := h
    exact RepL.lists ds r b p
  | .lst .own ds, v, f, h, b, p => by
    unfold Rep at h
    obtain ⟨a, vs, g, e, r, q, rfl⟩ := h
    by_cases hb : b = a
    · subst hb; exact ⟨_, q⟩
    · exact RepL.lists ds r b (by unfold Fp.own one at *; simp only [if_neg hb] at *; omega)
  | .lst .lent ds, v, f, h, b, p => by
    unfold Rep at h
    obtain ⟨a, vs, g, e, r, q, rfl⟩ := h
    by_cases hb : b = a
    · subst hb; exact ⟨_, q⟩
    · exact RepL.lists ds r b (by unfold Fp.lent one at *; simp only [if_neg hb] at *; omega)
  | .lst .shr ds, v, f, h, b, p => by
    unfold Rep at h
    obtain ⟨a, vs, g, e, r, z, q, rfl⟩ := h
    exact RepL.lists ds r b p
theorem RepL.lists : ∀ (ds : List D) {vs : List V} {f : Fp}, RepL H ds vs f → ∀ a, 0 < f.o a + f.l a → ∃ vs, H a = some (.lst vs)
  | [], _, _, h, a, p => by unfold RepL at h; obtain ⟨_, rfl⟩ := h; exact absurd p (Nat.lt_irrefl 0)
  | d :: ds, vs, f, h, a, p => by
    unfold RepL at h
    obtain ⟨v, r, g, h', e, r1, r2, rfl⟩ := h
    by_cases hg : 0 < g.o a + g.l a
    · exact Rep.lists d r1 a hg
    · exact RepL.lists ds r2 a (by unfold Fp.add at p; simp only at p; omega)
end
theorem REnv.lists : ∀ {Γ : En} {σ : L2.St} {f : Fp}, REnv H Γ σ f → ∀ a, 0 < f.o a + f.l a → ∃ vs, H a = some (.lst vs)
  | [], σ, f, h, a, p => by unfold REnv at h; obtain ⟨_, rfl, _⟩ := h; exact absurd p (Nat.lt_irrefl 0)
  | .none :: Γ, σ, f, h, a, p => by
    unfold REnv at h
    obtain ⟨x, r, e, q⟩ := h
    exact REnv.lists q a p
  | some d :: Γ, σ, f, h, a, p => by
    unfold REnv at h
    obtain ⟨v, r, g, h', e, q1, q2, rfl⟩ := h
    by_cases hg : 0 < g.o a + g.l a
    · exact Rep.lists d q1 a hg
    · exact REnv.lists q2 a (by unfold Fp.add at p; simp only at p; omega)
theorem take_out {i : Nat} : ∀ {es : List Ex} {os : List Ob} {Γ : En} {t : Tk}, take Γ es os = some t → i ∉ pkI es → t.Γ[i]? = Γ[i]?
  | [], [], Γ, t, h, _ => by cases h; rfl
  | [], _ :: _, Γ, t, h, _ => by cases h
  | e :: es, [], Γ, t, h, _ => by cases e <;> cases h
  | e :: es, o :: os, Γ, t, h, hi => by
    cases o with
    | v d =>
      have h : (take Γ es os).map (fun t => (⟨d :: t.ds, t.Γ, t.nc⟩ : Tk)) = some t := by cases e <;> exact h
      have hi : i ∉ pkI es := by cases e <;> first | exact hi | (unfold pkI at hi; exact fun q => hi (List.mem_cons_of_mem _ q))
      obtain ⟨t', e1, rfl⟩ := Option.map_eq_some_iff.mp h
      show t'.Γ[i]? = _
      exact take_out e1 hi
    | r =>
      cases e <;> first | (cases h; done) | skip
      · rename_i j
        obtain ⟨d, e1, h⟩ := Option.bind_eq_some_iff.mp (show (gt Γ j).bind _ = some t from h)
        obtain ⟨t', e2, rfl⟩ := Option.map_eq_some_iff.mp h
        unfold pkI at hi
        simp only [List.mem_cons, not_or] at hi
        have := take_out e2 hi.2
        show t'.Γ[i]? = _
        rw [this, List.getElem?_set_ne (Ne.symm hi.1)]
      · rename_i j
        have h : (if (pkI es).contains j = true then none else (gt Γ j).bind fun d => (take Γ es os).map fun t => if dup d = true then (⟨d :: t.ds, t.Γ, t.nc⟩ : Tk) else ⟨frz d :: t.ds, t.Γ, true⟩) = some t := h
        split at h
        · cases h
        · obtain ⟨d, e1, h⟩ := Option.bind_eq_some_iff.mp h
          obtain ⟨t', e2, e3⟩ := Option.map_eq_some_iff.mp h
          have e4 : t.Γ = t'.Γ := by
            rw [← e3]
            split <;> rfl
          rw [e4]
          exact take_out e2 hi
    | ix n => cases e <;> cases h
theorem take_ok : ∀ {es : List Ex} {os : List Ob} {Γ : En} {t : Tk} {vs : List V} {g f : Fp}, take Γ es os = some t → REnv H Γ σ f → RepO H σ es os vs g →
    ∃ gm fr : Fp, REnv H t.Γ σ fr ∧ gm.add fr = g.add f ∧ ∀ fr' : Fp, REnv H t.Γ σ fr' → ∃ gs : Fp, RepL H t.ds vs (gm.add gs) ∧ (∀ a, gs.o a = 0 ∧ gs.l a = 0) ∧ (∀ a, 0 < gs.s a → 0 < fr'.at a) ∧ (t.nc = false → ∀ a, 0 < gs.s a → 0 < fr'.s a)
  | [], [], Γ, t, vs, g, f, h, en, r => by
    cases h
    obtain ⟨rfl, rfl⟩ := (show vs = [] ∧ g = Fp.zero from r)
    exact ⟨Fp.zero, f, en, rfl, fun fr' _ => ⟨Fp.zero, by rw [Fp.zero_add]; exact RepL.nil, fun _ => ⟨rfl, rfl⟩, fun _ p => absurd p (Nat.lt_irrefl 0), fun _ _ p => absurd p (Nat.lt_irrefl 0)⟩⟩
  | [], _ :: _, Γ, t, vs, g, f, h, en, r => by cases h
  | e :: es, [], Γ, t, vs, g, f, h, en, r => by cases e <;> cases h
  | e :: es, o :: os, Γ, t, vs, g, f, h, en, r => by
    cases o with
    | v d =>
      have h : (take Γ es os).map (fun t => (⟨d :: t.ds, t.Γ, t.nc⟩ : Tk)) = some t := by cases e <;> exact h
      have r : ∃ v r g1 g2, vs = v :: r ∧ Rep H d v g1 ∧ RepO H σ es os r g2 ∧ g = g1.add g2 := by cases e <;> first | exact r | cases r
      obtain ⟨t', e1, rfl⟩ := Option.map_eq_some_iff.mp h
      obtain ⟨v, r, g1, g2, rfl, q1, q2, rfl⟩ := r
      obtain ⟨gm, fr, h1, h2, h3⟩ := take_ok e1 en q2
      refine ⟨g1.add gm, fr, h1, by rw [Fp.add_assoc, h2, Fp.add_assoc], fun fr' en' => ?_⟩
      obtain ⟨gs, k1, k2, k3, k4⟩ := h3 fr' en'
      exact ⟨gs, by rw [Fp.add_assoc]; exact RepL.cons q1 k1, k2, k3, k4⟩
    | r =>
      cases e <;> first | (cases h; done) | skip
      · rename_i i
        obtain ⟨v, r, rfl, e0, q2⟩ := (show ∃ v r, vs = v :: r ∧ σ[i]? = some (some v) ∧ RepO H σ es os r g from r)
        obtain ⟨d, e1, h⟩ := Option.bind_eq_some_iff.mp (show (gt Γ i).bind _ = some t from h)
        obtain ⟨t', e2, rfl⟩ := Option.map_eq_some_iff.mp h
        obtain ⟨w, g0, h0, e3, r0, rfl, _, put⟩ := en.put (gt_some e1)
        rw [e0] at e3
        cases e3
        have en2 := put .gone Fp.zero (by unfold Rep; rfl)
        rw [Fp.zero_add] at en2
        obtain ⟨gm, fr, h1, h2, h3⟩ := take_ok e2 en2 q2
        refine ⟨g0.add gm, fr, h1, by rw [Fp.add_assoc, h2]; exact Fp.add_left_comm _ _ _, fun fr' en' => ?_⟩
        obtain ⟨gs, k1, k2, k3, k4⟩ := h3 fr' en'
        exact ⟨gs, by rw [Fp.add_assoc]; exact RepL.cons r0 k1, k2, k3, k4⟩
      · rename_i i
        obtain ⟨v, r, rfl, e0, q2⟩ := (show ∃ v r, vs = v :: r ∧ σ[i]? = some (some v) ∧ RepO H σ es os r g from r)
        have h : (if (pkI es).contains i = true then none else (gt Γ i).bind fun d => (take Γ es os).map fun t => if dup d = true then (⟨d :: t.ds, t.Γ, t.nc⟩ : Tk) else ⟨frz d :: t.ds, t.Γ, true⟩) = some t := h
        split at h
        · cases h
        · rename_i hn
          obtain ⟨d, e1, h⟩ := Option.bind_eq_some_iff.mp h
          obtain ⟨t', e2, e3⟩ := Option.map_eq_some_iff.mp h
          have e4 : t.Γ = t'.Γ := by
            rw [← e3]
            split <;> rfl
          obtain ⟨gm, fr, h1, h2, h3⟩ := take_ok e2 en q2
          refine ⟨gm, fr, by rw [e4]; exact h1, h2, fun fr' en' => ?_⟩
          rw [e4] at en'
          obtain ⟨gs, k1, k2, k3, k4⟩ := h3 fr' en'
          have ei : t'.Γ[i]? = some (some d) := by
            rw [take_out e2 (by simpa using hn)]
            exact gt_some e1
          obtain ⟨w, g', h', e5, r', rfl, _⟩ := en'.put ei
          rw [e0] at e5
          cases e5
          by_cases hd : dup d = true
          · rw [if_pos hd] at e3
            subst e3
            have z := Rep.dup d r' hd
            refine ⟨g'.add gs, by rw [Fp.add_left_comm]; exact RepL.cons r' k1, fun a => ?_, fun a p => ?_, fun nc a p => ?_⟩
            · have := z a
              have := k2 a
              unfold Fp.add
              simp only
              omega
            · by_cases y : 0 < gs.s a
              · exact k3 a y
              · unfold Fp.add at p
                unfold Fp.at Fp.add
                simp only at p ⊢
                omega
            · by_cases y : 0 < gs.s a
              · exact k4 nc a y
              · unfold Fp.add at p ⊢
                simp only at p ⊢
                omega
          · rw [if_neg hd] at e3
            subst e3
            refine ⟨g'.shr.add gs, by rw [Fp.add_left_comm]; exact RepL.cons (Rep.frz d r') k1, fun a => ?_, fun a p => ?_, fun nc => by cases nc⟩
            · have := k2 a
              unfold Fp.add Fp.shr
              simp only
              omega
            · by_cases y : 0 < gs.s a
              · exact k3 a y
              · unfold Fp.add Fp.shr at p
                unfold Fp.at Fp.add
                simp only at p ⊢
                omega
    | ix n => cases e <;> cases h
theorem back_ok : ∀ {es : List Ex} {os : List Ob} {Γ : En} {vs : List V} {fs : List D} {g0 fr f' : Fp} {H0 : Hp}, REnv H Γ σ fr → RepO H0 σ es os vs g0 → RepL H fs vs f' →
    ∃ fb fp : Fp, REnv H (back Γ es fs) σ fb ∧ fb.le (fp.add fr) ∧ fp.le f' ∧ (cleanB es fs = true → ∀ a, 0 < fp.s a → ∃ ws, Rd H a (.tup ws))
  | [], os, Γ, vs, fs, g0, fr, f', H0, en, r, rl => by
    refine ⟨fr, Fp.zero, ?_, by rw [Fp.zero_add]; exact Fp.le.refl _, fun _ => ⟨Nat.zero_le _, Nat.zero_le _, Nat.zero_le _⟩, fun _ a p => absurd p (Nat.lt_irrefl 0)⟩
    cases fs <;> exact en
  | e :: es, [], Γ, vs, fs, g0, fr, f', H0, en, r, rl => by cases e <;> cases r
  | e :: es, o :: os, Γ, vs, fs, g0, fr, f', H0, en, r, rl => by
    have tl : ∃ v w g', vs = v :: w ∧ RepO H0 σ es os w g' ∧ (∀ i, e = .pk i → σ[i]? = some (some v)) := by
      cases o with
      | v d =>
        cases e with
        | pk i =>
          exact False.elim r
        | _ =>
          obtain ⟨v, r, g1, g2, e1, _, q2, _⟩ := r
          exact ⟨v, r, g2, e1, q2, fun i q => by cases q⟩
      | r =>
        cases e <;> first | (cases r; done) | skip
        · obtain ⟨v, r, e1, e2, q⟩ := r
          exact ⟨v, r, _, e1, q, fun i q => by cases q; exact e2⟩
        · obtain ⟨v, r, e1, e2, q⟩ := r
          exact ⟨v, r, _, e1, q, fun i q => by cases q⟩
      | ix n =>
        cases e <;> first | (cases r; done) | skip
        obtain ⟨v, r, b, ws, q1, _, _, _, q⟩ := r
        exact ⟨v, r, _, q1, q, fun i q => by cases q⟩
    obtain ⟨v, w, g', rfl, r2, hpk⟩ := tl
    cases fs with
    | nil =>
      obtain ⟨z, _⟩ := rl.inv0
      cases z
    | cons d fs =>
      obtain ⟨v', w', g1, g2, ev, r1, rl2, rfl⟩ := rl.inv
      cases ev
      by_cases hp : ∃ i, e = .pk i
      · obtain ⟨i, rfl⟩ := hp
        have e0 := hpk i rfl
        have hi : i < Γ.length := by
          rw [en.length]
          exact (List.getElem?_eq_some_iff.mp e0).1
        obtain ⟨a0, b0, rfl, st⟩ := en.store hi
        have en2 := st d v g1 r1
        rw [set_self e0] at en2
        obtain ⟨fb, fp, k1, k2, k3, k4⟩ := back_ok en2 r2 rl2
        refine ⟨fb, g1.add fp, k1, k2.trans fun a => ?_, fun a => ?_, fun hc a p => ?_⟩
        · show fp.o a + (g1.o a + b0.o a) ≤ g1.o a + fp.o a + (a0.o a + b0.o a) ∧ fp.l a + (g1.l a + b0.l a) ≤ g1.l a + fp.l a + (a0.l a + b0.l a) ∧ fp.s a + (g1.s a + b0.s a) ≤ g1.s a + fp.s a + (a0.s a + b0.s a)
          omega
        · have := k3 a
          show g1.o a + fp.o a ≤ g1.o a + g2.o a ∧ g1.l a + fp.l a ≤ g1.l a + g2.l a ∧ g1.s a + fp.s a ≤ g1.s a + g2.s a
          omega
        · have hc : (clean d && cleanB es fs) = true := hc
          rw [Bool.and_eq_true] at hc
          by_cases y : 0 < fp.s a
          · exact k4 hc.2 a y
          · exact Rep.clean d r1 hc.1 a (by have p' : 0 < g1.s a + fp.s a := p; omega)
      · have eb : back Γ (e :: es) (d :: fs) = back Γ es fs := by cases e <;> first | exact absurd ⟨_, rfl⟩ hp | rfl
        have ec : cleanB (e :: es) (d :: fs) = cleanB es fs := by cases e <;> first | exact absurd ⟨_, rfl⟩ hp | rfl
        rw [eb, ec]
        obtain ⟨fb, fp, k1, k2, k3, k4⟩ := back_ok en r2 rl2
        exact ⟨fb, fp, k1, k2, k3.trans (Fp.le_addR _ _), k4⟩

theorem add_mono {a b c d : Fp} (h : a.le b) (h2 : c.le d) : (a.add c).le (b.add d) := fun x => ⟨Nat.add_le_add (h x).1 (h2 x).1, Nat.add_le_add (h x).2.1 (h2 x).2.1, Nat.add_le_add (h x).2.2 (h2 x).2.2⟩
/-- behind a call -/
theorem call_back {H0 H1 H' : Hp} {gm gs fr A f : Fp} {nc : Bool} {ls : ∀ a, 0 < fr.o a + fr.l a → ∃ vs, H1 a = some (.lst vs)} (dom : ∀ a, 0 < fr.at a → Dm H1 a)
    (G : Good (gm.add fr)) (z : ∀ a, gs.o a = 0 ∧ gs.l a = 0) (h1 : ∀ a, 0 < gs.s a → 0 < fr.at a) (h2 : nc = false → ∀ a, 0 < gs.s a → 0 < fr.s a) (S : Step H1 (gm.add gs) H' A) (GA : Good A) (S0 : Step H0 f H1 (gm.add fr))
    (hc : nc = true → ∀ a, 0 < A.s a → ∃ ws, Rd H' a (.tup ws)) : Good (A.add fr) ∧ Step H0 f H' (A.add fr) := by
  have key : ∀ a, 0 < fr.at a → gm.o a = 0 ∧ gm.l a = 0 ∧ A.o a = 0 ∧ A.l a = 0 := fun a p => by
    obtain ⟨u, hu, hnt⟩ := dom a p
    have q := G.g a
    unfold Fp.add at q
    unfold Fp.at at p
    simp only at q
    have e1 : gm.o a + gm.l a = 0 := by
      by_cases y : 0 < gm.o a + gm.l a
      · have := q.2 (by omega)
        omega
      · omega
    refine ⟨by omega, by omega, ?_, ?_⟩
    · by_cases y : 0 < A.o a
      · rcases S.own a y with w | w
        · have := (z a).1
          unfold Fp.add at w
          simp only at w
          omega
        · exact w.no ⟨u, hu, hnt⟩
      · omega
    · by_cases y : 0 < A.l a
      · rcases S.lent a y with w | w
        · have := z a
          unfold Fp.add at w
          simp only at w
          omega
        · exact w.no ⟨u, hu, hnt⟩
      · omega
  have key2 : ∀ a, 0 < fr.o a + fr.l a → A.s a = 0 := fun a p => by
    by_cases y : 0 < A.s a
    · obtain ⟨vs, hv⟩ := ls a p
      have q := G.g a
      unfold Fp.add at q
      simp only at q
      have e := q.2 (by omega)
      have k := key a (by unfold Fp.at; omega)
      cases nc with
      | true =>
        obtain ⟨ws, hw⟩ := hc rfl a y
        have := S.frame a _ hv (by have := (z a).1; unfold Fp.add; simp only; omega) (fun ps e => by cases e)
        rcases hw with hw | ⟨o, hw⟩ <;> rw [this] at hw <;> cases hw
      | false =>
        rcases S.shr a y with w | w
        · have := z a
          unfold Fp.add at w
          simp only at w
          have := h2 rfl a (by omega)
          omega
        · exact w.no ⟨_, hv, fun ps e => by cases e⟩
    · omega
  refine ⟨⟨fun a => ?_⟩, S0.trans ⟨fun a u hu p nt => ?_, S.tab, fun a p => ?_, fun a p => ?_, fun a p => ?_⟩⟩
  · have q := G.g a
    have q2 := GA.g a
    have k1 := key a
    have k2 := key2 a
    unfold Fp.at at k1
    unfold Fp.add at q ⊢
    simp only at q ⊢
    by_cases y : 0 < fr.o a + fr.l a + fr.s a
    · obtain ⟨e1, e2, e3, e4⟩ := k1 y
      refine ⟨by omega, fun p => ?_⟩
      have := k2 (by omega)
      have := q.2 (by omega)
      omega
    · refine ⟨by omega, fun p => ?_⟩
      have := q2.2 (by omega)
      omega
  · have := z a
    refine S.frame a u hu ?_ nt
    unfold Fp.add at p ⊢
    simp only at p ⊢
    omega
  · unfold Fp.add at p ⊢
    simp only at p ⊢
    by_cases y : 0 < A.o a
    · rcases S.own a y with w | w
      · have := (z a).1
        unfold Fp.add at w
        simp only at w
        exact .inl (by omega)
      · exact .inr w
    · exact .inl (by omega)
  · unfold Fp.add at p ⊢
    simp only at p ⊢
    by_cases y : 0 < A.l a
    · rcases S.lent a y with w | w
      · have := z a
        unfold Fp.add at w
        simp only at w
        exact .inl (by omega)
      · exact .inr w
    · exact .inl (by omega)
  · unfold Fp.add at p ⊢
    simp only at p ⊢
    by_cases y : 0 < A.s a
    · rcases S.shr a y with w | w
      · have := z a
        have k := h1 a
        unfold Fp.at at k
        unfold Fp.add at w
        simp only at w
        refine .inl ?_
        by_cases u : 0 < gs.s a
        · have := k u
          omega
        · omega
      · exact .inr w
    · exact .inl (by omega)
variable {T : Nat → Option Def} {k : Nat} {c : Ctx} {X : Cx}
theorem run_np {f : Nat} {ds : List D} {d : D} {fs : List D} (h : run T k f ds = .ok d fs) : ∃ p, T f = some p ∧ ds.length = p.np := by
  cases k with
  | zero => cases h
  | succ k =>
    unfold run at h
    split at h
    · rename_i p e
      split at h
      · exact ⟨p, e, by assumption⟩
      · cases h
    · cases h
/-- .. or an exception -/
def PVX (mg : Str → Option Value) (H : Hp) (f : Fp) (σ : L2.St) (Q : VK) (E : XK) : R D → Prop
  | .ok d Γ => ∀ v H' g f', Rep H' d v g → REnv H' Γ σ f' → Good (g.add f') → Step H f H' (g.add f') → Q v H'
  | .ex c [d] Γ => ∀ C H' f' dx, mg c.x = some C → REnv H' Γ σ f' → Good f' → Step H f H' f' → H' dx = some (.xd [(c.fn, xv d)]) → E C (some dx) H'
  | _ => False
theorem PV.toX {mg : Str → Option Value} {H : Hp} {f : Fp} {σ : L2.St} {Q : VK} {E : XK} {r : R D} (p : PV H f σ Q r) : PVX mg H f σ Q E r := by
  cases r with
  | ok d Γ => exact p
  | ex _ _ _ => exact p.elim
  | bad => exact p.elim
theorem run_np_ex {f : Nat} {ds : List D} {cx : Xn} {dd fs : List D} (h : run T k f ds = .ex cx dd fs) : ∃ p, T f = some p ∧ ds.length = p.np := by
  cases k with
  | zero => cases h
  | succ k =>
    have e : run T (k + 1) f ds = (match T f with
      | some p => if ds.length = p.np then runK p (leave p (exSs (run T k) p.body (enter p ds))) ds else .bad
      | none => .bad) := rfl
    rw [e] at h
    split at h
    · rename_i p hp
      split at h
      · rename_i hl
        exact ⟨p, hp, hl⟩
      · cases h
    · cases h
theorem call_spX {mg : Str → Option Value} {f : Nat} {exs : List Ex} {os : List Ob} {Γ1 : En} {H H1 : Hp} {σ : L2.St} {Q : VK} {E : XK} {f0 f1 g1 : Fp} {vs : List V} (r : RepO H1 σ exs os vs g1) (en : REnv H1 Γ1 σ f1) (G : Good (g1.add f1)) (S : Step H f0 H1 (g1.add f1))
    (p : PVX mg H f0 σ Q E (match take Γ1 exs os with
    | some t => (run T k f t.ds).r exs t
    | none => .bad)) : spV T mg k f (vs ++ []) H1 Q E := by
  cases ht : take Γ1 exs os with
  | none => rw [ht] at p; exact p.elim
  | some t =>
    rw [ht] at p
    dsimp only at p
    obtain ⟨gm, fr, en1, e1, k1⟩ := take_ok ht en r
    obtain ⟨gs, rl, z, h1, h2⟩ := k1 fr en1
    rw [← e1] at G S
    rw [List.append_nil]
    have hgood : Good (gm.add gs) := ⟨fun a => by
      have q := G.g a
      have := z a
      have k := h1 a
      unfold Fp.at at k
      unfold Fp.add at q ⊢
      simp only at q ⊢
      refine ⟨by omega, fun y => ?_⟩
      have := q.2 (by omega)
      by_cases w : 0 < gs.s a
      · have := k w
        omega
      · omega⟩
    cases hr : run T k f t.ds with
    | bad => rw [hr] at p; exact p.elim
    | ex cx dd fs =>
      rw [hr] at p
      unfold F.r at p
      dsimp only at p
      obtain ⟨pd, e2, e3⟩ := run_np_ex hr
      refine ⟨pd, t.ds, gm.add gs, e2, by rw [← rl.length, e3], rl, hgood, en1.tabs, ?_⟩
      rw [hr]
      split at p
      · rename_i hc
        cases dd with
        | nil => exact p.elim
        | cons d dd =>
          cases dd with
          | cons _ _ => exact p.elim
          | nil =>
            intro Cl H' f2 dx hm rl2 G2 S2 hd
            have en2 : REnv H' t.Γ σ fr := en1.mono (fun a u hu pa => S2.frame a u hu (by
              have q := G.g a
              have := z a
              unfold Fp.at at pa
              unfold Fp.add at q ⊢
              simp only at q ⊢
              by_cases y : 0 < gm.o a
              · have := q.2 (by omega)
                omega
              · omega) (by
              obtain ⟨u2, h2, nt⟩ := en1.dom a pa
              rw [hu] at h2
              cases h2
              exact nt)) S2.tab
            obtain ⟨fb, fp, b1, b2, b3, b4⟩ := back_ok en2 r rl2
            obtain ⟨w1, w2⟩ := call_back (H0 := H) (H1 := H1) (H' := H') (gm := gm) (gs := gs) (fr := fr) (A := fp) (f := f0) (nc := t.nc) (ls := en1.lists) en1.dom G z h1 h2 (S2.less b3) (G2.le b3) S fun nc a pa => by
              rw [nc] at hc
              simp only [Bool.not_true, Bool.false_or, Bool.and_eq_true] at hc
              exact b4 hc.2 a pa
            exact p Cl H' fb dx hm b1 (w1.le b2) (w2.less b2) hd
      · exact p.elim
    | ok d fs =>
      rw [hr] at p
      unfold F.r at p
      dsimp only at p
      obtain ⟨pd, e2, e3⟩ := run_np hr
      refine ⟨pd, t.ds, gm.add gs, e2, by rw [← rl.length, e3], rl, hgood, en1.tabs, ?_⟩
      rw [hr]
      intro v H' g2 f2 r2 rl2 G2 S2
      split at p
      · rename_i hc
        have en2 : REnv H' t.Γ σ fr := en1.mono (fun a u hu pa => S2.frame a u hu (by
          have q := G.g a
          have := z a
          unfold Fp.at at pa
          unfold Fp.add at q ⊢
          simp only at q ⊢
          by_cases y : 0 < gm.o a
          · have := q.2 (by omega)
            omega
          · omega) (by
          obtain ⟨u2, h2, nt⟩ := en1.dom a pa
          rw [hu] at h2
          cases h2
          exact nt)) S2.tab
        obtain ⟨fb, fp, b1, b2, b3, b4⟩ := back_ok en2 r rl2
        have lA : (g2.add fp).le (g2.add f2) := add_mono (Fp.le.refl _) b3
        obtain ⟨w1, w2⟩ := call_back (H0 := H) (H1 := H1) (H' := H') (gm := gm) (gs := gs) (fr := fr) (A := g2.add fp) (f := f0) (nc := t.nc) (ls := en1.lists) en1.dom G z h1 h2 (S2.less lA) (G2.le lA) S fun nc a pa => by
          rw [nc] at hc
          simp only [Bool.not_true, Bool.false_or, Bool.and_eq_true] at hc
          by_cases y : 0 < fp.s a
          · exact b4 hc.2 a y
          · exact Rep.clean d r2 hc.1 a (by unfold Fp.add at pa; simp only at pa; omega)
        have lB : (g2.add fb).le ((g2.add fp).add fr) := by
          rw [Fp.add_assoc]
          exact add_mono (Fp.le.refl _) b2
        exact p v H' g2 fb r2 b1 (w1.le lB) (w2.less lB)
      · exact p.elim
theorem call_sp {mg : Str → Option Value} {f : Nat} {exs : List Ex} {os : List Ob} {Γ1 : En} {H H1 : Hp} {σ : L2.St} {Q : VK} {E : XK} {f0 f1 g1 : Fp} {vs : List V} (r : RepO H1 σ exs os vs g1) (en : REnv H1 Γ1 σ f1) (G : Good (g1.add f1)) (S : Step H f0 H1 (g1.add f1))
    (p : PV H f0 σ Q (match take Γ1 exs os with
    | some t => (run T k f t.ds).r exs t
    | none => .bad)) : spV T mg k f (vs ++ []) H1 Q E := call_spX r en G S p.toX
theorem l_call (C : CO T k c X) {f : Nat} {x : Str} {p pos : Pos} {exs : List Ex} {es : List Expr} (hg : gln c x = true) (hl : c.gl.lookup x = some (.fn f)) (ha : VAs T k X exs es) : VEx T k X (.call f exs) (.Call (.Name x p) es [] pos) := by
  obtain ⟨h3, h4⟩ := gln_of hg
  obtain ⟨pd, fA, fd, ps, e1, e2, e3, e4, e5, F⟩ := C.tab.fn x f hl
  obtain ⟨ts, p1, l1, s1⟩ := ha
  have pe : PE X (.Call (.Name x p) es [] pos) (tCall (spV T X.mg k f) [] (fun _ _ _ => False) (tL ts)) := by
    cases p1 with
    | nil => exact pe_call0 F C.room (C.glo x h3) e2 e3 e4 .nil passL h4
    | cons a b cc => exact pe_call F C.room (C.glo x h3) e2 e3 e4 .nil passL (PEL.cons a b cc).pa h4 (starEach_cons a) cc.plain
  refine ⟨_, pe, fun Γ σ H f0 Q en G p => ?_⟩
  refine s1 Γ σ H f0 _ en G ?_
  obtain ⟨os, Γ1, e6, p⟩ := PV.bind (r := evAs (run T k) exs Γ) p
  rw [e6]
  intro vs H1 g1 f1 r1 en1 G1 S1
  exact call_sp r1 en1 G1 S1 p
end
end VE

end
section
set_option maxHeartbeats 2000000
/-! VEk: tests. -/
namespace VE
open PySem PySem.Spec PyProof.Rows L2
variable [TC]
section
variable {T : Nat → Option Def} {k : Nat} {c : Ctx} {X : Cx}
theorem PEL.inv1 {a : Expr} {ts : List TE} (h : PEL X [a] ts) : ∃ ta, ts = [ta] ∧ PE X a ta := by
  cases h with
  | cons _ p q => cases q; exact ⟨_, rfl, p⟩
theorem PEL.inv2 {a b : Expr} {ts : List TE} (h : PEL X [a, b] ts) : ∃ ta tb, ts = [ta, tb] ∧ PE X a ta ∧ PE X b tb := by
  cases h with
  | cons _ p q =>
    cases q with
    | cons _ p2 q => cases q; exact ⟨_, _, rfl, p, p2⟩
def two (r : V → V → Hp → Prop) : List V → Hp → Prop := fun vs H => match vs with
  | [x, y] => r x y H
  | _ => False
def onev (r : V → Hp → Prop) : List V → Hp → Prop := fun vs H => match vs with
  | [x] => r x H
  | _ => False
theorem CO.un (C : CO T k c X) : X.A.units + 65 < cLine := by
  have := C.room.un
  omega
theorem PB.fin {H H1 : Hp} {f g f1 : Fp} {σ : L2.St} {Q : Bool → Hp → Prop} {b : Bool} {Γ : En} (p : PB H f σ Q (.ok b Γ)) (en : REnv H1 Γ σ f1) (G : Good (g.add f1)) (S : Step H f H1 (g.add f1)) : Q b H1 :=
  p H1 f1 en (G.le (Fp.le_addR _ _)) (S.less (Fp.le_addR _ _))
/-- the two parts of a comparison -/
theorem cmp_core {o : CmpOp} {p : OpC} {a b : Expr} {exs : List Ex} (C : CO T k c X) (ho : opOfCmp o = some p) (ha : VAs T k X exs [a, b]) :
    ∃ ta tb, PE X a ta ∧ PE X b tb ∧ ∀ Γ σ H f (Q : VK), REnv H Γ σ f → Good f → PB H f σ (fun k H' => Q (.bl k) H') ((evAs (run T k) exs Γ).bind fun os Γ1 => match fetch Γ1 exs os with
    | some [d, e] => optR Γ1 (cmpF p d e)
    | _ => .bad) → tOp (cmpR X.K p) ta tb σ H Q := by
  obtain ⟨ts, p1, l1, s1⟩ := ha
  obtain ⟨ta, tb, rfl, pa, pb⟩ := p1.inv2
  refine ⟨ta, tb, pa, pb, fun Γ σ H f Q en G q => ?_⟩
  refine s1 Γ σ H f (two fun x y H2 => cmpR X.K p x y H2 Q) en G ?_
  obtain ⟨os, Γ1, e1, q⟩ := q.bind
  rw [e1]
  intro vs H1 g1 f1 r1 en1 G1 S1
  cases hf : fetch Γ1 exs os with
  | none => rw [hf] at q; exact q.elim
  | some ds =>
    rw [hf] at q
    have ob := fetch_ok en1 r1 hf
    rcases ds with _ | ⟨d, _ | ⟨e, _ | ⟨e', ds⟩⟩⟩
    · exact q.elim
    · exact q.elim
    · obtain ⟨kk, e2, q⟩ := PB.opt q
      obtain ⟨x, y, rfl, ox, oy⟩ := ob.two
      exact cmp_sat ox oy e2 (q.fin en1 G1 S1)
    · exact q.elim
theorem t_cmp (C : CO T k c X) {o : CmpOp} {p : OpC} {a b : Expr} {pos : Pos} {exs : List Ex} (ho : opOfCmp o = some p) (hm : behindInMarks o b = false) (ha : VAs T k X exs [a, b]) : VTx T k X (.cmp p exs) (.Compare a [o] [b] pos) := by
  obtain ⟨ta, tb, pa, pb, s⟩ := cmp_core C ho ha
  refine ⟨_, pt_cmpR (cmp_rule C.un ho) pa pb hm, fun Γ σ H f Q en G q => ?_⟩
  exact s Γ σ H f (fun x H' => ∃ k, x = .bl k ∧ Q k H') en G (by
    have : ∀ r : R Bool, PB H f σ Q r → PB H f σ (fun k H' => ∃ k', V.bl k = .bl k' ∧ Q k' H') r := fun r h => by
      cases r with
      | ok b Γ => exact fun H' f' e g s => ⟨b, rfl, h H' f' e g s⟩
      | ex _ _ _ => exact h
      | bad => exact h
    exact this _ q)
theorem b_cmp (C : CO T k c X) {o : CmpOp} {p : OpC} {a b : Expr} {pos : Pos} {exs : List Ex} (ho : opOfCmp o = some p) (hm : behindInMarks o b = false) (ha : VAs T k X exs [a, b]) : VBx T k X (.cmp p exs) (.Compare a [o] [b] pos) := by
  obtain ⟨ta, tb, pa, pb, s⟩ := cmp_core C ho ha
  exact ⟨_, pe_cmpR (cmp_rule C.un ho) pa pb hm, fun Γ σ H f Q en G q => s Γ σ H f Q en G q⟩
theorem rep_flat {H H' : Hp} {d : D} {v : V} {g F : Fp} (h : flat d = true) (r : Rep H d v g) : Obs H' F d v := by
  have z : ∀ a : Addr, Fp.zero.o a ≤ F.o a ∧ Fp.zero.l a ≤ F.l a ∧ Fp.zero.s a ≤ F.s a := fun a => ⟨Nat.zero_le _, Nat.zero_le _, Nat.zero_le _⟩
  cases d with
  | non => unfold Rep at r; exact ⟨Fp.zero, by unfold Rep; exact ⟨r.1, rfl⟩, z⟩
  | bl b => unfold Rep at r; exact ⟨Fp.zero, by unfold Rep; exact ⟨r.1, rfl⟩, z⟩
  | int b => unfold Rep at r; exact ⟨Fp.zero, by unfold Rep; exact ⟨r.1, rfl⟩, z⟩
  | str b => unfold Rep at r; exact ⟨Fp.zero, by unfold Rep; exact ⟨r.1, rfl⟩, z⟩
  | gone => cases h
  | tup _ => cases h
  | lst _ _ => cases h
theorem chn_core {o o' : CmpOp} {p p' : OpC} {a b e : Expr} {exs : List Ex} {ex : Ex} (C : CO T k c X) (ho : opOfCmp o = some p) (ho' : opOfCmp o' = some p') (ha : VAs T k X exs [a, b]) (hc : VEx T k X ex e) :
    ∃ ta tb tc, PE X a ta ∧ PE X b tb ∧ PE X e tc ∧ ∀ Γ σ H f (Q : VK), REnv H Γ σ f → Good f → PB H f σ (fun k H' => Q (.bl k) H') (evT (run T k) (.chn p p' exs ex) Γ) → tChain (cmpR X.K p) (cmpR X.K p') ta tb tc σ H Q := by
  obtain ⟨ts, p1, l1, s1⟩ := ha
  obtain ⟨tc, pc, sc⟩ := hc
  obtain ⟨ta, tb, rfl, pa, pb⟩ := p1.inv2
  refine ⟨ta, tb, tc, pa, pb, pc, fun Γ σ H f Q en G q => ?_⟩
  refine s1 Γ σ H f (two fun x y H2 => cmpR X.K p x y H2 fun z H3 => ∃ k, z = .bl k ∧ (if k = true then tc σ H3 fun w' H4 => cmpR X.K p' y w' H4 Q else Q (.bl false) H3)) en G ?_
  obtain ⟨os, Γ1, e1, q⟩ := PB.bind (r := evAs (run T k) exs Γ) q
  rw [e1]
  intro vs H1 g1 f1 r1 en1 G1 S1
  cases hf : fetch Γ1 exs os with
  | none => rw [hf] at q; exact q.elim
  | some ds =>
    rw [hf] at q
    have ob := fetch_ok en1 r1 hf
    rcases ds with _ | ⟨d, _ | ⟨d2, _ | ⟨e', ds⟩⟩⟩
    · exact q.elim
    · exact q.elim
    · dsimp only at q
      by_cases hfl : flat d2 = true
      · rw [if_pos hfl] at q
        obtain ⟨kk, Γ2, e2, qq⟩ := PB.bind q
        clear q
        have e2' : cmpF p d d2 = some kk ∧ Γ2 = Γ1 := by
          cases hcm : cmpF p d d2 with
          | none => rw [hcm] at e2; cases e2
          | some z => rw [hcm] at e2; cases e2; exact ⟨rfl, rfl⟩
        obtain ⟨e3, rfl⟩ := e2'
        obtain ⟨x, y, rfl, ox, oy⟩ := ob.two
        refine cmp_sat ox oy e3 ⟨kk, rfl, ?_⟩
        have G1' : Good f1 := G1.le (Fp.le_addR _ _)
        have S1' : Step H f H1 f1 := S1.less (Fp.le_addR _ _)
        have q := qq
        by_cases hk : kk = true
        · rw [if_pos hk] at q ⊢
          refine sc Γ2 σ H1 f1 _ en1 G1' ?_
          obtain ⟨g, Γ3, e4, q⟩ := PB.bind (r := evE (run T k) ex Γ2) q
          rw [e4]
          intro w H2 g2 f2 r2 en2 G2 S2
          obtain ⟨k2, e5, q⟩ := PB.opt q
          obtain ⟨gy, ry, _⟩ := oy
          exact cmp_sat (F := g2) (rep_flat hfl ry) ⟨g2, r2, Fp.le.refl _⟩ e5 (q.fin en2 G2 (S1'.trans S2))
        · rw [if_neg hk] at q ⊢
          exact q H1 f1 en1 G1' S1'
      · rw [if_neg hfl] at q
        exact q.elim
    · exact q.elim
theorem PB.toT {H : Hp} {f : Fp} {σ : L2.St} {Q : Bool → Hp → Prop} {r : R Bool} (h : PB H f σ Q r) : PB H f σ (fun k H' => ∃ k', V.bl k = .bl k' ∧ Q k' H') r := by
  cases r with
  | ok b Γ => exact fun H' f' e g s => ⟨b, rfl, h H' f' e g s⟩
  | ex _ _ _ => exact h
  | bad => exact h
theorem t_chn (C : CO T k c X) {o o' : CmpOp} {p p' : OpC} {a b e : Expr} {pos : Pos} {exs : List Ex} {ex : Ex} (ho : opOfCmp o = some p) (ho' : opOfCmp o' = some p') (hm : lastMarks [o, o'] [b, e] = false) (ha : VAs T k X exs [a, b]) (hc : VEx T k X ex e) :
    VTx T k X (.chn p p' exs ex) (.Compare a [o, o'] [b, e] pos) := by
  obtain ⟨ta, tb, tc, pa, pb, pc, s⟩ := chn_core C ho ho' ha hc
  exact ⟨_, pt_chain (cmp_rule C.un ho) (cmp_rule C.un ho') pa pb pc hm, fun Γ σ H f Q en G q => s Γ σ H f _ en G q.toT⟩
theorem b_chn (C : CO T k c X) {o o' : CmpOp} {p p' : OpC} {a b e : Expr} {pos : Pos} {exs : List Ex} {ex : Ex} (ho : opOfCmp o = some p) (ho' : opOfCmp o' = some p') (hm : lastMarks [o, o'] [b, e] = false) (ha : VAs T k X exs [a, b]) (hc : VEx T k X ex e) :
    VBx T k X (.chn p p' exs ex) (.Compare a [o, o'] [b, e] pos) := by
  obtain ⟨ta, tb, tc, pa, pb, pc, s⟩ := chn_core C ho ho' ha hc
  exact ⟨_, pe_chain (cmp_rule C.un ho) (cmp_rule C.un ho') pa pb pc hm, fun Γ σ H f Q en G q => s Γ σ H f Q en G q⟩
theorem t_not {t : Tx} {e : Expr} {pos : Pos} (h : VTx T k X t e) : VTx T k X (.not t) (.UnaryOp .Not e pos) := by
  obtain ⟨tt, pt, s⟩ := h
  refine ⟨_, pt_not pt, fun Γ σ H f Q en G q => ?_⟩
  refine s Γ σ H f _ en G ?_
  obtain ⟨b, Γ1, e1, q⟩ := PB.bind (r := evT (run T k) t Γ) q
  rw [e1]
  exact fun H' f' en' G' S' => q H' f' en' G' S'
theorem b_not {t : Tx} {e : Expr} {pos : Pos} (h : VBx T k X t e) : VBx T k X (.not t) (.UnaryOp .Not e pos) := by
  obtain ⟨tt, pt, s⟩ := h
  refine ⟨_, pe_not pt, fun Γ σ H f Q en G q => ?_⟩
  refine s Γ σ H f _ en G ?_
  obtain ⟨b, Γ1, e1, q⟩ := PB.bind (r := evB (run T k) t Γ) q
  rw [e1]
  exact fun H' f' en' G' S' => ⟨b, rfl, q H' f' en' G' S'⟩
/-- and, or: the rest stands as a test of its own -/
def VWx (T : Nat → Option Def) (k : Nat) (X : Cx) (t : Tx) (e : Expr) : Prop := ∃ tt, PW X e tt ∧ ∀ Γ σ H f Q, REnv H Γ σ f → Good f → PB H f σ Q (evT (run T k) t Γ) → tt σ H Q
theorem VWx.t {t : Tx} {e : Expr} (h : VWx T k X t e) : VTx T k X t e := by
  obtain ⟨tt, p, s⟩ := h
  exact ⟨tt, p.pt, s⟩
theorem PB.bind_ok {H : Hp} {f : Fp} {σ : L2.St} {Q : Bool → Hp → Prop} {b : Bool} {Γ : En} {H1 : Hp} {f1 : Fp} {r : R Bool} (q : PB H f σ Q r) (S : Step H f H1 f1) : PB H1 f1 σ Q r := q.later S
theorem w_and1 {t : Tx} {e : Expr} {pos : Pos} (h : VTx T k X t e) : VWx T k X (.and [t]) (.BoolOp .And [e] pos) := by
  obtain ⟨tt, pt, s⟩ := h
  refine ⟨_, pw_and1 pt, fun Γ σ H f Q en G q => ?_⟩
  refine s Γ σ H f _ en G ?_
  obtain ⟨b, Γ1, e1, q⟩ := PB.bind (r := evT (run T k) t Γ) q
  rw [e1]
  cases b with
  | true => exact q
  | false => exact q
theorem w_or1 {t : Tx} {e : Expr} {pos : Pos} (h : VTx T k X t e) : VWx T k X (.or [t]) (.BoolOp .Or [e] pos) := by
  obtain ⟨tt, pt, s⟩ := h
  refine ⟨_, pw_or1 pt, fun Γ σ H f Q en G q => ?_⟩
  refine s Γ σ H f _ en G ?_
  obtain ⟨b, Γ1, e1, q⟩ := PB.bind (r := evT (run T k) t Γ) q
  rw [e1]
  cases b with
  | true => exact q
  | false => exact q
theorem w_and {t u : Tx} {ts : List Tx} {a b : Expr} {rest : List Expr} {pos : Pos} (h : VTx T k X t a) (h2 : VWx T k X (.and (u :: ts)) (.BoolOp .And (b :: rest) pos)) : VWx T k X (.and (t :: u :: ts)) (.BoolOp .And (a :: b :: rest) pos) := by
  obtain ⟨tt, pt, s⟩ := h
  obtain ⟨t2, pt2, s2⟩ := h2
  refine ⟨_, pw_and pt pt2, fun Γ σ H f Q en G q => ?_⟩
  refine s Γ σ H f _ en G ?_
  obtain ⟨b, Γ1, e1, q⟩ := PB.bind (r := evT (run T k) t Γ) q
  rw [e1]
  intro H1 f1 en1 G1 S1
  have q := PB.later q S1
  cases b with
  | true => exact s2 Γ1 σ H1 f1 Q en1 G1 q
  | false => exact q H1 f1 en1 G1 (Step.refl _ _)
theorem w_or {t u : Tx} {ts : List Tx} {a b : Expr} {rest : List Expr} {pos : Pos} (h : VTx T k X t a) (h2 : VWx T k X (.or (u :: ts)) (.BoolOp .Or (b :: rest) pos)) : VWx T k X (.or (t :: u :: ts)) (.BoolOp .Or (a :: b :: rest) pos) := by
  obtain ⟨tt, pt, s⟩ := h
  obtain ⟨t2, pt2, s2⟩ := h2
  refine ⟨_, pw_or pt pt2, fun Γ σ H f Q en G q => ?_⟩
  refine s Γ σ H f _ en G ?_
  obtain ⟨b, Γ1, e1, q⟩ := PB.bind (r := evT (run T k) t Γ) q
  rw [e1]
  intro H1 f1 en1 G1 S1
  have q := PB.later q S1
  cases b with
  | false => exact s2 Γ1 σ H1 f1 Q en1 G1 q
  | true => exact q H1 f1 en1 G1 (Step.refl _ _)
theorem b_and1 {t : Tx} {e : Expr} {pos : Pos} (h : VBx T k X t e) : VBx T k X (.and [t]) (.BoolOp .And [e] pos) := by
  obtain ⟨tt, pt, s⟩ := h
  exact ⟨_, pe_one pt, fun Γ σ H f Q en G q => s Γ σ H f _ en G q⟩
theorem b_or1 {t : Tx} {e : Expr} {pos : Pos} (h : VBx T k X t e) : VBx T k X (.or [t]) (.BoolOp .Or [e] pos) := by
  obtain ⟨tt, pt, s⟩ := h
  exact ⟨_, pe_one pt, fun Γ σ H f Q en G q => s Γ σ H f _ en G q⟩
theorem b_and {t u : Tx} {ts : List Tx} {a b : Expr} {rest : List Expr} {pos : Pos} (h : VBx T k X t a) (h2 : VBx T k X (.and (u :: ts)) (.BoolOp .And (b :: rest) pos)) : VBx T k X (.and (t :: u :: ts)) (.BoolOp .And (a :: b :: rest) pos) := by
  obtain ⟨tt, pt, s⟩ := h
  obtain ⟨t2, pt2, s2⟩ := h2
  refine ⟨_, pe_and pt pt2, fun Γ σ H f Q en G q => ?_⟩
  refine s Γ σ H f _ en G ?_
  obtain ⟨b, Γ1, e1, q⟩ := PB.bind (r := evB (run T k) t Γ) q
  rw [e1]
  intro H1 f1 en1 G1 S1
  have q := PB.later q S1
  refine ⟨b, rfl, ?_⟩
  cases b with
  | true => exact s2 Γ1 σ H1 f1 Q en1 G1 q
  | false => exact q H1 f1 en1 G1 (Step.refl _ _)
theorem b_or {t u : Tx} {ts : List Tx} {a b : Expr} {rest : List Expr} {pos : Pos} (h : VBx T k X t a) (h2 : VBx T k X (.or (u :: ts)) (.BoolOp .Or (b :: rest) pos)) : VBx T k X (.or (t :: u :: ts)) (.BoolOp .Or (a :: b :: rest) pos) := by
  obtain ⟨tt, pt, s⟩ := h
  obtain ⟨t2, pt2, s2⟩ := h2
  refine ⟨_, pe_or pt pt2, fun Γ σ H f Q en G q => ?_⟩
  refine s Γ σ H f _ en G ?_
  obtain ⟨b, Γ1, e1, q⟩ := PB.bind (r := evB (run T k) t Γ) q
  rw [e1]
  intro H1 f1 en1 G1 S1
  have q := PB.later q S1
  refine ⟨b, rfl, ?_⟩
  cases b with
  | false => exact s2 Γ1 σ H1 f1 Q en1 G1 q
  | true => exact q H1 f1 en1 G1 (Step.refl _ _)
theorem plainT_is {a : Expr} (h : plainT a = true) {env : Env} : ∀ whole, isTrue a env whole = (do let v ← whole; standAt a.pos; holding [v] (truthy v)) := by
  intro w
  cases a <;> first | rfl | (simp [plainT] at h)
theorem tru_sat {K : PySem.W.Frag} {H : Hp} {F : Fp} {d : D} {v : V} {b : Bool} (h : Obs H F d v) (e : truF d = some b) : TruV K v H b := by
  cases d with
  | non => cases e; rw [h.non]; rfl
  | bl b => cases e; rw [h.bl]; rfl
  | int b => cases e; rw [h.int]; rfl
  | str b => cases e
  | gone => cases e
  | tup ds =>
    cases e
    obtain ⟨a, vs, g, rfl, hr, rl, _⟩ := h.tup
    refine .inr (.inl ⟨vs, .inl hr, ?_⟩)
    have := rl.length
    cases ds <;> cases vs <;> first | rfl | (simp at this)
  | lst o ds =>
    cases e
    obtain ⟨a, vs, g, rfl, hr, rl, _⟩ := h.lst
    refine .inl ⟨vs, .inl hr, ?_⟩
    have := rl.length
    cases ds <;> cases vs <;> first | rfl | (simp at this)
theorem t_tr {a : Expr} {exs : List Ex} (hp : plainT a = true) (ha : VAs T k X exs [a]) : VTx T k X (.tr exs) a := by
  obtain ⟨ts, p1, l1, s1⟩ := ha
  obtain ⟨ta, rfl, pa⟩ := p1.inv1
  refine ⟨_, pt_truth pa (plainT_is hp), fun Γ σ H f Q en G q => ?_⟩
  refine s1 Γ σ H f (onev fun x H' => ∃ k, TruV X.K x H' k ∧ Q k H') en G ?_
  obtain ⟨os, Γ1, e1, q⟩ := PB.bind (r := evAs (run T k) exs Γ) q
  rw [e1]
  intro vs H1 g1 f1 r1 en1 G1 S1
  cases hf : fetch Γ1 exs os with
  | none => rw [hf] at q; exact q.elim
  | some ds =>
    rw [hf] at q
    have ob := fetch_ok en1 r1 hf
    rcases ds with _ | ⟨d, _ | ⟨e, ds⟩⟩
    · exact q.elim
    · obtain ⟨kk, e2, q⟩ := PB.opt q
      obtain ⟨x, rfl, ox⟩ := ob.one
      exact ⟨kk, tru_sat ox e2, q.fin en1 G1 S1⟩
    · exact q.elim
theorem b_tr {a : Expr} {exs : List Ex} (ha : VAs T k X exs [a]) : VBx T k X (.tr exs) a := by
  obtain ⟨ts, p1, l1, s1⟩ := ha
  obtain ⟨ta, rfl, pa⟩ := p1.inv1
  refine ⟨_, pa, fun Γ σ H f Q en G q => ?_⟩
  refine s1 Γ σ H f (onev Q) en G ?_
  obtain ⟨os, Γ1, e1, q⟩ := PB.bind (r := evAs (run T k) exs Γ) q
  rw [e1]
  intro vs H1 g1 f1 r1 en1 G1 S1
  cases hf : fetch Γ1 exs os with
  | none => rw [hf] at q; exact q.elim
  | some ds =>
    rw [hf] at q
    have ob := fetch_ok en1 r1 hf
    rcases ds with _ | ⟨d, _ | ⟨e, ds⟩⟩
    · exact q.elim
    · obtain ⟨x, rfl, ox⟩ := ob.one
      cases d with
      | bl b =>
        have := ox.bl
        subst this
        exact q.fin en1 G1 S1
      | _ => exact q.elim
    · cases d <;> exact False.elim q
end
end VE

end
section
set_option maxHeartbeats 2000000
/-! VEl: items, list methods, what is walked. -/
namespace VE
open PySem PySem.Spec PyProof.Rows L2
variable [TC]
section
variable {T : Nat → Option Def} {k : Nat} {c : Ctx} {X : Cx} {H : Hp} {Γ : En} {σ : L2.St} {f g : Fp} {j : Nat} {xs : List D}
/-- one's own list at a name is changed -/
theorem mut_ok (en : REnv H Γ σ f) (G : Good (g.add f)) (e : gt Γ j = some (.lst .own xs)) :
    ∃ (a : Addr) (vs : List V) (gi h : Fp), σ[j]? = some (some (.ref a)) ∧ H a = some (.lst vs) ∧ RepL H xs vs gi ∧ f = (gi.own a).add h ∧
      ∀ (ys : List D) (ws : List V) (g' gy : Fp), RepL H ys ws gy → (g'.add gy).le (g.add gi) →
        REnv (upd H a (.lst ws)) (Γ.set j (some (.lst .own ys))) σ ((gy.own a).add h) ∧ Good (g'.add ((gy.own a).add h)) ∧ Step H (g.add f) (upd H a (.lst ws)) (g'.add ((gy.own a).add h)) ∧
        ∀ d v e, Rep H d v e → e.le (g.add gi) → Rep (upd H a (.lst ws)) d v e := by
  obtain ⟨v, g0, h, e1, r, rfl, _, put⟩ := en.put (gt_some e)
  unfold Rep at r
  obtain ⟨a, vs, gi, rfl, rl, ha, rfl⟩ := r
  refine ⟨a, vs, gi, h, e1, ha, rl, rfl, fun ys ws g' gy ry le => ?_⟩
  have za : (g.add gi).at a = 0 ∧ h.at a = 0 := by
    have q := G.g a
    unfold Fp.add Fp.own at q
    simp only [one_self] at q
    have := q.2 (by omega)
    unfold Fp.at Fp.add
    simp only
    omega
  have kp : ∀ b u, H b = some u → b ≠ a → upd H a (.lst ws) b = some u := fun b u hu hb => by rw [upd_ne hb]; exact hu
  have lat : ∀ {e : Fp}, e.le (g.add gi) → e.at a = 0 := fun {e} l => by
    have := Fp.le_at l a
    omega
  have kr : ∀ d v e, Rep H d v e → e.le (g.add gi) → Rep (upd H a (.lst ws)) d v e := fun d v e r l => Rep.mono d r fun b u hu p => kp b u hu fun z => by
    subst z
    have := lat l
    omega
  have lgy : gy.le (g.add gi) := (Fp.le_addR _ _).trans le
  have ry' : RepL (upd H a (.lst ws)) ys ws gy := RepL.mono ys ry fun b u hu p => kp b u hu fun z => by
    subst z
    have := lat lgy
    omega
  have en1 : REnv H (Γ.set j (some .gone)) σ h := by
    have := put .gone Fp.zero (by unfold Rep; rfl)
    rw [Fp.zero_add] at this
    exact this
  have en2 : REnv (upd H a (.lst ws)) (Γ.set j (some .gone)) σ h := en1.mono (fun b u hu p => kp b u hu fun z => by
    subst z
    omega) (tabs_upd ha)
  have hj : j < Γ.length := (List.getElem?_eq_some_iff.mp (gt_some e)).1
  obtain ⟨v3, g3, h3, e3, r3, e4, _, put3⟩ := en2.put (i := j) (d := .gone) (by rw [List.getElem?_set_self hj])
  rw [e1] at e3
  cases e3
  unfold Rep at r3
  subst r3
  rw [Fp.zero_add] at e4
  subst e4
  refine ⟨?_, ⟨fun b => ?_⟩, ⟨fun b u hu z _ => kp b u hu fun w => ?_, tabs_upd ha, fun b p => .inl ?_, fun b p => .inl ?_, fun b p => .inl ?_⟩, kr⟩
  · have := put3 (.lst .own ys) (gy.own a) (by unfold Rep; exact ⟨a, ws, gy, rfl, ry', upd_same, rfl⟩)
    rw [List.set_set] at this
    exact this
  · have q := G.g b
    have l := le b
    unfold Fp.add Fp.own at q
    unfold Fp.add at l
    unfold Fp.add Fp.own
    simp only at q l ⊢
    refine ⟨by omega, fun p => ?_⟩
    have := q.2 (by omega)
    omega
  · subst w
    unfold Fp.add Fp.own at z
    simp only [one_self] at z
    omega
  · have l := le b
    unfold Fp.add at l
    unfold Fp.add Fp.own at p ⊢
    simp only at p l ⊢
    omega
  · have l := le b
    unfold Fp.add at l
    unfold Fp.add Fp.own at p ⊢
    simp only at p l ⊢
    omega
  · have l := le b
    unfold Fp.add at l
    unfold Fp.add Fp.own at p ⊢
    simp only at p l ⊢
    omega
theorem isL_at (h : isL Γ j = true) : ∃ o xs, gt Γ j = some (.lst o xs) := by
  unfold isL at h
  split at h
  · exact ⟨_, _, by assumption⟩
  · cases h
/-- a list stands at j -/
theorem isL_ty {K : PySem.W.Frag} (en : REnv H Γ σ f) (h : isL Γ j = true) : ∃ v, σ[j]? = some (some v) ∧ tyV K "list" v H := by
  obtain ⟨o, xs, e⟩ := isL_at h
  obtain ⟨v, g0, h, e1, r, rfl, _, put⟩ := en.put (gt_some e)
  obtain ⟨a, vs, g, rfl, hr, _⟩ := Obs.lst (F := g0) ⟨g0, r, Fp.le.refl _⟩
  exact ⟨_, e1, .inl ⟨rfl, vs, .inl hr⟩⟩
/-! ### methods -/
theorem lm0 (C : CO T k c X) {x name : Str} {id : String} {p1 apos cpos : Pos} {r : V → List V → Hp → VK → Prop} (hv : vis c j x = true) (slot : Slot "list" name id) (hty : typeOf (.builtin id) = pure (.type "method_descriptor")) (hm : MtR X id r)
    (hl : (apos.endLine == cpos.line) = true) : PE X (.Call (.Attribute (.Name x p1) name apos) [] [] cpos) (tBM0 X.K "list" r (tVar j)) :=
  pe_bm0 PySem.F.plainAttrs_list slot hty hm (C.pv hv) rfl hl
theorem PEL.few {X : Cx} {cpos : Pos} : ∀ {es : List Expr} {ts : List TE}, PEL X es ts → (backTo cpos (starEach es X.env)).all (fun x => !x.1) = true
  | _, _, .nil => rfl
  | _, _, .cons (es := es) h1 h2 h3 => by
    have ih := PEL.few (cpos := cpos) h3
    rw [starEach_cons h1]
    unfold backTo at ih ⊢
    rw [List.map_cons, List.all_cons, ih]
    rfl
theorem lm1 (C : CO T k c X) {x name : Str} {id : String} {p1 apos cpos : Pos} {r : V → List V → Hp → VK → Prop} {e : Expr} {es : List Expr} {ts : List TE} (hv : vis c j x = true) (slot : Slot "list" name id) (hty : typeOf (.builtin id) = pure (.type "method_descriptor")) (hm : MtR X id r)
    (hl : (apos.endLine == cpos.line) = true) (hn : es.length < 20) (ha : PEL X (e :: es) ts) : PE X (.Call (.Attribute (.Name x p1) name apos) (e :: es) [] cpos) (tBM X.K "list" r (tVar j) (tL ts)) := by
  have n1 : noStar e = true := by cases ha; assumption
  have pl : (backTo cpos (starEach es X.env)).any (·.1) = false := by
    cases ha with
    | cons _ _ q => exact q.plain
  refine pe_bm PySem.F.plainAttrs_list slot hty hm (C.pv hv) ha.pa rfl ?_ hl (starEach_cons n1) pl
  rw [ha.few]
  have : decide ((e :: es).length + ([] : List Keyword).length + (if ([] : List Keyword).isEmpty then 0 else 1) < 30) = true := by
    apply decide_eq_true
    show es.length + 1 + 0 + 0 < 30
    omega
  rw [this]
  rfl
theorem l_pop (C : CO T k c X) {x : Str} {p1 apos cpos : Pos} (hv : vis c j x = true) (hl : (apos.endLine == cpos.line) = true) : VEx T k X (.pop j) (.Call (.Attribute (.Name x p1) "pop" apos) [] [] cpos) := by
  refine ⟨_, lm0 C hv PySem.F.slot_list_pop PySem.F.type_list_pop mt_pop hl, fun Γ σ H f Q en G p => ?_⟩
  have p : PV H f σ Q (match gt Γ j with
    | some (.lst .own xs) => match xs.getLast? with
      | some d => .ok d (Γ.set j (some (.lst .own xs.dropLast)))
      | none => .bad
    | _ => .bad) := p
  split at p
  · rename_i xs e
    split at p
    · rename_i d el
      obtain ⟨v, ev, ty⟩ := isL_ty (K := X.K) en (j := j) (by unfold isL; rw [e])
      have G0 : Good (Fp.zero.add f) := by rw [Fp.zero_add]; exact G
      obtain ⟨a, vs, gi, h, ev', ha, rl, rfl, up⟩ := mut_ok en G0 e
      rw [ev] at ev'
      cases ev'
      refine ⟨.ref a, ev, ty, a, vs, ?_⟩
      have hlen := rl.length
      have ei : xs[xs.length - 1]? = some d := by rw [← List.getLast?_eq_getElem?]; exact el
      obtain ⟨w, gd, gr, ew, rd, rfl, rr, _⟩ := rl.get ei
      refine ⟨w, rfl, rfl, ha, by rw [← hlen]; exact ew, ?_⟩
      have rr' : RepL H xs.dropLast vs.dropLast gr := by
        rw [List.eraseIdx_eq_dropLast (by have := (List.getElem?_eq_some_iff.mp ei).1; omega), List.eraseIdx_eq_dropLast (by have := (List.getElem?_eq_some_iff.mp ew).1; omega)] at rr
        exact rr
      obtain ⟨u1, u2, u3, u4⟩ := up _ _ gd gr rr' (by rw [Fp.zero_add]; exact Fp.le.refl _)
      rw [Fp.zero_add] at u3
      exact p w _ gd _ (u4 _ _ _ rd (by rw [Fp.zero_add]; exact Fp.le_addL _ _)) u1 u2 u3
    · exact p.elim
  · exact p.elim
theorem Step.zero {H H' : Hp} {f f' : Fp} (S : Step H f H' (Fp.zero.add f')) : Step H f H' f' := by
  rw [Fp.zero_add] at S
  exact S
theorem l_popAt (C : CO T k c X) {x : Str} {p1 apos cpos : Pos} {ex : Ex} {e : Expr} (hv : vis c j x = true) (hl : (apos.endLine == cpos.line) = true) (hn : noStar e = true) (h : VEx T k X ex e) :
    VEx T k X (.popAt j ex) (.Call (.Attribute (.Name x p1) "pop" apos) [e] [] cpos) := by
  obtain ⟨te, pe, s⟩ := h
  refine ⟨_, lm1 C hv PySem.F.slot_list_pop PySem.F.type_list_pop mt_popAt hl (by decide) (.cons hn pe .nil), fun Γ σ H f Q en G p => ?_⟩
  have p : PV H f σ Q (if isL Γ j = true then (evE (run T k) ex Γ).bind fun n Γ1 => match n, gt Γ1 j with
    | .int n, some (.lst .own xs) => if 0 ≤ n ∧ n ≤ 1000000 then match xs[n.toNat]? with
      | some d => .ok d (Γ1.set j (some (.lst .own (xs.eraseIdx n.toNat))))
      | none => .bad
      else .bad
    | _, _ => .bad
    else .bad) := p
  by_cases hi : isL Γ j = true
  · rw [if_pos hi] at p
    obtain ⟨v, ev, ty⟩ := isL_ty (K := X.K) en hi
    refine ⟨v, ev, ty, s Γ σ H f _ en G ?_⟩
    obtain ⟨n, Γ1, e1, p⟩ := p.bind
    rw [e1]
    intro y H1 g1 f1 r1 en1 G1 S1
    split at p
    · rename_i n xs e2
      split at p
      · rename_i hb
        split at p
        · rename_i d e3
          unfold Rep at r1
          obtain ⟨rfl, rfl⟩ := r1
          obtain ⟨a, vs, gi, h, ev', ha, rl, rfl, up⟩ := mut_ok en1 G1 e2
          rw [ev] at ev'
          cases ev'
          obtain ⟨w, gd, gr, ew, rd, rfl, rr, _⟩ := rl.get e3
          have hlt := (List.getElem?_eq_some_iff.mp ew).1
          obtain ⟨u1, u2, u3, u4⟩ := up _ _ gd gr rr (by rw [Fp.zero_add]; exact Fp.le.refl _)
          refine ⟨a, vs, n, n.toNat, w, rfl, rfl, ha, by omega, by omega, ?_, ew, ?_⟩
          · exact seqIndex_of hb.1 (by omega)
          · exact p w _ gd _ (u4 _ _ _ rd (by rw [Fp.zero_add]; exact Fp.le_addL _ _)) u1 u2 (S1.trans u3)
        · exact p.elim
      · exact p.elim
    · exact p.elim
  · rw [if_neg hi] at p
    exact p.elim
theorem l_index (C : CO T k c X) {x : Str} {p1 apos cpos : Pos} {ex : Ex} {e : Expr} (hv : vis c j x = true) (hl : (apos.endLine == cpos.line) = true) (hn : noStar e = true) (h : VEx T k X ex e) :
    VEx T k X (.index j ex) (.Call (.Attribute (.Name x p1) "index" apos) [e] [] cpos) := by
  obtain ⟨te, pe, s⟩ := h
  refine ⟨_, lm1 C hv PySem.F.slot_list_index PySem.F.type_list_index mt_index hl (by decide) (.cons hn pe .nil), fun Γ σ H f Q en G p => ?_⟩
  have p : PV H f σ Q (if isL Γ j = true then (evE (run T k) ex Γ).bind fun d Γ1 => optR Γ1 ((gt Γ1 j).bind fun c => indexF c d) else .bad) := p
  by_cases hi : isL Γ j = true
  · rw [if_pos hi] at p
    obtain ⟨v, ev, ty⟩ := isL_ty (K := X.K) en hi
    refine ⟨v, ev, ty, s Γ σ H f _ en G ?_⟩
    obtain ⟨d, Γ1, e1, p⟩ := p.bind
    rw [e1]
    intro y H1 g1 f1 r1 en1 G1 S1
    obtain ⟨z, e2, p⟩ := p.opt
    obtain ⟨cc, e3, e4⟩ := Option.bind_eq_some_iff.mp e2
    obtain ⟨v', g0, h0, e5, r0, e6, _⟩ := en1.put (gt_some e3)
    rw [ev] at e5
    cases e5
    refine index_sat (F := g1.add f1) (e := d) ⟨g0, r0, ?_⟩ ⟨g1, r1, Fp.le_addL _ _⟩ e4 (p.res en1 (Rep.dom d r1) G1 S1)
    rw [e6]
    exact (Fp.le_addL _ _).trans (Fp.le_addR _ _)
  · rw [if_neg hi] at p
    exact p.elim
structure FrzR (g0 g1 gi : Fp) : Prop where
  o : ∀ b, g1.o b ≤ g0.o b
  l : ∀ b, g1.l b ≤ g0.l b
  a : ∀ b, g1.o b + g1.l b + g1.s b = g0.o b + g0.l b + g0.s b
  s : ∀ b, 0 < gi.o b + gi.l b + gi.s b → 0 < g1.s b
  h : ∀ b, gi.o b + gi.l b + gi.s b ≤ g0.o b + g0.l b + g0.s b
  os : ∀ b, gi.s b ≤ g0.s b
theorem frz_lst {o : Fl} {v : V} {g0 : Fp} (r : Rep H (.lst o xs) v g0) : ∃ (a : Addr) (vs : List V) (gi g1 : Fp), v = .ref a ∧ (Rd H a (.lst vs) ∨ Rd H a (.tup vs)) ∧ RepL H xs vs gi ∧ Rep H (.lst o (frzL xs)) v g1 ∧ FrzR g0 g1 gi := by
  cases o with
  | own =>
    unfold Rep at r
    obtain ⟨a, vs, gi, rfl, rl, hr, rfl⟩ := r
    refine ⟨a, vs, gi, gi.shr.own a, rfl, .inl (.inl hr), rl, by unfold Rep; exact ⟨a, vs, _, rfl, RepL.frz xs rl, hr, rfl⟩, ⟨fun b => ?_, fun b => ?_, fun b => ?_, fun b => ?_, fun b => ?_, fun b => ?_⟩⟩
    all_goals (simp only [Fp.own, Fp.shr]; omega)
  | lent =>
    unfold Rep at r
    obtain ⟨a, vs, gi, rfl, rl, hr, rfl⟩ := r
    refine ⟨a, vs, gi, gi.shr.lent a, rfl, .inl (.inl hr), rl, by unfold Rep; exact ⟨a, vs, _, rfl, RepL.frz xs rl, hr, rfl⟩, ⟨fun b => ?_, fun b => ?_, fun b => ?_, fun b => ?_, fun b => ?_, fun b => ?_⟩⟩
    all_goals (simp only [Fp.lent, Fp.shr]; omega)
  | shr =>
    unfold Rep at r
    obtain ⟨a, vs, gi, rfl, rl, z, hr, rfl⟩ := r
    refine ⟨a, vs, gi, gi.shr.sh a, rfl, .inl hr, rl, by unfold Rep; exact ⟨a, vs, _, rfl, RepL.frz xs rl, fun _ => ⟨rfl, rfl⟩, hr, rfl⟩, ⟨fun b => ?_, fun b => ?_, fun b => ?_, fun b => ?_, fun b => ?_, fun b => ?_⟩⟩
    all_goals (simp only [Fp.sh, Fp.shr]; omega)
theorem frz_tup {v : V} {g0 : Fp} (r : Rep H (.tup xs) v g0) : ∃ (a : Addr) (vs : List V) (gi g1 : Fp), v = .ref a ∧ (Rd H a (.lst vs) ∨ Rd H a (.tup vs)) ∧ RepL H xs vs gi ∧ Rep H (.tup (frzL xs)) v g1 ∧ FrzR g0 g1 gi := by
  unfold Rep at r
  obtain ⟨a, vs, gi, rfl, rl, hr, rfl⟩ := r
  refine ⟨a, vs, gi, gi.shr.sh a, rfl, .inr hr, rl, by unfold Rep; exact ⟨a, vs, _, rfl, RepL.frz xs rl, hr, rfl⟩, ⟨fun b => ?_, fun b => ?_, fun b => ?_, fun b => ?_, fun b => ?_, fun b => ?_⟩⟩
  all_goals (simp only [Fp.sh, Fp.shr]; omega)
/-- .. one of them is read -/
theorem frz_at {F : Fp} {gi g0 g1 gd : Fp} (G : Good (g0.add F)) (hd : gd.le gi) (h : FrzR g0 g1 gi) : Good (gd.shr.add (g1.add F)) ∧ Step H (g0.add F) H (gd.shr.add (g1.add F)) := by
  refine ⟨⟨fun b => ?_⟩, ⟨fun _ _ x _ _ => x, fun x => x, fun b p => .inl ?_, fun b p => .inl ?_, fun b p => .inl ?_⟩⟩
  all_goals
    have q := G.g b
    have l := hd b
    have e1 := h.h b
    have e2 := h.o b
    have e3 := h.l b
    have e4 := h.a b
    have e5 := h.s b
    simp only [Fp.add, Fp.shr] at *
  · refine ⟨by omega, fun p => ?_⟩
    have q2 := q.2 (by omega)
    have : ¬ 0 < gi.o b + gi.l b + gi.s b := fun z => by
      have := e5 z
      omega
    omega
  · omega
  · omega
  · omega
theorem read_at {F : Fp} {gi g0 g1 gd : Fp} (G : Good (g0.add F)) (hd : gd.le gi) (h : FrzR g0 g1 gi) (z : ∀ a, gd.o a = 0 ∧ gd.l a = 0) : Good (gd.add (g0.add F)) ∧ Step H (g0.add F) H (gd.add (g0.add F)) := by
  refine ⟨⟨fun b => ?_⟩, ⟨fun _ _ x _ _ => x, fun x => x, fun b p => .inl ?_, fun b p => .inl ?_, fun b p => .inl ?_⟩⟩
  all_goals
    have q := G.g b
    have l := hd b
    have zb := z b
    have e1 := h.os b
    simp only [Fp.add] at *
  · refine ⟨by omega, fun p => ?_⟩
    have q2 := q.2 (by omega)
    omega
  · omega
  · omega
  · omega
theorem item_ok {F g0 : Fp} {d : D} {n : Int} {v : V} {H0 : Hp} {f0 : Fp} {K : PySem.W.Frag} {Q : VK} {Γ1 Γ2 : En} (G : Good (g0.add F)) (S : Step H0 f0 H (g0.add F))
    (fz : ∃ (a : Addr) (vs : List V) (gi g1 : Fp), v = .ref a ∧ (Rd H a (.lst vs) ∨ Rd H a (.tup vs)) ∧ RepL H xs vs gi ∧ REnv H Γ2 σ (g1.add F) ∧ FrzR g0 g1 gi) (en : REnv H Γ1 σ (g0.add F)) (e3 : ixD xs n = some d)
    (p : PV H0 f0 σ Q (if dup d = true then .ok d Γ1 else .ok (frz d) Γ2)) : rIx K v (.int n) H Q := by
  obtain ⟨a, vs, gi, g1, rfl, hr, rl, en2, fr⟩ := fz
  obtain ⟨m, m1, m2⟩ := ixD_at rl.length e3
  obtain ⟨w, gd, ew, rd, ld⟩ := rl.get' m1
  refine rIx_of hr (m2 w ew) ?_
  by_cases hd : dup d = true
  · rw [if_pos hd] at p
    obtain ⟨k1, k2⟩ := read_at (H := H) G ld fr (Rep.dup d rd hd)
    exact p w H gd _ rd en k1 (S.trans k2)
  · rw [if_neg hd] at p
    obtain ⟨k1, k2⟩ := frz_at (H := H) G ld fr
    exact p w H gd.shr _ (Rep.frz d rd) en2 k1 (S.trans k2)
theorem l_idxF (C : CO T k c X) {x : Str} {p1 pos : Pos} {ex : Ex} {e : Expr} (hv : vis c j x = true) (hn : noSlice e = true) (h : VEx T k X ex e) : VEx T k X (.idxF j ex) (.Subscript (.Name x p1) e pos) := by
  obtain ⟨te, pe, s⟩ := h
  refine ⟨tOp (rIx X.K) (tVar j) te, pe_ix ix_seq (C.pv hv) pe (plainIx hn), fun Γ σ H f Q en G p => ?_⟩
  have p : PV H f σ Q (if (gt Γ j).isSome = true then (evE (run T k) ex Γ).bind fun k Γ1 => match k, gt Γ1 j with
    | .int k, some (.lst o xs) => match ixD xs k with
      | some d => if dup d = true then .ok d Γ1 else .ok (frz d) (Γ1.set j (some (.lst o (frzL xs))))
      | none => .bad
    | .int k, some (.tup xs) => match ixD xs k with
      | some d => if dup d = true then .ok d Γ1 else .ok (frz d) (Γ1.set j (some (.tup (frzL xs))))
      | none => .bad
    | _, _ => .bad
    else .bad) := p
  by_cases hg : (gt Γ j).isSome = true
  · rw [if_pos hg] at p
    obtain ⟨d0, hd0⟩ := some_of hg
    obtain ⟨v, g, h', ev, _, _, _⟩ := en.put (gt_some hd0)
    refine ⟨v, ev, s Γ σ H f _ en G ?_⟩
    obtain ⟨n, Γ1, e1, p⟩ := p.bind
    rw [e1]
    intro y H1 g1 f1 r1 en1 G1 S1
    split at p
    · rename_i n o xs e2
      unfold Rep at r1
      obtain ⟨rfl, rfl⟩ := r1
      rw [Fp.zero_add] at G1 S1
      obtain ⟨v', g0, h0, e5, r0, rfl, _, put⟩ := en1.put (gt_some e2)
      rw [ev] at e5
      cases e5
      split at p
      · rename_i d e3
        obtain ⟨a, vs, gi, g1, q1, q2, q3, q4, q5⟩ := frz_lst r0
        exact item_ok G1 S1 ⟨a, vs, gi, g1, q1, q2, q3, put _ _ q4, q5⟩ en1 e3 p
      · exact p.elim
    · rename_i n xs e2
      unfold Rep at r1
      obtain ⟨rfl, rfl⟩ := r1
      rw [Fp.zero_add] at G1 S1
      obtain ⟨v', g0, h0, e5, r0, rfl, _, put⟩ := en1.put (gt_some e2)
      rw [ev] at e5
      cases e5
      split at p
      · rename_i d e3
        obtain ⟨a, vs, gi, g1, q1, q2, q3, q4, q5⟩ := frz_tup r0
        exact item_ok G1 S1 ⟨a, vs, gi, g1, q1, q2, q3, put _ _ q4, q5⟩ en1 e3 p
      · exact p.elim
    · exact p.elim
  · rw [if_neg hg] at p
    exact p.elim

/-! ### moved out -/
theorem l_mv (C : CO T k c X) {i : Nat} {x : Str} {pos : Pos} (h : vis c i x = true) : VEx T k X (.mv i) (.Name x pos) := by
  refine ⟨_, C.pv h, fun Γ σ H f Q e G p => ?_⟩
  have p : PV H f σ Q (match gt Γ i with
    | some d => .ok d (Γ.set i none)
    | none => .bad) := p
  cases hg : gt Γ i with
  | none => rw [hg] at p; exact p.elim
  | some d =>
    rw [hg] at p
    obtain ⟨v, g, h', e1, r, rfl, en0, _⟩ := e.put (gt_some hg)
    exact ⟨v, e1, p v H g h' r en0 G (Step.refl _ _)⟩
theorem atI_nat {α : Type} {xs : List α} {n : Int} {w : α} (h : 0 ≤ n) (e : xs[n.toNat]? = some w) : atI xs n = some w := by
  unfold atI ixN
  have : n.toNat < xs.length := (List.getElem?_eq_some_iff.mp e).1
  rw [if_pos h, if_pos (by omega)]
  exact e
theorem mvI_item {F g0 : Fp} {d : D} {n : Int} {v : V} {H0 : Hp} {f0 : Fp} {K : PySem.W.Frag} {Q : VK} {Γ2 : En} (hn : 0 ≤ n) (G : Good (g0.add F)) (S : Step H0 f0 H (g0.add F)) {a : Addr} {vs : List V} {gi : Fp} (hv : v = .ref a) (hr : Rd H a (.lst vs) ∨ Rd H a (.tup vs)) (rl : RepL H xs vs gi) (e3 : xs[n.toNat]? = some d)
    (put : ∀ gr, RepL H (xs.set n.toNat .gone) vs gr → gr.le gi → ∃ g1 : Fp, REnv H Γ2 σ (g1.add F) ∧ ∀ gd : Fp, gi = gd.add gr → Good (gd.add (g1.add F)) ∧ Step H (g0.add F) H (gd.add (g1.add F)))
    (p : PV H0 f0 σ Q (.ok d Γ2)) : rIx K v (.int n) H Q := by
  subst hv
  obtain ⟨w, gd, gr, ew, rd, eg, _, st⟩ := rl.get e3
  have rg := st .gone w Fp.zero (by unfold Rep; rfl)
  rw [Fp.zero_add, set_self ew] at rg
  obtain ⟨g1, en, hh⟩ := put gr rg (by rw [eg]; exact Fp.le_addR _ _)
  obtain ⟨k1, k2⟩ := hh gd eg
  exact rIx_of hr (atI_nat hn ew) (p w H gd _ rd en k1 (S.trans k2))
theorem l_mvI (C : CO T k c X) {x : Str} {p1 pos : Pos} {ex : Ex} {e : Expr} (hv : vis c j x = true) (hn : noSlice e = true) (h : VEx T k X ex e) : VEx T k X (.mvI j ex) (.Subscript (.Name x p1) e pos) := by
  obtain ⟨te, pe, s⟩ := h
  refine ⟨tOp (rIx X.K) (tVar j) te, pe_ix ix_seq (C.pv hv) pe (plainIx hn), fun Γ σ H f Q en G p => ?_⟩
  have p : PV H f σ Q (if (gt Γ j).isSome = true then (evE (run T k) ex Γ).bind fun k Γ1 => match k, gt Γ1 j with
    | .int k, some (.lst .own xs) => if 0 ≤ k then match xs[k.toNat]? with
      | some d => .ok d (Γ1.set j (some (.lst .own (xs.set k.toNat .gone))))
      | none => .bad
      else .bad
    | .int k, some (.tup xs) => if 0 ≤ k then match xs[k.toNat]? with
      | some d => .ok d (Γ1.set j (some (.tup (xs.set k.toNat .gone))))
      | none => .bad
      else .bad
    | _, _ => .bad
    else .bad) := p
  by_cases hg : (gt Γ j).isSome = true
  · rw [if_pos hg] at p
    obtain ⟨d0, hd0⟩ := some_of hg
    obtain ⟨v, g, h', ev, _, _, _⟩ := en.put (gt_some hd0)
    refine ⟨v, ev, s Γ σ H f _ en G ?_⟩
    obtain ⟨n, Γ1, e1, p⟩ := p.bind
    rw [e1]
    intro y H1 g1 f1 r1 en1 G1 S1
    split at p
    · rename_i n xs e2
      unfold Rep at r1
      obtain ⟨rfl, rfl⟩ := r1
      rw [Fp.zero_add] at G1 S1
      obtain ⟨v', g0, h0, e5, r0, rfl, _, put⟩ := en1.put (gt_some e2)
      rw [ev] at e5
      cases e5
      split at p
      · rename_i hn0
        split at p
        · rename_i d e3
          unfold Rep at r0
          obtain ⟨a, vs, gi, rfl, rl, hr, rfl⟩ := r0
          refine mvI_item hn0 G1 S1 rfl (.inl (.inl hr)) rl e3 (fun gr rg lg => ⟨gr.own a, put _ _ (by unfold Rep; exact ⟨a, vs, gr, rfl, rg, hr, rfl⟩), fun gd eg => ?_⟩) p
          subst eg
          have ee : gd.add ((gr.own a).add h0) = ((gd.add gr).own a).add h0 := Fp.ext' (fun b => by simp only [Fp.add, Fp.own]; omega) (fun b => by simp only [Fp.add, Fp.own]; omega) fun b => by simp only [Fp.add, Fp.own]; omega
          rw [ee]
          exact ⟨G1, Step.refl _ _⟩
        · exact p.elim
      · exact p.elim
    · rename_i n xs e2
      unfold Rep at r1
      obtain ⟨rfl, rfl⟩ := r1
      rw [Fp.zero_add] at G1 S1
      obtain ⟨v', g0, h0, e5, r0, rfl, _, put⟩ := en1.put (gt_some e2)
      rw [ev] at e5
      cases e5
      split at p
      · rename_i hn0
        split at p
        · rename_i d e3
          unfold Rep at r0
          obtain ⟨a, vs, gi, rfl, rl, hr, rfl⟩ := r0
          refine mvI_item hn0 G1 S1 rfl (.inr hr) rl e3 (fun gr rg lg => ⟨gr.sh a, put _ _ (by unfold Rep; exact ⟨a, vs, gr, rfl, rg, hr, rfl⟩), fun gd eg => ?_⟩) p
          subst eg
          have ee : gd.add ((gr.sh a).add h0) = ((gd.add gr).sh a).add h0 := Fp.ext' (fun b => by simp only [Fp.add, Fp.sh]; omega) (fun b => by simp only [Fp.add, Fp.sh]; omega) fun b => by simp only [Fp.add, Fp.sh]; omega
          rw [ee]
          exact ⟨G1, Step.refl _ _⟩
        · exact p.elim
      · exact p.elim
    · exact p.elim
  · rw [if_neg hg] at p
    exact p.elim

/-! ### what is walked -/
def iSeq (K : PySem.W.Frag) (tl : TE) : TI := fun σ H R => tl σ H fun x H1 => (∃ a, x = .ref a ∧ (∃ xs, SqL K H1 a xs) ∧ R (Itl K a) H1) ∨ (∃ a, x = .ref a ∧ (∃ xs, SqT K H1 a xs) ∧ R (Itt K a) H1)
theorem pi_seq {X : Cx} {tg l : Expr} {tl : TE} (hl : PE X l tl) : PI X tg l (iSeq X.K tl) := by
  refine ⟨fun pins s σ H R I h => ?_⟩
  refine thn (hl.run pins s σ H _ I h) fun v s1 ⟨x, H1, I1, r1, q1⟩ => ?_
  rcases q1 with ⟨a, e, ⟨xs, hq⟩, q⟩ | ⟨a, e, ⟨xs, hq⟩, q⟩
  · subst e
    cases r1
    obtain ⟨its, rv, p, hz⟩ := I1.list hq
    refine wpAny_pyIter_list p.isList ?_
    refine ⟨s1.heap.objs.size, [s1.heap.objs.size], _, _, H1, rfl, I1.kept (t' := s1.toks) fun b o e => Heap.get?_push_of_some _ e, turn_list a _, ⟨_, Heap.get?_push_size _ rfl, rfl, rfl⟩, fun b hb => ?_, q⟩
    have e : b = s1.heap.objs.size := by simpa using hb
    subst e
    exact I1.fpOk (Nat.le_refl _) (I1.hok.fresh (Nat.le_refl _))
  · subst e
    cases r1
    obtain ⟨its, rv, p, hz⟩ := I1.tuple hq
    refine wpAny_pyIter_tuple (show s1.heap.IsTuple a its.toArray from p) ?_
    refine ⟨s1.heap.objs.size, [s1.heap.objs.size], _, _, H1, rfl, I1.kept (t' := s1.toks) fun b o e => Heap.get?_push_of_some _ e, turn_tuple a _, ⟨_, Heap.get?_push_size _ rfl, rfl, rfl⟩, fun b hb => ?_, q⟩
    have e : b = s1.heap.objs.size := by simpa using hb
    subst e
    exact I1.fpOk (Nat.le_refl _) (I1.hok.fresh (Nat.le_refl _))
theorem walk_R {K : PySem.W.Frag} {F : Fp} {d : D} {v : V} {R' : L2.It → Hp → Prop} (w : WkOk K H f F d v xs) (h : ∀ J vs g, (∀ b, 0 < g.s b → 0 < F.at b) → Walks K H f J xs vs g → R' J H) :
    (∃ a, v = .ref a ∧ (∃ xs, SqL K H a xs) ∧ R' (Itl K a) H) ∨ (∃ a, v = .ref a ∧ (∃ xs, SqT K H a xs) ∧ R' (Itt K a) H) := by
  obtain ⟨a, vs, g, rfl, hg, ⟨o, ys, _, hr, w⟩ | ⟨ys, _, hr, w⟩⟩ := w
  · exact .inl ⟨a, rfl, ⟨vs, .inl hr⟩, h _ vs g hg w⟩
  · exact .inr ⟨a, rfl, ⟨vs, .inl hr⟩, h _ vs g hg w⟩
/-- the items beside what is held -/
theorem Walks.beside {K : PySem.W.Frag} {H0 : Hp} {f0 F : Fp} {J : L2.It} {vs : List V} (w : Walks K H f J xs vs g) (S1 : Step H0 f0 H f) (S : Step H0 f0 H F) (hg : ∀ b, 0 < g.s b → 0 < F.at b) : Step H0 f0 H (g.add f) := by
  refine ⟨S1.frame, S1.tab, fun b p => S1.own b ?_, fun b p => S1.lent b ?_, fun b p => ?_⟩
  · have := (w.sh b).1
    simp only [Fp.add] at p
    omega
  · have := (w.sh b).2
    simp only [Fp.add] at p
    omega
  · have q1 := hg b
    have so := S.own b
    have sl := S.lent b
    have ss := S.shr b
    have s1 := S1.shr b
    simp only [Fp.add] at p
    by_cases y : 0 < g.s b
    · have := q1 y
      unfold Fp.at at this
      by_cases y1 : 0 < F.o b
      · rcases so y1 with z | z
        · exact .inl (by omega)
        · exact .inr z
      · by_cases y2 : 0 < F.l b
        · rcases sl y2 with z | z
          · exact .inl (by omega)
          · exact .inr z
        · exact ss (by omega)
    · exact s1 (by omega)
theorem evI_seq {cf : CF} {ex : Ex} (h : isVal ex = true) : evI cf (.seq ex) Γ = (evE cf ex Γ).bind fun d Γ1 => optR Γ1 (walk? d) := by
  cases ex <;> first | (simp [isVal] at h; done) | rfl
theorem lendI_seq {ex : Ex} (h : isVal ex = true) : lendI Γ (.seq ex) = Γ := by
  cases ex <;> first | (simp [isVal] at h; done) | rfl
theorem PI'.opt {K : PySem.W.Frag} {it : It} {Q : L2.It → Hp → Prop} {o : Option (List D)} (h : PI' K H f σ it Q (optR Γ o)) : ∃ d, o = some d ∧ PI' K H f σ it Q (.ok d Γ) := by
  cases o with
  | some d => exact ⟨d, rfl, h⟩
  | none => exact h.elim
theorem i_pk (C : CO T k c X) {x : Str} {tg : Expr} {pos : Pos} (hv : vis c j x = true) : VIx T k X (.seq (.pk j)) tg (.Name x pos) := by
  refine ⟨_, pi_seq (C.pv hv), fun Γ σ H f R' en G p => ?_⟩
  obtain ⟨xs, e, p⟩ := PI'.opt (o := (gt Γ j).bind walk?) p
  obtain ⟨d, e1, e2⟩ := Option.bind_eq_some_iff.mp e
  obtain ⟨v, f', ev, en', G', S', w⟩ := lend_ok (K := X.K) en G e1 e2
  refine ⟨v, ev, walk_R w fun J vs g hg ww => ?_⟩
  exact p J H f f' vs g en G (Step.refl _ _) en' G' S' ww (ww.beside S' (Step.refl _ _) hg)
theorem i_seq {ex : Ex} {tg e : Expr} (hv : isVal ex = true) (h : VEx T k X ex e) : VIx T k X (.seq ex) tg e := by
  obtain ⟨te, pe, s⟩ := h
  refine ⟨_, pi_seq pe, fun Γ σ H f R' en G p => ?_⟩
  rw [evI_seq hv] at p
  refine s Γ σ H f _ en G ?_
  obtain ⟨d, Γ1, e1, p⟩ := p.bind
  rw [e1]
  intro v H1 g1 f1 r1 en1 G1 S1
  obtain ⟨xs, e2, p⟩ := PI'.opt p
  have G1' : Good f1 := G1.le (Fp.le_addR _ _)
  have S1' : Step H f H1 f1 := S1.less (Fp.le_addR _ _)
  refine walk_R (temp_ok (K := X.K) r1 G1 e2) fun J vs g hg ww => ?_
  exact p J H1 f1 f1 vs g en1 G1' S1' (by rw [lendI_seq hv]; exact en1) G1' (Step.refl _ _) ww (ww.beside S1' (S1.less (Fp.le_addL _ _)) hg)
theorem walks_rng {K : PySem.W.Frag} (lo hi : Int) (G : Good f) : Walks K H f (Itr lo (hi - lo).toNat) (rangeL lo hi) ((List.range (hi - lo).toNat).map fun (i : Nat) => V.int (lo + i)) Fp.zero := by
  refine ⟨?_, fun _ => ⟨rfl, rfl⟩, by rw [Fp.zero_add]; exact G, .rng⟩
  have := RepL.ints (H := H) ((List.range (hi - lo).toNat).map fun (i : Nat) => lo + (i : Int))
  rw [List.map_map, List.map_map] at this
  exact this
theorem i_rng1 (C : CO T k c X) {ex : Ex} {e tg : Expr} {p pos : Pos} (hb : bin c "range" = true) (hn : noStar e = true) (h : VEx T k X ex e) : VIx T k X (.rng1 ex) tg (.Call (.Name "range" p) [e] [] pos) := by
  obtain ⟨te, pe, s⟩ := h
  obtain ⟨g1, g2, g3⟩ := C.bin hb
  refine ⟨_, pi_range1 g1 g2 (PEL.cons hn pe .nil).pa (by rw [starEach_cons hn]; rfl), fun Γ σ H f R' en G p => ?_⟩
  refine s Γ σ H f _ en G ?_
  obtain ⟨d, Γ1, e1, p⟩ := PI'.bind (r := evE (run T k) ex Γ) p
  rw [e1]
  intro v H1 g1 f1 r1 en1 G1 S1
  cases d with
  | int n =>
    dsimp only at p
    by_cases ho : okRg n = true
    · rw [if_pos ho] at p
      unfold Rep at r1
      obtain ⟨rfl, rfl⟩ := r1
      rw [Fp.zero_add] at G1 S1
      have hb := okRg_of ho
      have w := walks_rng (K := X.K) (H := H1) (f := f1) 0 n G1
      refine ⟨n, rfl, by omega, by omega, ?_⟩
      have := p _ H1 f1 f1 _ _ en1 G1 S1 en1 G1 (Step.refl _ _) w (by rw [Fp.zero_add]; exact S1)
      rw [Int.sub_zero] at this
      exact this
    · rw [if_neg ho] at p
      exact p.elim
  | _ => exact p.elim
theorem i_rng2 (C : CO T k c X) {ea eb : Ex} {a b tg : Expr} {p pos : Pos} (hb : bin c "range" = true) (hn : noStar a = true) (hn2 : noStar b = true) (h : VEx T k X ea a) (h2 : VEx T k X eb b) : VIx T k X (.rng2 ea eb) tg (.Call (.Name "range" p) [a, b] [] pos) := by
  obtain ⟨ta, pa, sa⟩ := h
  obtain ⟨tb, pb, sb⟩ := h2
  obtain ⟨g1, g2, g3⟩ := C.bin hb
  refine ⟨_, pi_range2 g1 g2 (PEL.cons hn pa (PEL.cons hn2 pb .nil)).pa (by rw [starEach_cons hn, starEach_cons hn2]; rfl) (by rw [starEach_cons hn2]; rfl), fun Γ σ H f R' en G p => ?_⟩
  refine sa Γ σ H f _ en G ?_
  obtain ⟨d, Γ1, e1, p⟩ := PI'.bind (r := evE (run T k) ea Γ) p
  rw [e1]
  intro v H1 g1 f1 r1 en1 G1 S1
  have G1' : Good f1 := G1.le (Fp.le_addR _ _)
  have S1' : Step H f H1 f1 := S1.less (Fp.le_addR _ _)
  refine sb Γ1 σ H1 f1 _ en1 G1' ?_
  obtain ⟨d2, Γ2, e2, p⟩ := PI'.bind (r := evE (run T k) eb Γ1) p
  rw [e2]
  intro v2 H2 g2 f2 r2 en2 G2 S2
  cases d with
  | int i =>
    cases d2 with
    | int n =>
      dsimp only at p
      by_cases ho : (okRg i && okRg n) = true
      · rw [if_pos ho] at p
        rw [Bool.and_eq_true] at ho
        unfold Rep at r1 r2
        obtain ⟨rfl, rfl⟩ := r1
        obtain ⟨rfl, rfl⟩ := r2
        rw [Fp.zero_add] at G2 S2
        have h1 := okRg_of ho.1
        have h2 := okRg_of ho.2
        have w := walks_rng (K := X.K) (H := H2) (f := f2) i n G2
        refine ⟨i, n, rfl, ⟨by omega, by omega, by omega, by omega⟩, ?_⟩
        have S3 := S1'.trans S2
        exact p _ H2 f2 f2 _ _ en2 G2 S3 en2 G2 (Step.refl _ _) w (by rw [Fp.zero_add]; exact S3)
      · rw [if_neg ho] at p
        exact p.elim
    | _ => exact p.elim
  | _ => exact p.elim
theorem walks_rngD {K : PySem.W.Frag} (hi lo : Int) (G : Good f) : Walks K H f (Itc hi (-1) (hi - lo).toNat) (rangeD hi lo) ((List.range (hi - lo).toNat).map fun (i : Nat) => V.int (hi + i * (-1))) Fp.zero := by
  refine ⟨?_, fun _ => ⟨rfl, rfl⟩, by rw [Fp.zero_add]; exact G, .rngc⟩
  have := RepL.ints (H := H) ((List.range (hi - lo).toNat).map fun (i : Nat) => hi + (i : Int) * (-1))
  rw [List.map_map, List.map_map] at this
  have e : rangeD hi lo = (List.range (hi - lo).toNat).map (D.int ∘ fun (i : Nat) => hi + (i : Int) * (-1)) := by
    unfold rangeD
    refine List.map_congr_left fun i _ => ?_
    show D.int (hi - (i : Int)) = D.int (hi + (i : Int) * (-1))
    congr 1
    omega
  rw [e]
  exact this
theorem i_rngD (C : CO T k c X) {ea eb : Ex} {a b tg : Expr} {kk : Nat} {p p1 p2 pos : Pos} (hb : bin c "range" = true) (hn : noStar a = true) (hn2 : noStar b = true) (h : VEx T k X ea a) (h2 : VEx T k X eb b) : VIx T k X (.rngD ea eb) tg (.Call (.Name "range" p) [a, b, .UnaryOp .USub (.Constant (.int 1) kk p1) p2] [] pos) := by
  obtain ⟨ta, pa, sa⟩ := h
  obtain ⟨tb, pb, sb⟩ := h2
  obtain ⟨g1, g2, g3⟩ := C.bin hb
  have pl := PEL.cons hn pa (PEL.cons hn2 pb (PEL.cons (X := X) (e := .UnaryOp .USub (.Constant (.int 1) kk p1) p2) rfl (pe_un un_neg pe_int) .nil))
  refine ⟨_, pi_range3 g1 g2 pl.pa (by rw [starEach_cons hn]) (by cases pl with | cons _ _ q => exact q.plain), fun Γ σ H f R' en G p => ?_⟩
  refine sa Γ σ H f _ en G ?_
  obtain ⟨d, Γ1, e1, p⟩ := PI'.bind (r := evE (run T k) ea Γ) p
  rw [e1]
  intro v H1 g1 f1 r1 en1 G1 S1
  have G1' : Good f1 := G1.le (Fp.le_addR _ _)
  have S1' : Step H f H1 f1 := S1.less (Fp.le_addR _ _)
  refine sb Γ1 σ H1 f1 _ en1 G1' ?_
  obtain ⟨d2, Γ2, e2, p⟩ := PI'.bind (r := evE (run T k) eb Γ1) p
  rw [e2]
  intro v2 H2 g2 f2 r2 en2 G2 S2
  cases d with
  | int i =>
    cases d2 with
    | int n =>
      dsimp only at p
      by_cases ho : (okRg i && okRg n) = true
      · rw [if_pos ho] at p
        rw [Bool.and_eq_true] at ho
        unfold Rep at r1 r2
        obtain ⟨rfl, rfl⟩ := r1
        obtain ⟨rfl, rfl⟩ := r2
        rw [Fp.zero_add] at G2 S2
        have h1 := okRg_of ho.1
        have h2 := okRg_of ho.2
        have w := walks_rngD (K := X.K) (H := H2) (f := f2) i n G2
        have S3 := S1'.trans S2
        refine ⟨1, rfl, i, n, -1, _, rfl, RgC.neg (by omega) (by omega) (by omega) (by omega), ?_⟩
        exact p _ H2 f2 f2 _ _ en2 G2 S3 en2 G2 (Step.refl _ _) w (by rw [Fp.zero_add]; exact S3)
      · rw [if_neg ho] at p
        exact p.elim
    | _ => exact p.elim
  | _ => exact p.elim
end
end VE

end
section
set_option maxHeartbeats 2000000
/-! VEm: list comprehensions. -/
namespace VE
open PySem PySem.Spec PyProof.Rows L2
variable [TC]
section
variable {K : PySem.W.Frag} {H H' Hc H5 : Hp} {f fc f4 f5 P g gd : Fp} {J : L2.It} {xs : List D} {vs : List V}
theorem Src.le (s : Src K H f J vs) (h : ∀ a, f4.o a ≤ f.o a) : Src K H f4 J vs := by
  cases s with
  | @lst a _ r z => exact .lst r (by have := h a; omega)
  | @tup a _ r z => exact .tup r (by have := h a; omega)
  | rng => exact .rng
  | rngc => exact .rngc
theorem Src.upd {D : Addr} {o : HO} (s : Src K H f J vs) (h : 0 < f.o D) : Src K (upd H D o) f J vs := by
  cases s with
  | lst r z => exact .lst (rd_imp r fun u hu => by rw [upd_ne (fun e => by rw [e] at z; omega)]; exact hu) z
  | tup r z => exact .tup (rd_imp r fun u hu => by rw [upd_ne (fun e => by rw [e] at z; omega)]; exact hu) z
  | rng => exact .rng
  | rngc => exact .rngc
/-- a step of what is evaluated, beside the walk and what is held beside -/
theorem side_step (hn : ∀ a, 0 < P.at a → Dm Hc a) (w : Walks K Hc (P.add fc) J xs vs g) (S : Step H f Hc (g.add (P.add fc))) (S5 : Step Hc fc H5 f5) (G5 : Good f5) :
    Walks K H5 (P.add f5) J xs vs g ∧ Step H f H5 (g.add (P.add f5)) ∧ ∀ a u, Hc a = some u → 0 < P.at a → H5 a = some u := by
  have G : Good (P.add fc) := w.good.le (Fp.le_addR _ _)
  have hd : ∀ a, 0 < P.at a → Dm Hc a := hn
  have S' := S5.beside hd
  have G' := S5.good G G5 hd
  exact ⟨w.step S' G', S.trans (S'.beside (RepL.dom xs w.rep)), S5.keeps G hn⟩
/-- an item goes into the environment -/
theorem item_env (w : Walks K Hc (P.add fc) J xs vs g) (S : Step H f Hc (g.add (P.add fc))) (hg : gd.le g) (h4 : f4.le (gd.add fc)) : Walks K Hc (P.add f4) J xs vs g ∧ Step H f Hc (g.add (P.add f4)) := by
  refine ⟨⟨w.rep, w.sh, ⟨fun a => ?_⟩, w.src.le fun a => ?_⟩, ⟨S.frame, S.tab, fun a p => S.own a ?_, fun a p => S.lent a ?_, fun a p => S.shr a ?_⟩⟩
  all_goals
    have q := w.good.g a
    have z := w.sh a
    have l1 := hg a
    have l2 := h4 a
    simp only [Fp.add] at *
  · refine ⟨by omega, fun p => ?_⟩
    have := q.2 (by omega)
    omega
  · omega
  · omega
  · omega
  · omega
/-- less is held in the environment -/
theorem less_env (w : Walks K Hc (P.add fc) J xs vs g) (S : Step H f Hc (g.add (P.add fc))) (h4 : f4.le fc) : Walks K Hc (P.add f4) J xs vs g ∧ Step H f Hc (g.add (P.add f4)) :=
  item_env (gd := Fp.zero) w S (fun a => ⟨Nat.zero_le _, Nat.zero_le _, Nat.zero_le _⟩) (by rw [Fp.zero_add]; exact h4)
structure LcI (K : PySem.W.Frag) (H : Hp) (f : Fp) (σ : L2.St) (own : List Nat) (J : L2.It) (xs : List D) (vs : List V) (g : Fp) (D : Addr) (Γc : En) (acc : List VE.D) (Hc : Hp) : Prop where
  ex : ∃ (fc ga : Fp) (accV : List V), REnv Hc Γc σ fc ∧ RepL Hc acc accV ga ∧ Hc D = some (.lst accV) ∧ Walks K Hc ((ga.own D).add fc) J xs vs g ∧ Step H f Hc (g.add ((ga.own D).add fc))
  wi : wipeE Γc own = Γc
theorem own_dom {D : Addr} {acc : List VE.D} {accV : List V} {ga : Fp} (r : RepL Hc acc accV ga) (h : Hc D = some (.lst accV)) : ∀ a, 0 < (ga.own D).at a → Dm Hc a := fun a p => by
  by_cases e : a = D
  · subst e; exact ⟨_, h, fun ps e => by cases e⟩
  · refine RepL.dom acc r a ?_
    unfold Fp.at Fp.own one at p
    unfold Fp.at
    simp only [if_neg e] at p
    omega
/-- the first turn -/
theorem LcI.start {Γ : En} {σ : L2.St} {own : List Nat} {D : Addr} (en : REnv Hc Γ σ fc) (w : Walks K Hc fc J xs vs g) (S : Step H f Hc (g.add fc)) (hD : Hc D = none) : LcI K H f σ own J xs vs g D (wipeE Γ own) [] (upd Hc D (.lst [])) := by
  obtain ⟨f1, en1, l1⟩ := en.wipe own
  have z : g.at D = 0 ∧ fc.at D = 0 := by
    refine ⟨?_, ?_⟩
    · by_cases p : 0 < g.at D
      · obtain ⟨u, hu, _⟩ := RepL.dom xs w.rep D p
        rw [hD] at hu; cases hu
      · omega
    · by_cases p : 0 < fc.at D
      · obtain ⟨u, hu, _⟩ := en.dom D p
        rw [hD] at hu; cases hu
      · omega
  have kp : ∀ a u, Hc a = some u → upd Hc D (.lst []) a = some u := fun a u hu => by rw [upd_ne (ne_of_none hu hD)]; exact hu
  refine ⟨⟨f1, Fp.zero, [], en1.mono (fun a u hu _ => kp a u hu) (fun t => t.ext kp), RepL.nil, upd_same, ⟨RepL.mono xs w.rep fun a u hu _ => kp a u hu, w.sh, ⟨fun a => ?_⟩, ?_⟩, ⟨fun a u hu h0 nt => kp a u (S.frame a u hu h0 nt), fun t => (S.tab t).ext kp, fun a p => ?_, fun a p => ?_, fun a p => ?_⟩⟩, wipeE_idem _ _⟩
  · have q := w.good.g a
    have l := l1 a
    unfold Fp.at at z
    simp only [Fp.add, Fp.own, Fp.zero] at q ⊢
    by_cases e : a = D
    · subst e
      rw [one_self]
      omega
    · unfold one
      rw [if_neg e]
      refine ⟨by omega, fun p => ?_⟩
      have := q.2 (by omega)
      omega
  · cases w.src with
    | @lst a _ r z0 =>
      refine .lst (rd_imp r fun u hu => kp _ u hu) ?_
      have ne := ne_of_none (rd_some r).choose_spec hD
      have := (l1 a).1
      simp only [Fp.add, Fp.own, Fp.zero, one, if_neg ne]
      omega
    | @tup a _ r z0 =>
      refine .tup (rd_imp r fun u hu => kp _ u hu) ?_
      have ne := ne_of_none (rd_some r).choose_spec hD
      have := (l1 a).1
      simp only [Fp.add, Fp.own, Fp.zero, one, if_neg ne]
      omega
    | rng => exact .rng
    | rngc => exact .rngc
  · by_cases hb : a = D
    · subst hb; exact S.gone (.inl hD)
    · have l := l1 a
      simp only [Fp.add, Fp.own, Fp.zero, one, if_neg hb] at p
      exact S.own a (by simp only [Fp.add]; omega)
  · have l := l1 a
    simp only [Fp.add, Fp.own, Fp.zero] at p
    exact S.lent a (by simp only [Fp.add]; omega)
  · have l := l1 a
    simp only [Fp.add, Fp.own, Fp.zero] at p
    exact S.shr a (by simp only [Fp.add]; omega)
theorem own_add {ga g6 f6 : Fp} {D : Addr} : ((ga.add g6).own D).add f6 = (ga.own D).add (g6.add f6) := Fp.ext' (fun a => by simp only [Fp.add, Fp.own]; omega) (fun a => by simp only [Fp.add, Fp.own]; omega) fun a => by simp only [Fp.add, Fp.own]; omega
/-- an item is appended to the list beside -/
theorem app_side {Γ : En} {σ : L2.St} {ga g6 f6 : Fp} {D : Addr} {acc : List VE.D} {accV : List V} {y : VE.D} {v : V} (hH : 0 < f.o D ∨ Fr H D) (en : REnv Hc Γ σ f6) (r : RepL Hc acc accV ga) (hD0 : Hc D = some (.lst accV)) (ry : Rep Hc y v g6)
    (w : Walks K Hc ((ga.own D).add (g6.add f6)) J xs vs g) (S : Step H f Hc (g.add ((ga.own D).add (g6.add f6)))) :
    let H' := upd Hc D (.lst (accV ++ [v]))
    REnv H' Γ σ f6 ∧ RepL H' (acc ++ [y]) (accV ++ [v]) (ga.add g6) ∧ H' D = some (.lst (accV ++ [v])) ∧ Walks K H' (((ga.add g6).own D).add f6) J xs vs g ∧ Step H f H' (g.add (((ga.add g6).own D).add f6)) := by
  intro H'
  have kp : ∀ a u, Hc a = some u → a ≠ D → H' a = some u := fun a u hu hb => by
    show upd Hc D _ a = _
    rw [upd_ne hb]; exact hu
  have z : g.at D = 0 ∧ ga.at D = 0 ∧ g6.at D = 0 ∧ f6.at D = 0 := by
    have q := w.good.g D
    simp only [Fp.add, Fp.own, one_self] at q
    have := q.2 (by omega)
    unfold Fp.at
    omega
  have rl : RepL Hc (acc ++ [y]) (accV ++ [v]) (ga.add g6) := by
    have := r.append (RepL.cons ry RepL.nil)
    rw [Fp.add_zero] at this
    exact this
  rw [own_add]
  refine ⟨en.mono (fun a u hu p => kp a u hu fun e => by subst e; omega) (tabs_upd hD0), RepL.mono _ rl fun a u hu p => kp a u hu fun e => ?_, upd_same, ⟨RepL.mono xs w.rep fun a u hu p => kp a u hu fun e => by subst e; omega, w.sh, w.good, w.src.upd ?_⟩,
    ⟨fun a u hu h0 nt => kp a u (S.frame a u hu h0 nt) fun e => ?_, fun t => tabs_upd hD0 (S.tab t), S.own, S.lent, S.shr⟩⟩
  · subst e
    unfold Fp.at Fp.add at *
    simp only at *
    omega
  · simp only [Fp.add, Fp.own, one_self]
    omega
  · subst e
    rcases hH with z2 | z2
    · omega
    · exact z2.no ⟨u, hu, nt⟩
end

/-! ### a block -/
section
variable {T : Nat → Option Def} {k : Nat} {c : Ctx} {X : Cx}
theorem lookup_relS_free {sc : Scope} : ∀ {names : List (Str × NameKind)} {x : Str}, names.lookup x = some .free →
    (names.map fun (n, k) => if (k == NameKind.free && sc.kind == .function && sc.names.lookup n == some .cell) then (n, NameKind.cell) else (n, k)).lookup x = some .free ∨
    (names.map fun (n, k) => if (k == NameKind.free && sc.kind == .function && sc.names.lookup n == some .cell) then (n, NameKind.cell) else (n, k)).lookup x = some .cell
  | [], _, h => by simp at h
  | (n, k₀) :: r, x, h => by
    have ih := @lookup_relS_free sc r x
    show List.lookup x ((if (k₀ == NameKind.free && sc.kind == .function && sc.names.lookup n == some .cell) = true then (n, NameKind.cell) else (n, k₀)) :: (r.map _)) = _ ∨ List.lookup x ((if (k₀ == NameKind.free && sc.kind == .function && sc.names.lookup n == some .cell) = true then (n, NameKind.cell) else (n, k₀)) :: (r.map _)) = _
    cases hx : x == n with
    | true =>
      simp only [List.lookup_cons, hx] at h
      cases h
      split
      · simp only [List.lookup_cons, hx]; exact .inr trivial
      · simp only [List.lookup_cons, hx]; exact .inl trivial
    | false =>
      simp only [List.lookup_cons, hx] at h
      split
      · simp only [List.lookup_cons, hx]; exact ih h
      · simp only [List.lookup_cons, hx]; exact ih h
theorem CO.blk (C : CO T k c X) {scope : Scope} {own : List (Str × Nat)} (ok : BlkOk X.N X.env.scope scope own) (s : Shared) (H : Hp) (A : Addr) (cl : List (Str × Addr)) (fp : List Addr) :
    CO T k { c with sc := scope } (X.blk s H scope (compEnvC scope cl A X.env) fp) where
  N := C.N
  nd := C.nd
  vis := fun x h => by
    rcases h with h | h | h
    · exact .inl (lookup_relS_keep (by decide) h)
    · exact .inr (.inl (lookup_relS_keep (by decide) h))
    · rcases lookup_relS_free (sc := X.env.scope) h with q | q
      · exact .inr (.inr q)
      · exact .inr (.inl q)
  loc := fun x h => lookup_relS_keep (by decide) h
  cel := fun x h => ⟨lookup_relS_keep (by decide) h, by show (scope.names.lookup x == some .cell) = true; rw [h]; rfl⟩
  cf := fun x h => by
    rcases h with h | h
    · exact .inl (lookup_relS_keep (by decide) h)
    · rcases lookup_relS_free (sc := X.env.scope) h with q | q
      · exact .inr q
      · exact .inl q
  glo := fun x h => lookup_relS_keep (by decide) h
  kind := ok.kind
  calm := C.calm
  room := C.room
  lam := C.lam
  tab := C.tab
theorem CO.blkOk (C : CO T k c X) {scope : Scope} {own : List (Str × Nat)} (h : blkC c.N c.sc scope own = true) : BlkOk X.N X.env.scope scope own := by
  have ok := blkOk_by h
  refine ⟨ok.kind, ok.uniq, by rw [C.N]; exact ok.ix, fun y hy e => ?_, by rw [C.N]; exact ok.own⟩
  rcases ok.free y hy e with q | q
  · exact C.cf _ (.inl q)
  · exact C.cf _ (.inr q)
/-- all the contexts of a block -/
structure Blk where
  s : Shared
  H : Hp
  A : Addr
  cl : List (Str × Addr)
  fp : List Addr
def Cx.bl (X : Cx) (scope : Scope) (b : Blk) : Cx := X.blk b.s b.H scope (compEnvC scope b.cl b.A X.env) b.fp
theorem VEx.all {scope : Scope} {ex : Ex} {e : Expr} (h : ∀ b : Blk, VEx T k (Cx.bl X scope b) ex e) : ∃ te, (∀ b : Blk, PE (Cx.bl X scope b) e te) ∧ ∀ Γ σ H f Q, REnv H Γ σ f → Good f → PV H f σ Q (evE (run T k) ex Γ) → te σ H Q := by
  refine ⟨fun σ H Q => ∀ b : Blk, (h b).choose σ H Q, fun b => ⟨fun pins s σ H Q I hq => (h b).choose_spec.1.run pins s σ H Q I (hq b)⟩, fun Γ σ H f Q en G p b => (h b).choose_spec.2 Γ σ H f Q en G p⟩
theorem VTx.all {scope : Scope} {t : Tx} {e : Expr} (h : ∀ b : Blk, VTx T k (Cx.bl X scope b) t e) : ∃ te, (∀ b : Blk, PT (Cx.bl X scope b) e te) ∧ ∀ Γ σ H f Q, REnv H Γ σ f → Good f → PB H f σ Q (evT (run T k) t Γ) → te σ H Q := by
  refine ⟨fun σ H Q => ∀ b : Blk, (h b).choose σ H Q, fun b => ⟨fun pins s σ H Q I hq => (h b).choose_spec.1.run pins s σ H Q I (hq b)⟩, fun Γ σ H f Q en G p b => (h b).choose_spec.2 Γ σ H f Q en G p⟩
/-- the clause's tests -/
def VIfs (T : Nat → Option Def) (k : Nat) (X : Cx) (scope : Scope) (t : Tx) (ifs : List Expr) : Prop := ∃ tt, (∀ b : Blk, PTs (Cx.bl X scope b) ifs tt) ∧ ∀ Γ σ H f Q, REnv H Γ σ f → Good f → PB H f σ Q (evT (run T k) t Γ) → tt σ H Q
theorem ifs_nil {scope : Scope} : VIfs T k X scope .yes [] := ⟨tYes, fun b => pts_nil, fun Γ σ H f Q en G p => p H f en G (Step.refl _ _)⟩
theorem ifs_one {scope : Scope} {t : Tx} {e : Expr} (h : ∀ b : Blk, VTx T k (Cx.bl X scope b) t e) : VIfs T k X scope t [e] := by
  obtain ⟨tt, p, s⟩ := VTx.all h
  exact ⟨tt, fun b => pts_one (p b), s⟩
def lcF (cf : CF) (own : List Nat) (tg : Tg) (c : Tx) (e : Ex) : D → En → R (Option D) := fun x Γ3 => match setG (wipeE Γ3 own) tg x with
  | some Γ4 => (evT cf c Γ4).bind fun b Γ5 => if b = true then (evE cf e Γ5).bind fun y Γ6 => .ok (some y) (wipeE Γ6 own) else .ok none (wipeE Γ5 own)
  | none => .bad
theorem evE_lc {cf : CF} {own : List Nat} {tg : Tg} {it : It} {c : Tx} {e : Ex} {Γ : En} : evE cf (.lc own tg it c e) Γ = (evI cf it Γ).bind fun xs Γ1 => match loopC (lcF cf own tg c e) xs (wipeE (lendI Γ1 it) own) with
  | .ok ys Γ9 => if ys.length ≤ line then .ok (.lst .own ys) (unlendI Γ1 Γ9 it) else .bad
  | _ => .bad := rfl
theorem R.bind_ok {α β : Type} {r : R α} {f : α → En → R β} {b : β} {Γ : En} (h : r.bind f = .ok b Γ) : ∃ a Γ1, r = .ok a Γ1 ∧ f a Γ1 = .ok b Γ := by
  cases r with
  | ok a Γ1 => exact ⟨a, Γ1, rfl, h⟩
  | ex _ _ _ => cases h
  | bad => cases h
theorem loopC_cons {f : D → En → R (Option D)} {x : D} {xs : List D} {Γ : En} {ys : List D} {Γ9 : En} (h : loopC f (x :: xs) Γ = .ok ys Γ9) :
    ∃ o Γ1 zs, f x Γ = .ok o Γ1 ∧ loopC f xs Γ1 = .ok zs Γ9 ∧ ys = o.toList ++ zs := by
  unfold loopC at h
  obtain ⟨o, Γ1, e, h⟩ := R.bind_ok h
  obtain ⟨zs, Γ2, e2, h⟩ := R.bind_ok h
  cases h
  exact ⟨o, Γ1, zs, e, e2, by cases o <;> rfl⟩
/-- behind the walk -/
theorem unlendI_ok {Hs H0 H9 : Hp} {Γ0 Γ9 : En} {σ σ9 : L2.St} {fs f0 f9 gt' : Fp} {it : It} (h0 : REnv H0 Γ0 σ f0) (S0 : Step Hs fs H0 f0) (h9 : REnv H9 Γ9 σ9 f9) (G : Good (gt'.add f9)) (S : Step Hs fs H9 (gt'.add f9)) (hs : ∀ j, it = .seq (.pk j) → σ9[j]? = σ[j]?) :
    ∃ f', REnv H9 (unlendI Γ0 Γ9 it) σ9 f' ∧ Good (gt'.add f') ∧ Step Hs fs H9 (gt'.add f') := by
  cases it with
  | seq e =>
    cases e with
    | pk j => exact unlend_ok h0 S0 h9 G S (hs j rfl)
    | _ => exact ⟨f9, h9, G, S⟩
  | _ => exact ⟨f9, h9, G, S⟩
theorem wipe_same {σ σ' : L2.St} {own : List Nat} (h : σ'.length = σ.length) (k : ∀ i, i ∉ own → σ'[i]? = σ[i]?) : L2.wipe σ' own = L2.wipe σ own := by
  apply List.ext_getElem?
  intro i
  by_cases hi : i ∈ own
  · have key : ∀ {σ : L2.St}, (L2.wipe σ own)[i]? = if i < σ.length then some none else none := fun {σ} => by
      split
      · rename_i hl
        have l2 : i < (L2.wipe σ own).length := by rw [wipe_length]; exact hl
        rw [List.getElem?_eq_getElem l2]
        cases e : (L2.wipe σ own)[i] with
        | none => rfl
        | some v => exact absurd hi (wipe_some (by rw [List.getElem?_eq_getElem l2, e])).2
      · rename_i hl
        exact List.getElem?_eq_none (by rw [wipe_length]; omega)
    rw [key, key, h]
  · rw [wipe_out hi, wipe_out hi, k i hi]
/-- THE comprehension -/
theorem lc_ok {wi : TI} {te : TE} {tt : TT} {own : List Nat} {tg : Tg} {it : It} {t : Tx} {ex : Ex} {K : PySem.W.Frag}
    (hI : ∀ Γ σ H f R', REnv H Γ σ f → Good f → PI' K H f σ it R' (evI (run T k) it Γ) → wi σ H R') (hT : ∀ Γ σ H f Q, REnv H Γ σ f → Good f → PB H f σ Q (evT (run T k) t Γ) → tt σ H Q)
    (hE : ∀ Γ σ H f Q, REnv H Γ σ f → Good f → PV H f σ Q (evE (run T k) ex Γ) → te σ H Q) (hs : ∀ i, i ∈ tgS tg → i ∈ own) (Γ : En) (σ : L2.St) (H : Hp) (f : Fp) (Q : VK) (en : REnv H Γ σ f) (G : Good f) (p : PV H f σ Q (evE (run T k) (.lc own tg it t ex) Γ)) :
    tLc wi (gTg K tg) tt te own σ H Q := by
  rw [evE_lc] at p
  refine hI Γ σ H f _ en G ?_
  obtain ⟨xs, Γ1, e1, p⟩ := p.bind
  rw [e1]
  intro J H1 f1 f' vs g en1 G1 S1 en2 G2 S2 w S3 D hD
  cases e2 : loopC (lcF (run T k) own tg t ex) xs (wipeE (lendI Γ1 it) own) with
  | bad => rw [e2] at p; exact p.elim
  | ex _ _ _ => rw [e2] at p; exact p.elim
  | ok ys Γ9 =>
    rw [e2] at p
    dsimp only at p
    by_cases hlen : ys.length ≤ line
    · rw [if_pos hlen] at p
      have hH : 0 < f.o D ∨ Fr H D := S1.gone (.inl hD)
      have hlv : xs.length = vs.length := w.rep.length
      refine ⟨fun i m Hc => m = xs.length - i ∧ i ≤ xs.length ∧ ∃ Γc acc zs, LcI K H f σ own J xs vs g D Γc acc Hc ∧ loopC (lcF (run T k) own tg t ex) (xs.drop i) Γc = .ok zs Γ9 ∧ ys = acc ++ zs,
        ⟨xs.length, rfl, Nat.zero_le _, _, [], ys, LcI.start en2 w S3 hD, e2, rfl⟩, ?_⟩
      rintro i m Hc ⟨rfl, hi, Γc, acc, zs, ⟨⟨fc, ga, accV, enc, rl, hDc, wc, Sc⟩, hwi⟩, e3, rfl⟩
      by_cases hlt : i < xs.length
      · refine .inr ⟨wc.src.go (by omega), fun Hc => i + 1 ≤ xs.length ∧ ∃ Γc acc' zs', LcI K H f σ own J xs vs g D Γc acc' Hc ∧ loopC (lcF (run T k) own tg t ex) (xs.drop (i + 1)) Γc = .ok zs' Γ9 ∧ acc ++ zs = acc' ++ zs',
          fun H' ⟨q1, q2⟩ => ⟨xs.length - (i + 1), by omega, rfl, q1, q2⟩, fun x H' y => ?_⟩
        obtain ⟨rfl, hx⟩ := wc.src.yld y (by omega)
        have hdr : xs.drop i = xs[i] :: xs.drop (i + 1) := List.drop_eq_getElem_cons hlt
        rw [hdr] at e3
        obtain ⟨o, Γn, zs', e4, e5, rfl⟩ := loopC_cons e3
        obtain ⟨x', gd, hx', rd, ld⟩ := wc.rep.get' (List.getElem?_eq_getElem hlt)
        rw [hx] at hx'
        cases hx'
        unfold lcF at e4
        rw [hwi] at e4
        cases e6 : setG Γc tg xs[i] with
        | none => rw [e6] at e4; cases e4
        | some Γ4 =>
          rw [e6] at e4
          dsimp only at e4
          have encw : REnv H' Γc (L2.wipe σ own) fc := by
            rw [← hwi] at enc ⊢
            exact enc.wipeS
          refine setG_ok encw rd e6 fun σ2 f4 en4 l4 hl2 ho2 => ?_
          have hag : ∀ j, j ∉ own → σ2[j]? = σ[j]? := fun j hj => by
            rw [ho2 j fun q => hj (hs j q), wipe_out hj]
          have hln : σ2.length = σ.length := by rw [hl2, wipe_length]
          refine ⟨wipe_same hln hag, ?_⟩
          obtain ⟨w4, S4⟩ := item_env wc Sc ld l4
          have G4 : Good f4 := w4.good.le ((Fp.le_addR _ _).trans (Fp.le_addR _ _))
          have hdP := own_dom rl hDc
          cases e7 : evT (run T k) t Γ4 with
          | bad => rw [e7] at e4; cases e4
          | ex _ _ _ => rw [e7] at e4; cases e4
          | ok b Γ5 =>
            rw [e7] at e4
            refine hT Γ4 σ2 H' f4 _ en4 G4 ?_
            rw [e7]
            intro H5 f5 en5 G5 S5
            obtain ⟨w5, S5', k5⟩ := side_step hdP w4 S4 S5 G5
            have rl5 : RepL H5 acc accV ga := RepL.mono acc rl fun a u hu pa => k5 a u hu (by unfold Fp.at Fp.own at *; simp only at *; omega)
            have hD5 : H5 D = some (.lst accV) := k5 D _ hDc (by unfold Fp.at Fp.own; simp only [one_self]; omega)
            -- the slots of the block are forgotten again
            have wiped : ∀ {H6 : Hp} {Γ6 : En} {f6 : Fp}, REnv H6 Γ6 σ2 f6 → ∃ f7, REnv H6 (wipeE Γ6 own) σ f7 ∧ f7.le f6 := fun {H6 Γ6 f6} e6 => by
              obtain ⟨f7, q, l⟩ := e6.wipe own
              exact ⟨f7, q.congr hln.symm fun j d hj => (hag j (wipeE_in hj).1).symm, l⟩
            cases b with
            | false =>
              have e4 : R.ok (none : Option VE.D) (wipeE Γ5 own) = .ok o Γn := e4
              cases e4
              obtain ⟨f7, en7, l7⟩ := wiped en5
              obtain ⟨w7, S7⟩ := less_env w5 S5' l7
              exact ⟨hlt, _, acc, zs', ⟨⟨f7, ga, accV, en7, rl5, hD5, w7, S7⟩, wipeE_idem _ _⟩, e5, rfl⟩
            | true =>
              have e4 : ((evE (run T k) ex Γ5).bind fun y Γ6 => R.ok (some y) (wipeE Γ6 own)) = .ok o Γn := e4
              cases e8 : evE (run T k) ex Γ5 with
              | bad => rw [e8] at e4; cases e4
              | ex _ _ _ => rw [e8] at e4; cases e4
              | ok y Γ6 =>
                rw [e8] at e4
                cases e4
                show te σ2 H5 _
                refine hE Γ5 σ2 H5 f5 _ en5 G5 ?_
                rw [e8]
                intro v H6 g6 f6 r6 en6 G6 S6
                have hdP5 := own_dom rl5 hD5
                obtain ⟨w6, S6', k6⟩ := side_step hdP5 w5 S5' S6 G6
                have rl6 : RepL H6 acc accV ga := RepL.mono acc rl5 fun a u hu pa => k6 a u hu (by unfold Fp.at Fp.own at *; simp only at *; omega)
                have hD6 : H6 D = some (.lst accV) := k6 D _ hD5 (by unfold Fp.at Fp.own; simp only [one_self]; omega)
                have hal : accV.length < sizeLine := by
                  rw [← rl6.length, sizeLine_eq]
                  unfold line at hlen
                  rw [List.length_append, List.length_append] at hlen
                  have : 1 ≤ (some y).toList.length := Nat.le_refl 1
                  omega
                refine ⟨accV, hD6, hal, hlt, wipeE Γ6 own, acc ++ [y], zs', ?_, e5, by simp⟩
                obtain ⟨q1, q2, q3, q4, q5⟩ := app_side hH en6 rl6 hD6 r6 w6 S6'
                obtain ⟨f7, en7, l7⟩ := wiped q1
                obtain ⟨w7, S7⟩ := less_env q4 q5 l7
                exact ⟨⟨f7, ga.add g6, _, en7, q2, q3, w7, S7⟩, wipeE_idem _ _⟩
      · have hie : i = xs.length := by omega
        subst hie
        refine .inl ⟨wc.src.stop (by omega), ?_⟩
        rw [List.drop_length] at e3
        have e3 : R.ok [] Γc = .ok zs Γ9 := e3
        cases e3
        rw [List.append_nil] at p
        obtain ⟨f', q1, q2, q3⟩ := unlendI_ok (it := it) en1 S1 enc (wc.good.le (Fp.le_addR _ _)) (Sc.less (Fp.le_addR _ _)) fun _ _ => rfl
        refine p (.ref D) Hc (ga.own D) f' ?_ q1 q2 q3
        unfold Rep
        exact ⟨D, accV, ga, rfl, rl, hDc, rfl⟩
    · rw [if_neg hlen] at p
      exact p.elim
end
end VE

end
section
set_option maxHeartbeats 2000000
/-! VEn: statements. -/
namespace VE
open PySem PySem.Spec PyProof.Rows L2
variable [TC]

/-! the slots that a statement may store -/
mutual
def modS : Stm → List Nat
  | .asg tg _ => tgS tg
  | .callX (.asg i) _ _ => [i]
  | .tryX b hs => modSs b ++ hs.flatMap fun h => h.sl.toList ++ h.to.toList
  | .aug i _ _ => [i]
  | .iff _ a b => modSs a ++ modSs b
  | .fr tg _ _ b => tgS tg ++ modSs b
  | .frM tg _ _ b => tgS tg ++ modSs b
  | .frT tg _ _ b => tgS tg ++ modSs b
  | .frB x _ _ b => x :: modSs b
  | .whl _ _ b => modSs b
  | _ => []
def modSs : List Stm → List Nat
  | [] => []
  | s :: ss => modS s ++ modSs ss
end
structure Ag (ms : List Nat) (σ σ' : L2.St) : Prop where
  len : σ'.length = σ.length
  out : ∀ i, i ∉ ms → σ'[i]? = σ[i]?
theorem Ag.refl (ms : List Nat) (σ : L2.St) : Ag ms σ σ := ⟨rfl, fun _ _ => rfl⟩
theorem Ag.trans {ms ms1 ms2 : List Nat} {σ σ1 σ2 : L2.St} (a : Ag ms1 σ σ1) (b : Ag ms2 σ1 σ2) (h1 : ∀ i, i ∈ ms1 → i ∈ ms) (h2 : ∀ i, i ∈ ms2 → i ∈ ms) : Ag ms σ σ2 :=
  ⟨b.len.trans a.len, fun i hi => (b.out i fun q => hi (h2 i q)).trans (a.out i fun q => hi (h1 i q))⟩
def PSt (mg : Str → Option Value) (W : WX) (H : Hp) (f : Fp) (σ : L2.St) (ms : List Nat) (D : Ends) : S → Prop
  | .nx Γ => ∀ σ' H' f', REnv H' Γ σ' f' → Good f' → Step H f H' f' → Ag ms σ σ' → D.nx σ' H'
  | .bk Γ => ∀ σ' H' f', REnv H' Γ σ' f' → Good f' → Step H f H' f' → Ag ms σ σ' → D.bk σ' H'
  | .ct Γ => ∀ σ' H' f', REnv H' Γ σ' f' → Good f' → Step H f H' f' → Ag ms σ σ' → D.ct σ' H'
  | .rt d Γ => ∀ v σ' H' g f', Rep H' d v g → REnv H' Γ σ' f' → Good (g.add f') → Step H f H' (g.add f') → Ag ms σ σ' → D.rt v H'
  | .ex c [d] Γ => ∀ C σ' H' f' dx, mg c.x = some C → REnv H' Γ σ' f' → Good f' → Step H f H' f' → Ag ms σ σ' → H' dx = some (.xd [(c.fn, xv d)]) → W C (some dx) σ' H'
  | _ => False
theorem PSt.later {mg : Str → Option Value} {W : WX} {H H1 : Hp} {f f1 : Fp} {σ σ1 : L2.St} {ms ms1 ms2 : List Nat} {D : Ends} {r : S} (h : PSt mg W H f σ ms D r) (S : Step H f H1 f1) (a : Ag ms1 σ σ1) (h1 : ∀ i, i ∈ ms1 → i ∈ ms) (h2 : ∀ i, i ∈ ms2 → i ∈ ms) : PSt mg W H1 f1 σ1 ms2 D r := by
  cases r with
  | nx Γ => exact fun σ' H' f' e g s ag => h σ' H' f' e g (S.trans s) (a.trans ag h1 h2)
  | bk Γ => exact fun σ' H' f' e g s ag => h σ' H' f' e g (S.trans s) (a.trans ag h1 h2)
  | ct Γ => exact fun σ' H' f' e g s ag => h σ' H' f' e g (S.trans s) (a.trans ag h1 h2)
  | rt d Γ => exact fun v σ' H' g f' r e gg s ag => h v σ' H' g f' r e gg (S.trans s) (a.trans ag h1 h2)
  | ex c ds Γ =>
    match ds, h with
    | [d], h => exact fun C σ' H' f' dx hm e g s ag hd => h C σ' H' f' dx hm e g (S.trans s) (a.trans ag h1 h2) hd
  | bad => exact h
theorem PSt.bind {α : Type} {mg : Str → Option Value} {W : WX} {H : Hp} {f : Fp} {σ : L2.St} {ms : List Nat} {D : Ends} {r : R α} {g : α → En → S} (h : PSt mg W H f σ ms D (r.s g)) : ∃ a Γ, r = .ok a Γ ∧ PSt mg W H f σ ms D (g a Γ) := by
  cases r with
  | ok a Γ => exact ⟨a, Γ, rfl, h⟩
  | ex _ _ _ => exact h.elim
  | bad => exact h.elim
section
variable (T : Nat → Option Def) (k : Nat) (X : Cx) (W : WX)
def VS (s : Stm) (st : Stmt) : Prop := ∃ t, PS X st t ∧ ∀ Γ σ H f D, REnv H Γ σ f → Good f → PSt X.mg W H f σ (modS s) D (exS (run T k) s Γ) → t D σ H
def VSs (s : List Stm) (st : List Stmt) : Prop := ∃ t, PSs X st t ∧ ∀ Γ σ H f D, REnv H Γ σ f → Good f → PSt X.mg W H f σ (modSs s) D (exSs (run T k) s Γ) → t D σ H
end
section
variable {T : Nat → Option Def} {k : Nat} {c : Ctx} {X : Cx} {W : WX}
theorem ss_nil : VSs T k X W [] [] := ⟨tNext, pss_nil, fun Γ σ H f D en G p => p σ H f en G (Step.refl _ _) (Ag.refl _ _)⟩
theorem ss_cons {s : Stm} {ss : List Stm} {st : Stmt} {sts : List Stmt} (h1 : VS T k X W s st) (h2 : VSs T k X W ss sts) : VSs T k X W (s :: ss) (st :: sts) := by
  obtain ⟨t, p1, s1⟩ := h1
  obtain ⟨u, p2, s2⟩ := h2
  refine ⟨_, pss_cons p1 p2, fun Γ σ H f D en G p => s1 Γ σ H f _ en G ?_⟩
  have p : PSt X.mg W H f σ (modSs (s :: ss)) D ((exS (run T k) s Γ).seq fun Γ1 => exSs (run T k) ss Γ1) := p
  have m1 : ∀ i, i ∈ modS s → i ∈ modSs (s :: ss) := fun i h => by unfold modSs; exact List.mem_append_left _ h
  have m2 : ∀ i, i ∈ modSs ss → i ∈ modSs (s :: ss) := fun i h => by
    show i ∈ modS s ++ modSs ss
    exact List.mem_append_right _ h
  cases e : exS (run T k) s Γ with
  | nx Γ1 =>
    rw [e] at p
    intro σ' H' f' en' G' S' ag
    exact s2 Γ1 σ' H' f' D en' G' (PSt.later p S' ag m1 m2)
  | bk Γ1 => rw [e] at p; exact fun σ' H' f' a b cc d => p σ' H' f' a b cc ⟨d.len, fun i hi => d.out i fun q => hi (m1 i q)⟩
  | ct Γ1 => rw [e] at p; exact fun σ' H' f' a b cc d => p σ' H' f' a b cc ⟨d.len, fun i hi => d.out i fun q => hi (m1 i q)⟩
  | rt d Γ1 => rw [e] at p; exact fun v σ' H' g f' r a b cc d => p v σ' H' g f' r a b cc ⟨d.len, fun i hi => d.out i fun q => hi (m1 i q)⟩
  | ex cx ds Γ1 =>
    rw [e] at p
    match ds, p with
    | [d], p => exact fun C σ' H' f' dx hm a b cc dd hd => p C σ' H' f' dx hm a b cc ⟨dd.len, fun i hi => dd.out i fun q => hi (m1 i q)⟩ hd
  | bad => rw [e] at p; exact p
theorem s_pass {pos : Pos} : VS T k X W .pass (.Pass pos) := ⟨_, ps_pass, fun Γ σ H f D en G p => p σ H f en G (Step.refl _ _) (Ag.refl _ _)⟩
theorem s_bk {pos : Pos} : VS T k X W .bk (.Break pos) := ⟨_, ps_break, fun Γ σ H f D en G p => p σ H f en G (Step.refl _ _) (Ag.refl _ _)⟩
theorem s_ct {pos : Pos} : VS T k X W .ct (.Continue pos) := ⟨_, ps_continue, fun Γ σ H f D en G p => p σ H f en G (Step.refl _ _) (Ag.refl _ _)⟩
theorem s_doc {x : Str} {j : Nat} {p1 p2 : Pos} : VS T k X W .pass (.Expr (.Constant (.str x) j p1) p2) := ⟨_, ps_doc, fun Γ σ H f D en G p => p σ H f en G (Step.refl _ _) (Ag.refl _ _)⟩
theorem s_ret {ex : Ex} {e : Expr} {pos : Pos} (h : VEx T k X ex e) : VS T k X W (.ret ex) (.Return (some e) pos) := by
  obtain ⟨te, pe, s⟩ := h
  refine ⟨_, ps_ret pe, fun Γ σ H f D en G p => s Γ σ H f _ en G ?_⟩
  obtain ⟨d, Γ1, e1, p⟩ := PSt.bind (r := evE (run T k) ex Γ) p
  rw [e1]
  exact fun v H' g f' r en' G' S' => p v σ H' g f' r en' G' S' (Ag.refl _ _)
theorem s_retN {pos : Pos} : VS T k X W .retN (.Return none pos) :=
  ⟨_, ps_retN, fun Γ σ H f D en G p => p .non σ H Fp.zero f (by unfold Rep; exact ⟨rfl, rfl⟩) en (by rw [Fp.zero_add]; exact G) (by rw [Fp.zero_add]; exact Step.refl _ _) (Ag.refl _ _)⟩
theorem s_iff {t : Tx} {e : Expr} {a b : List Stm} {as bs : List Stmt} {pos : Pos} (h : VTx T k X t e) (ha : VSs T k X W a as) (hb : VSs T k X W b bs) : VS T k X W (.iff t a b) (.If e as bs pos) := by
  obtain ⟨tt, pt, st⟩ := h
  obtain ⟨ta, pa, sa⟩ := ha
  obtain ⟨tb, pb, sb⟩ := hb
  refine ⟨_, ps_if pt pa pb, fun Γ σ H f D en G p => st Γ σ H f _ en G ?_⟩
  obtain ⟨w, Γ1, e1, p⟩ := PSt.bind (r := evT (run T k) t Γ) p
  rw [e1]
  intro H1 f1 en1 G1 S1
  have m1 : ∀ i, i ∈ modSs a → i ∈ modS (.iff t a b) := fun i h => by unfold modS; exact List.mem_append_left _ h
  have m2 : ∀ i, i ∈ modSs b → i ∈ modS (.iff t a b) := fun i h => by unfold modS; exact List.mem_append_right _ h
  by_cases hw : w = true
  · rw [if_pos hw] at p ⊢
    exact sa Γ1 σ H1 f1 D en1 G1 (p.later (ms1 := []) S1 (Ag.refl _ _) (fun _ h => by cases h) m1)
  · rw [if_neg hw] at p ⊢
    exact sb Γ1 σ H1 f1 D en1 G1 (p.later (ms1 := []) S1 (Ag.refl _ _) (fun _ h => by cases h) m2)
/-! ### stores -/
def notLc : Expr → Bool
  | .ListComp _ _ _ _ => false
  | .SetComp _ _ _ _ => false
  | .DictComp _ _ _ _ _ => false
  | _ => true
theorem sw_not {e : Expr} {t : Option Expr} {l : Nat} {env : Env} (h : notLc e = true) : swapsWith e t l env = pure false := by
  cases e <;> first | rfl | (simp [notLc] at h)
theorem sw_any {e : Expr} {t : Expr} {l : Nat} {env : Env} (h : ∀ x p, t ≠ .Name x p) : swapsWith e (some t) l env = pure false := by
  cases t <;> first | (exact absurd rfl (h _ _)) | (cases e <;> rfl)
theorem s_set (C : CO T k c X) {i : Nat} {ex : Ex} {x : Str} {e : Expr} {p1 pos : Pos} (hl : loc c i x = true) (hn : notLc e = true) (h : VEx T k X ex e) : VS T k X W (.asg (.nm i) ex) (.Assign [.Name x p1] e pos) := by
  obtain ⟨te, pe, s⟩ := h
  obtain ⟨h1, h2⟩ := loc_of hl
  have nd : X.N.Nodup := by rw [C.N]; exact C.nd
  have hN : X.N[i]? = some x := by rw [C.N]; exact h1
  have ps : PS X (.Assign [.Name x p1] e pos) (tAsg te (gName i)) := by
    rcases h2 with h2 | h2
    · exact ps_set nd hN (.inl (C.loc x h2)) pe (sw_not hn) (.inr (C.loc x h2))
    · exact ps_set nd hN (.inr (C.cel x h2).1) pe (sw_not hn) (.inl (C.cel x h2).2)
  refine ⟨_, ps, fun Γ σ H f D en G p => s Γ σ H f _ en G ?_⟩
  obtain ⟨d, Γ1, e1, p⟩ := PSt.bind (r := evE (run T k) ex Γ) p
  rw [e1]
  intro v H1 g1 f1 r1 en1 G1 S1
  have p : PSt X.mg W H f σ [i] D (.nx (Γ1.set i (some d))) := p
  obtain ⟨f2, q, l⟩ := en1.put1 (i := i) r1
  exact p _ H1 f2 q (G1.le l) (S1.less l) ⟨List.length_set .., fun j hj => by rw [List.getElem?_set_ne]; rintro rfl; exact hj (List.mem_singleton_self _)⟩
/-- a comprehension stored at a name that other scopes hold, too -/
theorem s_setCell (C : CO T k c X) {i : Nat} {ex : Ex} {x : Str} {elt : Expr} {gs : List Comprehension} {scope : Scope} {cp p1 pos : Pos} (hi : c.N[i]? = some x) (hl : c.sc.names.lookup x = some .cell) (h : VEx T k X ex (.ListComp elt gs scope cp)) : VS T k X W (.asg (.nm i) ex) (.Assign [.Name x p1] (.ListComp elt gs scope cp) pos) := by
  obtain ⟨te, pe, s⟩ := h
  have nd : X.N.Nodup := by rw [C.N]; exact C.nd
  have hN : X.N[i]? = some x := by rw [C.N]; exact hi
  have kx : X.env.kindOf x = some .cell := (C.cel x hl).1
  have sw : swapsWith (.ListComp elt gs scope cp) (some (.Name x p1)) pos.line X.env = pure false := by
    unfold swapsWith
    simp only [kx]
    rw [show (some NameKind.cell == some NameKind.local) = false from rfl, Bool.and_false, Bool.false_and, Bool.false_and]
  have ps : PS X (.Assign [.Name x p1] (.ListComp elt gs scope cp) pos) (tAsg te (gName i)) := ps_set nd hN (.inr (C.cel x hl).1) pe sw (.inl (C.cel x hl).2)
  refine ⟨_, ps, fun Γ σ H f D en G p => s Γ σ H f _ en G ?_⟩
  obtain ⟨d, Γ1, e1, p⟩ := PSt.bind (r := evE (run T k) ex Γ) p
  rw [e1]
  intro v H1 g1 f1 r1 en1 G1 S1
  have p : PSt X.mg W H f σ [i] D (.nx (Γ1.set i (some d))) := p
  obtain ⟨f2, q, l⟩ := en1.put1 (i := i) r1
  exact p _ H1 f2 q (G1.le l) (S1.less l) ⟨List.length_set .., fun j hj => by rw [List.getElem?_set_ne]; rintro rfl; exact hj (List.mem_singleton_self _)⟩
def notTL : Expr → Bool
  | .Tuple _ _ _ => false
  | .List _ _ => false
  | _ => true
theorem ag_tg {t : Tg} {σ σ' : L2.St} (h1 : σ'.length = σ.length) (h2 : ∀ i, i ∉ tgS t → σ'[i]? = σ[i]?) : Ag (tgS t) σ σ' := ⟨h1, h2⟩
theorem s_tup (C : CO T k c X) {is : List Nat} {ex : Ex} {xs : List Expr} {kk : Nat} {e : Expr} {p1 pos : Pos} (hl : chkG c (.tp is) (.Tuple xs kk p1) = true) (hn : notTL e = true) (h : VEx T k X ex e) :
    VS T k X W (.asg (.tp is) ex) (.Assign [.Tuple xs kk p1] e pos) := by
  obtain ⟨te, pe, s⟩ := h
  have ps : PS X (.Assign [.Tuple xs kk p1] e pos) (tAsg te (gTg X.K (.tp is))) := by
    refine ps_asg pe (C.tg hl) (show swapsWith e (some (.Tuple xs kk p1)) pos.line X.env = pure false from sw_any fun _ _ h => by cases h) ?_ rfl
    cases e <;> first | rfl | (simp [notTL] at hn)
  refine ⟨_, ps, fun Γ σ H f D en G p => s Γ σ H f _ en G ?_⟩
  obtain ⟨d, Γ1, e1, p⟩ := PSt.bind (r := evE (run T k) ex Γ) p
  rw [e1]
  intro v H1 g1 f1 r1 en1 G1 S1
  cases e2 : setG Γ1 (.tp is) d with
  | none => rw [e2] at p; exact p.elim
  | some Γ2 =>
    rw [e2] at p
    exact setG_ok en1 r1 e2 fun σ' f' q l h1 h2 => p σ' H1 f' q (G1.le l) (S1.less l) (ag_tg h1 h2)
theorem PEL1 {e : Expr} {te : TE} (hn : noStar e = true) (h : PE X e te) : PEL X [e] [te] := .cons hn h .nil
theorem iop_any {X : Cx} {o : Operator} {p : Op} (h : opOfBin o = some p) (hp : p ≠ .pow) : OpR X (inplaceOp o) (fun x y H Q => ∃ i j, x = .int i ∧ y = .int j ∧ binR p x y H Q) := by
  cases o <;> simp [opOfBin] at h <;> subst h <;> intro pins s σ H x y v u Q I rx ry q <;> obtain ⟨i, j, rfl, rfl, q⟩ := q
  · rcases q with q | ⟨_, _, _, _, q, _⟩
    · exact iop_add pins s σ H _ _ v u Q I rx ry q
    · cases q
  · exact iop_sub pins s σ H _ _ v u Q I rx ry q
  · rcases q with q | ⟨_, _, _, q, _⟩
    · exact iop_mul pins s σ H _ _ v u Q I rx ry q
    · cases q
  · exact iop_mod pins s σ H _ _ v u Q I rx ry q
  · exact absurd rfl hp
  · exact iop_shl pins s σ H _ _ v u Q I rx ry q
  · exact iop_shr pins s σ H _ _ v u Q I rx ry q
  · exact iop_or pins s σ H _ _ v u Q I rx ry q
  · exact iop_xor pins s σ H _ _ v u Q I rx ry q
  · exact iop_and pins s σ H _ _ v u Q I rx ry q
  · exact iop_fdivW pins s σ H _ _ v u Q I rx ry q
theorem obs_int {H : Hp} {F : Fp} (i : Int) : Obs H F (.int i) (.int i) := ⟨Fp.zero, rep_int i, fun _ => ⟨Nat.zero_le _, Nat.zero_le _, Nat.zero_le _⟩⟩
theorem rep_i {H : Hp} {i : Int} {v : V} {g : Fp} (r : Rep H (.int i) v g) : v = .int i ∧ g = Fp.zero := by
  unfold Rep at r
  exact r
theorem s_aug (C : CO T k c X) {i : Nat} {ex : Ex} {x : Str} {o : Operator} {p : Op} {e : Expr} {p1 pos : Pos} (hl : loc c i x = true) (hv : vis c i x = true) (ho : opOfBin o = some p) (hp : p ≠ .pow) (h : VEx T k X ex e) : VS T k X W (.aug i p ex) (.AugAssign (.Name x p1) o e pos) := by
  obtain ⟨te, pe, s⟩ := h
  obtain ⟨h1, h2⟩ := loc_of hl
  have nd : X.N.Nodup := by rw [C.N]; exact C.nd
  have hN : X.N[i]? = some x := by rw [C.N]; exact h1
  have ps : PS X (.AugAssign (.Name x p1) o e pos) (tAug i te (fun x y H Q => ∃ i j, x = .int i ∧ y = .int j ∧ binR p x y H Q)) := by
    rcases h2 with h2 | h2
    · exact ps_aug nd hN (.inl (C.loc x h2)) pe (iop_any ho hp) (.inr (C.loc x h2))
    · exact ps_aug nd hN (.inr (C.cel x h2).1) pe (iop_any ho hp) (.inl (C.cel x h2).2)
  refine ⟨_, ps, fun Γ σ H f D en G q => ?_⟩
  have q : PSt X.mg W H f σ [i] D (match gt Γ i with
    | some (.int a) => (evE (run T k) ex Γ).s fun d Γ1 => match d with
      | .int b => match opF p [.int a, .int b] with
        | some v => .nx (Γ1.set i (some v))
        | none => .bad
      | _ => .bad
    | _ => .bad) := q
  split at q
  · rename_i a e1
    obtain ⟨v, g, h', ev, r, rfl, _⟩ := en.put (gt_some e1)
    obtain ⟨rfl, rfl⟩ := rep_i r
    refine ⟨_, ev, s Γ σ H _ _ en G ?_⟩
    obtain ⟨d, Γ1, e2, q⟩ := q.bind
    rw [e2]
    intro y H1 g1 f1 r1 en1 G1 S1
    split at q
    · rename_i b
      obtain ⟨rfl, rfl⟩ := rep_i r1
      split at q
      · rename_i v e3
        refine ⟨a, b, rfl, rfl, bin_sat (F := Fp.zero.add f1) (obs_int a) (obs_int b) e3 ⟨o, ho⟩ (PV.res (σ := σ) (Γ := Γ1) (H := H) (f := Fp.zero.add h') (fun z H2 g2 f2 r2 en2 G2 S2 => ?_) en1 (fun _ p => absurd p (Nat.lt_irrefl 0)) G1 S1)⟩
        obtain ⟨f3, q1, l⟩ := en2.put1 (i := i) r2
        exact q _ H2 f3 q1 (G2.le l) (S2.less l) ⟨List.length_set .., fun j hj => by rw [List.getElem?_set_ne]; rintro rfl; exact hj (List.mem_singleton_self _)⟩
      · exact q.elim
    · exact q.elim
  · exact q.elim
theorem s_exp {ex : Ex} {e : Expr} {pos : Pos} (hn : notLc e = true) (h : VEx T k X ex e) : VS T k X W (.exp ex) (.Expr e pos) := by
  obtain ⟨te, pe, s⟩ := h
  refine ⟨_, ps_expr pe (sw_not hn), fun Γ σ H f D en G p => s Γ σ H f _ en G ?_⟩
  obtain ⟨d, Γ1, e1, p⟩ := PSt.bind (r := evE (run T k) ex Γ) p
  rw [e1]
  exact fun v H' g f' r en' G' S' => p σ H' f' en' (G'.le (Fp.le_addR _ _)) (S'.less (Fp.le_addR _ _)) (Ag.refl _ _)
theorem s_app (C : CO T k c X) {j : Nat} {x : Str} {p1 apos cpos pos : Pos} {ex : Ex} {e : Expr} (hv : vis c j x = true) (hl : (apos.endLine == cpos.line) = true) (hn : noStar e = true) (h : VEx T k X ex e) :
    VS T k X W (.app j ex) (.Expr (.Call (.Attribute (.Name x p1) "append" apos) [e] [] cpos) pos) := by
  obtain ⟨te, pe, s⟩ := h
  refine ⟨_, ps_expr (lm1 C hv PySem.F.slot_list_append PySem.F.type_list_append mt_append hl (by decide) (PEL1 hn pe)) rfl, fun Γ σ H f D en G p => ?_⟩
  have p : PSt X.mg W H f σ [] D (if isL Γ j = true then (evE (run T k) ex Γ).s fun d Γ1 => match gt Γ1 j with
    | some (.lst .own xs) => if xs.length < line then .nx (Γ1.set j (some (.lst .own (xs ++ [d])))) else .bad
    | _ => .bad
    else .bad) := p
  by_cases hi : isL Γ j = true
  · rw [if_pos hi] at p
    obtain ⟨v, ev, ty⟩ := isL_ty (K := X.K) en hi
    refine ⟨v, ev, ty, s Γ σ H f _ en G ?_⟩
    obtain ⟨d, Γ1, e1, p⟩ := p.bind
    rw [e1]
    intro y H1 g1 f1 r1 en1 G1 S1
    split at p
    · rename_i xs e2
      split at p
      · rename_i hb
        obtain ⟨a, vs, gi, h, ev', ha, rl, rfl, up⟩ := mut_ok en1 G1 e2
        rw [ev] at ev'
        cases ev'
        have rl2 : RepL H1 (xs ++ [d]) (vs ++ [y]) (gi.add g1) := by
          have := rl.append (RepL.cons r1 RepL.nil)
          rw [Fp.add_zero] at this
          exact this
        obtain ⟨u1, u2, u3, u4⟩ := up _ _ Fp.zero _ rl2 (by rw [Fp.zero_add, Fp.add_comm]; exact Fp.le.refl _)
        rw [Fp.zero_add] at u2 u3
        refine ⟨a, vs, y, rfl, rfl, ha, ?_, ?_⟩
        · rw [← rl.length, sizeLine_eq]
          unfold line at hb
          omega
        · exact p _ _ _ u1 u2 (S1.trans u3) (Ag.refl _ _)
      · exact p.elim
    · exact p.elim
  · rw [if_neg hi] at p
    exact p.elim
theorem RepL.ins {H : Hp} {d : D} {v : V} {g : Fp} (r : Rep H d v g) : ∀ (n : Nat) {ds : List D} {vs : List V} {f : Fp}, RepL H ds vs f → RepL H (ds.take n ++ [d] ++ ds.drop n) (vs.take n ++ [v] ++ vs.drop n) (g.add f)
  | 0, ds, vs, f, h => by
    simp only [List.take_zero, List.nil_append, List.drop_zero]
    exact RepL.cons r h
  | n + 1, [], vs, f, h => by
    obtain ⟨rfl, rfl⟩ := h.inv0
    exact RepL.cons r RepL.nil
  | n + 1, e :: ds, vs, f, h => by
    obtain ⟨w, ws, g1, h1, rfl, r1, r2, rfl⟩ := h.inv
    have ih := RepL.ins r n r2
    have := RepL.cons r1 ih
    rw [Fp.add_left_comm] at this
    exact this
theorem s_ins (C : CO T k c X) {j : Nat} {x : Str} {p1 apos cpos pos : Pos} {exs : List Ex} {e1 e2 : Expr} (hv : vis c j x = true) (hl : (apos.endLine == cpos.line) = true) (h : VAs T k X exs [e1, e2]) :
    VS T k X W (.ins j exs) (.Expr (.Call (.Attribute (.Name x p1) "insert" apos) [e1, e2] [] cpos) pos) := by
  obtain ⟨ts, p1', l1, s⟩ := h
  refine ⟨_, ps_expr (lm1 C hv PySem.F.slot_list_insert PySem.F.type_list_insert mt_insert hl (by show 1 < 20; decide) p1') rfl, fun Γ σ H f D en G p => ?_⟩
  have p : PSt X.mg W H f σ [] D (if isL Γ j = true then (evAs (run T k) exs Γ).s fun os Γ1 => insE Γ1 j (alls os) (gt Γ1 j) else .bad) := p
  by_cases hi : isL Γ j = true
  · rw [if_pos hi] at p
    obtain ⟨v, ev, ty⟩ := isL_ty (K := X.K) en hi
    refine ⟨v, ev, ty, s Γ σ H f _ en G ?_⟩
    obtain ⟨os, Γ1, e1, p⟩ := p.bind
    rw [e1]
    intro vs1 H1 g1 f1 r1 en1 G1 S1
    unfold insE at p
    split at p
    · rename_i i d xs e2 e3
      split at p
      · rename_i hb
        obtain ⟨hb1, hb2, hb3⟩ := hb
        have rl1 := alls_ok r1 e2
        obtain ⟨w1, ws, g2, g3, rfl, ri, rl2, rfl⟩ := rl1.inv
        obtain ⟨y, ws2, g4, g5, rfl, ry, rl3, rfl⟩ := rl2.inv
        obtain ⟨rfl, rfl⟩ := rl3.inv0
        unfold Rep at ri
        obtain ⟨rfl, rfl⟩ := ri
        rw [Fp.zero_add, Fp.add_zero] at G1 S1
        obtain ⟨a, vs, gi, h, ev', ha, rl, rfl, up⟩ := mut_ok en1 G1 e3
        rw [ev] at ev'
        cases ev'
        have rl2 := RepL.ins ry i.toNat rl
        obtain ⟨u1, u2, u3, u4⟩ := up _ _ Fp.zero _ rl2 (by rw [Fp.zero_add]; exact Fp.le.refl _)
        rw [Fp.zero_add] at u2 u3
        refine ⟨a, vs, i, y, rfl, rfl, ha, ?_, hb1, ?_, ?_⟩
        · rw [← rl.length, sizeLine_eq]
          unfold line at hb3
          omega
        · have : xs.length < 1000000 := hb3
          omega
        · exact p _ _ _ u1 u2 (S1.trans u3) (Ag.refl _ _)
      · exact p.elim
    · exact p.elim
  · rw [if_neg hi] at p
    exact p.elim
theorem s_rem (C : CO T k c X) {j : Nat} {x : Str} {p1 apos cpos pos : Pos} {ex : Ex} {e : Expr} (hv : vis c j x = true) (hl : (apos.endLine == cpos.line) = true) (hn : noStar e = true) (h : VEx T k X ex e) :
    VS T k X W (.rem j ex) (.Expr (.Call (.Attribute (.Name x p1) "remove" apos) [e] [] cpos) pos) := by
  obtain ⟨te, pe, s⟩ := h
  refine ⟨_, ps_expr (lm1 C hv PySem.F.slot_list_remove PySem.F.type_list_remove mt_remove hl (by decide) (PEL1 hn pe)) rfl, fun Γ σ H f D en G p => ?_⟩
  have p : PSt X.mg W H f σ [] D (if isL Γ j = true then (evE (run T k) ex Γ).s fun d Γ1 => remE Γ1 j d (gt Γ1 j) else .bad) := p
  by_cases hi : isL Γ j = true
  · rw [if_pos hi] at p
    obtain ⟨v, ev, ty⟩ := isL_ty (K := X.K) en hi
    refine ⟨v, ev, ty, s Γ σ H f _ en G ?_⟩
    obtain ⟨d, Γ1, e1, p⟩ := p.bind
    rw [e1]
    intro y H1 g1 f1 r1 en1 G1 S1
    unfold remE at p
    split at p
    · rename_i i xs e2
      split at p
      · rename_i ns e3
        split at p
        · rename_i hb
          unfold Rep at r1
          obtain ⟨rfl, rfl⟩ := r1
          obtain ⟨a, vs, gi, h, ev', ha, rl, rfl, up⟩ := mut_ok en1 G1 e2
          rw [ev] at ev'
          cases ev'
          have e4 := ints_of e3
          subst e4
          have e5 := RepL.of_ints rl
          subst e5
          obtain ⟨u1, u2, u3, u4⟩ := up _ _ Fp.zero Fp.zero (RepL.ints (ns.erase i)) (fun a => ⟨Nat.zero_le _, Nat.zero_le _, Nat.zero_le _⟩)
          have u3' := S1.trans u3
          rw [Fp.zero_add] at u2 u3'
          exact ⟨a, ns, i, rfl, rfl, ha, hb, p _ _ _ u1 u2 u3' (Ag.refl _ _)⟩
        · exact p.elim
      · exact p.elim
    · exact p.elim
  · rw [if_neg hi] at p
    exact p.elim
theorem s_ext (C : CO T k c X) {j : Nat} {x : Str} {p1 apos cpos pos : Pos} {ex : Ex} {e : Expr} (hv : vis c j x = true) (hl : (apos.endLine == cpos.line) = true) (hn : noStar e = true) (h : VEx T k X ex e) :
    VS T k X W (.ext j ex) (.Expr (.Call (.Attribute (.Name x p1) "extend" apos) [e] [] cpos) pos) := by
  obtain ⟨te, pe, s⟩ := h
  refine ⟨_, ps_expr (lm1 C hv PySem.F.slot_list_extend PySem.F.type_list_extend mt_extend hl (by decide) (PEL1 hn pe)) rfl, fun Γ σ H f D en G p => ?_⟩
  have p : PSt X.mg W H f σ [] D (if isL Γ j = true then (evE (run T k) ex Γ).s fun d Γ1 => match d, gt Γ1 j with
    | .lst .own ys, some (.lst .own xs) => if xs.length + ys.length ≤ line then .nx (Γ1.set j (some (.lst .own (xs ++ ys)))) else .bad
    | _, _ => .bad
    else .bad) := p
  by_cases hi : isL Γ j = true
  · rw [if_pos hi] at p
    obtain ⟨v, ev, ty⟩ := isL_ty (K := X.K) en hi
    refine ⟨v, ev, ty, s Γ σ H f _ en G ?_⟩
    obtain ⟨d, Γ1, e1, p⟩ := p.bind
    rw [e1]
    intro y H1 g1 f1 r1 en1 G1 S1
    split at p
    · rename_i ys xs e2
      split at p
      · rename_i hb
        obtain ⟨a, vs, gi, h, ev', ha, rl, rfl, up⟩ := mut_ok en1 G1 e2
        rw [ev] at ev'
        cases ev'
        unfold Rep at r1
        obtain ⟨b, zs, g, rfl, rz, hb1, rfl⟩ := r1
        have rl2 : RepL H1 (xs ++ ys) (vs ++ zs) (gi.add g) := rl.append rz
        obtain ⟨u1, u2, u3, u4⟩ := up _ _ Fp.zero _ rl2 (fun c => by simp only [Fp.add, Fp.zero, Fp.own]; omega)
        rw [Fp.zero_add] at u2 u3
        refine ⟨a, b, vs, zs, rfl, rfl, ha, hb1, ?_, ?_⟩
        · rw [← rl.length, ← rz.length, sizeLine_eq]
          unfold line at hb
          omega
        · exact p _ _ _ u1 u2 (S1.trans u3) (Ag.refl _ _)
      · exact p.elim
    · exact p.elim
  · rw [if_neg hi] at p
    exact p.elim
/-- a list within a list of mine -/
theorem mut2_ok {H : Hp} {Γ : En} {σ : L2.St} {f : Fp} {j n : Nat} {xs ys : List D} (en : REnv H Γ σ f) (G : Good f) (e : gt Γ j = some (.lst .own xs)) (hn : xs[n]? = some (.lst .own ys)) :
    ∃ (a b : Addr) (vs ws : List V), σ[j]? = some (some (.ref a)) ∧ H a = some (.lst vs) ∧ vs[n]? = some (.ref b) ∧ H b = some (.lst ws) ∧ ys.length = ws.length ∧
      ∀ (d : D) (y : V) (g : Fp), Rep H d y g → dup d = true → g.le f → ∃ f', REnv (upd H b (.lst (ws ++ [y]))) (Γ.set j (some (.lst .own (xs.set n (.lst .own (ys ++ [d])))))) σ f' ∧ Good f' ∧ Step H f (upd H b (.lst (ws ++ [y]))) f' := by
  obtain ⟨v, g0, h, e1, r, rfl, _, put⟩ := en.put (gt_some e)
  unfold Rep at r
  obtain ⟨a, vs, gi, rfl, rl, ha, rfl⟩ := r
  obtain ⟨w, gd, gr, ew, rd, rfl, _, st⟩ := rl.get hn
  unfold Rep at rd
  obtain ⟨b, ws, gy, rfl, ry, hb, rfl⟩ := rd
  have hlen : n < xs.length := (List.getElem?_eq_some_iff.mp hn).1
  refine ⟨a, b, vs, ws, e1, ha, ew, hb, ry.length, fun d y g rg hd le => ?_⟩
  have zd := Rep.dup d rg hd
  have zb : gy.at b = 0 ∧ gr.at b = 0 ∧ h.at b = 0 ∧ b ≠ a ∧ g.at b = 0 := by
    have q := G.g b
    have l := le b
    have z := zd b
    unfold Fp.add Fp.own at q l
    simp only [one_self] at q l
    have q2 := q.2 (by omega)
    have ne : b ≠ a := fun z => by
      subst z
      rw [one_self] at q
      omega
    unfold Fp.at
    exact ⟨by omega, by omega, by omega, ne, by omega⟩
  obtain ⟨z1, z2, z3, ne, z4⟩ := zb
  have kp : ∀ {e : Fp}, e.at b = 0 → ∀ c u, H c = some u → 0 < e.at c → upd H b (.lst (ws ++ [y])) c = some u := fun {e} z c u hu p => by
    rw [upd_ne fun z' => by subst z'; omega]
    exact hu
  -- the env, the outer list gone
  have en1 : REnv (upd H b (.lst (ws ++ [y]))) (Γ.set j (some .gone)) σ (Fp.zero.add h) := REnv.mono (put .gone Fp.zero (by unfold Rep; rfl)) (kp (by rw [Fp.zero_add]; exact z3)) (tabs_upd hb)
  have rl1 : RepL (upd H b (.lst (ws ++ [y]))) (xs.set n .gone) (vs.set n (.ref b)) (Fp.zero.add gr) := RepL.mono _ (st .gone (.ref b) Fp.zero (by unfold Rep; rfl)) (kp (by rw [Fp.zero_add]; exact z2))
  rw [Fp.zero_add] at en1 rl1
  have ry1 : RepL (upd H b (.lst (ws ++ [y]))) ys ws gy := RepL.mono _ ry (kp z1)
  have rg1 : Rep (upd H b (.lst (ws ++ [y]))) d y g := Rep.mono d rg (kp z4)
  have ry2 := ry1.append (RepL.cons rg1 RepL.nil)
  rw [Fp.add_zero] at ry2
  have rb : Rep (upd H b (.lst (ws ++ [y]))) (.lst .own (ys ++ [d])) (.ref b) ((gy.add g).own b) := by
    unfold Rep
    exact ⟨b, _, _, rfl, ry2, upd_same, rfl⟩
  rw [set_self ew] at rl1
  obtain ⟨w', gd', gr', ew', rd', e2, _, st'⟩ := rl1.get (i := n) (d := .gone) (by simp [hlen])
  unfold Rep at rd'
  subst rd'
  rw [Fp.zero_add] at e2
  subst e2
  have rl2 := st' _ _ _ rb
  rw [List.set_set, set_self ew] at rl2
  have ra : Rep (upd H b (.lst (ws ++ [y]))) (.lst .own (xs.set n (.lst .own (ys ++ [d])))) (.ref a) ((((gy.add g).own b).add gr).own a) := by
    unfold Rep
    exact ⟨a, _, _, rfl, rl2, by rw [upd_ne (Ne.symm ne)]; exact ha, rfl⟩
  obtain ⟨v3, g3, h3, e3, r3, e4, _, put3⟩ := en1.put (i := j) (d := .gone) (by
    have : j < Γ.length := (List.getElem?_eq_some_iff.mp (gt_some e)).1
    simp [this])
  rw [e1] at e3
  cases e3
  unfold Rep at r3
  subst r3
  rw [Fp.zero_add] at e4
  subst e4
  have en2 := put3 _ _ ra
  rw [List.set_set] at en2
  have zg : ∀ c, g.o c = 0 ∧ g.l c = 0 := zd
  refine ⟨_, en2, ⟨fun c => ?_⟩, ⟨fun c u hu p _ => ?_, tabs_upd hb, fun c p => ?_, fun c p => ?_, fun c p => ?_⟩⟩
  · have q := G.g c
    have l := le c
    have z := zg c
    unfold Fp.add Fp.own at q l ⊢
    simp only at q l ⊢
    refine ⟨by omega, fun p => ?_⟩
    have := q.2 (by omega)
    omega
  · have q := G.g c
    unfold Fp.add Fp.own at p
    simp only at p
    by_cases e : c = b
    · subst e
      unfold one at p
      simp at p
    · rw [upd_ne e]
      exact hu
  · have z := zg c
    unfold Fp.add Fp.own at p ⊢
    simp only at p ⊢
    left
    omega
  · have z := zg c
    unfold Fp.add Fp.own at p ⊢
    simp only at p ⊢
    left
    omega
  · have z := zg c
    have l := le c
    unfold Fp.add Fp.own at p l ⊢
    simp only at p l ⊢
    left
    omega
theorem s_appI (C : CO T k c X) {j m : Nat} {x z : Str} {p1 p2 p3 apos cpos pos : Pos} {ei : Ex} {i : Expr} (hv : vis c j x = true) (hz : vis c m z = true) (hs : noSlice i = true) (hl : (apos.endLine == cpos.line) = true) (h : VEx T k X ei i) :
    VS T k X W (.appI j ei m) (.Expr (.Call (.Attribute (.Subscript (.Name x p1) i p2) "append" apos) [.Name z p3] [] cpos) pos) := by
  obtain ⟨ti, pi, si⟩ := h
  refine ⟨_, ps_expr (pe_bm PySem.F.plainAttrs_list PySem.F.slot_list_append PySem.F.type_list_append mt_append (pe_ix ix_seq (C.pv hv) pi (plainIx hs)) (PEL1 (e := .Name z p3) rfl (C.pv hz)).pa rfl rfl hl) rfl, fun Γ σ H f D en G p => ?_⟩
  have p : PSt X.mg W H f σ [] D (if isL Γ j = true then (evE (run T k) ei Γ).s fun n Γ1 => match n, gt Γ1 j, gt Γ1 m with
    | .int n, some (.lst .own xs), some d => if 0 ≤ n ∧ n < xs.length ∧ m ≠ j ∧ dup d = true then match xs[n.toNat]? with
      | some (.lst .own ys) => if ys.length < line then .nx (Γ1.set j (some (.lst .own (xs.set n.toNat (.lst .own (ys ++ [d])))))) else .bad
      | _ => .bad
      else .bad
    | _, _, _ => .bad
    else .bad) := p
  by_cases hi : isL Γ j = true
  · rw [if_pos hi] at p
    obtain ⟨v, ev, ty⟩ := isL_ty (K := X.K) en hi
    refine ⟨v, ev, si Γ σ H f _ en G ?_⟩
    obtain ⟨n, Γ1, e1, p⟩ := p.bind
    rw [e1]
    intro w H1 g1 f1 r1 en1 G1 S1
    split at p
    · rename_i n xs d e2 e3
      obtain ⟨rfl, rfl⟩ := rep_i r1
      rw [Fp.zero_add] at G1 S1
      split at p
      · rename_i hb
        obtain ⟨h1, h2, h3, h4⟩ := hb
        split at p
        · rename_i ys e4
          split at p
          · rename_i h5
            obtain ⟨a, b, vs, ws, q1, q2, q3, q4, q5, up⟩ := mut2_ok en1 G1 e2 e4
            rw [ev] at q1
            cases q1
            obtain ⟨y, gy, hy, ey, ry, le, _⟩ := en1.get (gt_some e3)
            obtain ⟨f', u1, u2, u3⟩ := up d y gy ry h4 (by rw [le]; exact Fp.le_addL _ _)
            refine .inl ⟨a, vs, n, .ref b, rfl, rfl, .inl (.inl q2), ?_, ?_⟩
            · have hn : n.toNat < vs.length := (List.getElem?_eq_some_iff.mp q3).1
              unfold atI ixN
              rw [if_pos h1, if_pos (by omega)]
              exact q3
            · refine ⟨.inl ⟨rfl, ws, .inl (.inl q4)⟩, y, ey, b, ws, y, rfl, rfl, q4, ?_, ?_⟩
              · rw [← q5, sizeLine_eq]
                unfold line at h5
                omega
              · exact p _ _ _ u1 u2 (S1.trans u3) (Ag.refl _ _)
          · exact p.elim
        · exact p.elim
      · exact p.elim
    · exact p.elim
  · rw [if_neg hi] at p
    exact p.elim
theorem as_sub {o i : Expr} {pos : Pos} {env : Env} (h : noSlice i = true) : ∀ v, assign (.Subscript o i pos) env v = (do
      let ov ← holding [v] (eval o env)
      let iv ← holding [v, ov] (eval i env)
      standAt pos
      holding [v, ov, iv] (setItem ov iv v)
      release [v, ov, iv] []) := by
  intro v
  cases i <;> first | rfl | (simp [noSlice] at h)
theorem ixN_of {n : Nat} {k : Int} (h0 : 0 ≤ k) (h1 : k < n) : ixN n k = some k.toNat := by
  unfold ixN
  simp only [h0, h1]
  have : k.toNat < n := by omega
  first
  | (simp [this]; done)
  | (split <;> first | rfl | omega)
theorem s_setI (C : CO T k c X) {j : Nat} {x : Str} {p1 p2 pos : Pos} {ei ex : Ex} {i e : Expr} (hv : vis c j x = true) (hs : noSlice i = true) (h1 : VEx T k X ei i) (h2 : VEx T k X ex e) :
    VS T k X W (.setI j ei ex) (.Assign [.Subscript (.Name x p1) i p2] e pos) := by
  obtain ⟨ti, pi, si⟩ := h1
  obtain ⟨te, pe, se⟩ := h2
  have ps : PS X (.Assign [.Subscript (.Name x p1) i p2] e pos) (tAsg te (gSub (tVar j) ti rSetL)) := by
    refine ps_asg pe (pg_sub (C.pv hv) pi set_list (as_sub hs)) (show swapsWith e (some (.Subscript (.Name x p1) i p2)) pos.line X.env = pure false from sw_any fun _ _ h => by cases h) ?_ ?_
    · cases e <;> rfl
    · rfl
  refine ⟨_, ps, fun Γ σ H f D en G p => se Γ σ H f _ en G ?_⟩
  have p : PSt X.mg W H f σ [] D ((evE (run T k) ex Γ).s fun d Γ1 => if isL Γ1 j = true then (evE (run T k) ei Γ1).s fun n Γ2 => match n, gt Γ2 j with
    | .int n, some (.lst .own xs) => if 0 ≤ n ∧ n < xs.length then .nx (Γ2.set j (some (.lst .own (xs.set n.toNat d)))) else .bad
    | _, _ => .bad
    else .bad) := p
  obtain ⟨d, Γ1, e1, p⟩ := p.bind
  rw [e1]
  intro y H1 g1 f1 r1 en1 G1 S1
  have G1' : Good f1 := G1.le (Fp.le_addR _ _)
  by_cases hi : isL Γ1 j = true
  · rw [if_pos hi] at p
    obtain ⟨v, ev, ty⟩ := isL_ty (K := X.K) en1 hi
    refine ⟨v, ev, si Γ1 σ H1 f1 _ en1 G1' ?_⟩
    obtain ⟨n, Γ2, e2, p⟩ := p.bind
    rw [e2]
    intro w H2 g2 f2 r2 en2 G2 S2
    split at p
    · rename_i n xs e3
      obtain ⟨rfl, rfl⟩ := rep_i r2
      rw [Fp.zero_add] at G2 S2
      split at p
      · rename_i hb
        -- the value beside
        have r1' : Rep H2 d y g1 := Rep.mono d r1 (S2.keeps G1 (Rep.dom d r1))
        have G3 : Good (g1.add f2) := S2.good G1 G2 (Rep.dom d r1)
        have S3 : Step H f H2 (g1.add f2) := S1.trans (S2.beside (Rep.dom d r1))
        obtain ⟨a, vs, gi, h, ev', ha, rl, rfl, up⟩ := mut_ok en2 G3 e3
        rw [ev] at ev'
        cases ev'
        have hk : n.toNat < xs.length := by omega
        obtain ⟨w, gd, gr, ew, rd, rfl, _, st⟩ := rl.get (List.getElem?_eq_getElem hk)
        obtain ⟨u1, u2, u3, u4⟩ := up _ _ Fp.zero _ (st d y g1 r1') (fun b => by simp only [Fp.add, Fp.zero]; omega)
        rw [Fp.zero_add] at u2 u3
        refine ⟨a, vs, n, n.toNat, rfl, rfl, ha, ?_, ?_⟩
        · have := rl.length
          exact ixN_of hb.1 (by omega)
        · exact p _ _ _ u1 u2 (S3.trans u3) (Ag.refl _ _)
      · exact p.elim
    · exact p.elim
  · rw [if_neg hi] at p
    exact p.elim
def rGetL : V → V → Hp → VK → Prop := fun o i H Q => ∃ p xs k v, o = .ref p ∧ i = .int k ∧ H p = some (.lst xs) ∧ 0 ≤ k ∧ xs[k.toNat]? = some v ∧ Q v H
theorem get_list {X : Cx} : PGet X rGetL := by
  intro pins s σ H o i ov iv Q I ro ri h
  obtain ⟨p, xs, k, v, rfl, rfl, hp, h0, hv, q⟩ := h
  cases ro
  obtain ⟨t, rfl⟩ := ri
  obtain ⟨its, r, pl, hz⟩ := I.list (a := p) (xs := xs) (show SqL X.K H p xs from .inl (.inl hp))
  obtain ⟨u, eu, ru⟩ := r.get hv
  have hlt := (List.getElem?_eq_some_iff.mp hv).1
  have hn := line63
  exact wpAny_getItem_list pl.isList h0 (by omega) (by simpa using eu) ⟨v, H, I, ru, q⟩
theorem aug_store {i : Expr} (h : noSlice i = true) : ∀ ov iv new, augStore i ov iv new = (do holding [new, ov, iv] (setItem ov iv new); release [new, ov, iv] []; pure .next) := by
  intro ov iv new
  cases i <;> first | rfl | (simp [noSlice] at h)
theorem s_augI (C : CO T k c X) {j : Nat} {x : Str} {p1 p2 pos : Pos} {ei ex : Ex} {i e : Expr} {o : Operator} {p : Op} (hv : vis c j x = true) (hs : noSlice i = true) (ho : opOfBin o = some p) (hp : p ≠ .pow) (h1 : VEx T k X ei i) (h2 : VEx T k X ex e) :
    VS T k X W (.augI j ei p ex) (.AugAssign (.Subscript (.Name x p1) i p2) o e pos) := by
  obtain ⟨ti, pi, si⟩ := h1
  obtain ⟨te, pe, se⟩ := h2
  refine ⟨_, ps_augS (C.pv hv) pi get_list pe (iop_any ho hp) set_list (aug_store hs), fun Γ σ H f D en G q => ?_⟩
  have q : PSt X.mg W H f σ [] D (if isL Γ j = true then (evE (run T k) ei Γ).s fun n Γ1 => match n, gt Γ1 j with
    | .int n, some (.lst .own xs) => if 0 ≤ n ∧ n < xs.length then match xs[n.toNat]? with
      | some (.int c) => (evE (run T k) ex Γ1).s fun d Γ2 => match d with
        | .int b => match opF p [.int c, .int b], gt Γ2 j with
          | some v, some (.lst .own ys) => if n < ys.length then .nx (Γ2.set j (some (.lst .own (ys.set n.toNat v)))) else .bad
          | _, _ => .bad
        | _ => .bad
      | _ => .bad
      else .bad
    | _, _ => .bad
    else .bad) := q
  by_cases hi : isL Γ j = true
  · rw [if_pos hi] at q
    obtain ⟨v, ev, ty⟩ := isL_ty (K := X.K) en hi
    refine ⟨v, ev, si Γ σ H f _ en G ?_⟩
    obtain ⟨n, Γ1, e1, q⟩ := q.bind
    rw [e1]
    intro w H1 g1 f1 r1 en1 G1 S1
    split at q
    · rename_i n xs e2
      obtain ⟨rfl, rfl⟩ := rep_i r1
      rw [Fp.zero_add] at G1 S1
      split at q
      · rename_i hb
        split at q
        · rename_i cc e3
          obtain ⟨v', g0, h0, ev', r0, e4, _, _⟩ := en1.put (gt_some e2)
          rw [ev] at ev'
          cases ev'
          unfold Rep at r0
          obtain ⟨a, vs, gi, rfl, rl, ha, rfl⟩ := r0
          obtain ⟨z, gz, ez, rz, _⟩ := rl.get' e3
          obtain ⟨rfl, _⟩ := rep_i rz
          refine ⟨a, vs, n, _, rfl, rfl, ha, hb.1, ez, se Γ1 σ H1 f1 _ en1 G1 ?_⟩
          obtain ⟨d, Γ2, e5, q⟩ := q.bind
          rw [e5]
          intro y H2 g2 f2 r2 en2 G2 S2
          split at q
          · rename_i b
            obtain ⟨rfl, rfl⟩ := rep_i r2
            split at q
            · rename_i v ys e6 e7
              split at q
              · rename_i hb2
                refine ⟨cc, b, rfl, rfl, bin_sat (F := Fp.zero.add f2) (obs_int cc) (obs_int b) e6 ⟨o, ho⟩ (PV.res (σ := σ) (Γ := Γ2) (H := H2) (f := f2) (Q := fun z H5 => rSetL (.ref a) (.int n) z H5 fun H6 => D.nx σ H6) (fun z H3 g3 f3 r3 en3 G3 S3 => ?_) en2 (fun _ p => absurd p (Nat.lt_irrefl 0)) G2 ?_)⟩
                · obtain ⟨a2, vs2, gi2, h2, ev2, ha2, rl2, rfl, up⟩ := mut_ok en3 G3 e7
                  rw [ev] at ev2
                  cases ev2
                  have hk : n.toNat < ys.length := by omega
                  obtain ⟨w2, gd, gr, ew, rd, rfl, _, st⟩ := rl2.get (List.getElem?_eq_getElem hk)
                  obtain ⟨u1, u2, u3, u4⟩ := up _ _ Fp.zero _ (st _ z g3 r3) (fun b => by simp only [Fp.add, Fp.zero]; omega)
                  rw [Fp.zero_add] at u2 u3
                  refine ⟨a, vs2, n, n.toNat, rfl, rfl, ha2, ?_, ?_⟩
                  · have := rl2.length
                    exact ixN_of hb.1 (by omega)
                  · refine q _ _ _ u1 u2 ((S1.trans ?_).trans u3) (Ag.refl _ _)
                    rw [Fp.zero_add] at S2
                    exact S2.trans S3
                · rw [Fp.zero_add]
                  exact Step.refl _ _
              · exact q.elim
            · exact q.elim
          · exact q.elim
        · exact q.elim
      · exact q.elim
    · exact q.elim
  · rw [if_neg hi] at q
    exact q.elim

/-! ### loops -/
def frF (cf : CF) (tg : Tg) (fg : List Nat) (b : List Stm) : D → En → S := fun x Γ2 => match setG Γ2 tg x with
  | some Γ3 => fgS fg (exSs cf b Γ3)
  | none => .bad
theorem exS_fr {cf : CF} {tg : Tg} {it : It} {fg : List Nat} {b : List Stm} {Γ : En} : exS cf (.fr tg it fg b) Γ = (evI cf it Γ).s fun xs Γ1 => mapS (fun Γ9 => unlendI Γ1 Γ9 it) (loopS (frF cf tg fg b) xs (wipeE (lendI Γ1 it) fg)) := rfl
def itJ : It → List Nat
  | .seq (.pk j) => [j]
  | _ => []
theorem fr_ok {wi : TI} {tb : TS} {tg : Tg} {it : It} {fg : List Nat} {b : List Stm} {K : PySem.W.Frag} (hI : ∀ Γ σ H f R', REnv H Γ σ f → Good f → PI' K H f σ it R' (evI (run T k) it Γ) → wi σ H R')
    (hB : ∀ Γ σ H f D, REnv H Γ σ f → Good f → PSt X.mg W H f σ (modSs b) D (exSs (run T k) b Γ) → tb D σ H) (hj : ∀ j, it = .seq (.pk j) → j ∉ tgS tg ++ modSs b) (Γ : En) (σ : L2.St) (H : Hp) (f : Fp) (D : Ends) (en : REnv H Γ σ f) (G : Good f)
    (p : PSt X.mg W H f σ (tgS tg ++ modSs b) D (exS (run T k) (.fr tg it fg b) Γ)) : tFor wi (gTg K tg) tb D σ H := by
  rw [exS_fr] at p
  refine hI Γ σ H f _ en G ?_
  obtain ⟨xs, Γ1, e1, p⟩ := p.bind
  rw [e1]
  intro J H1 f1 f' vs g en1 G1 S1 en2 G2 S2 w S3
  have hlv : xs.length = vs.length := w.rep.length
  obtain ⟨fw, enw, lw⟩ := en2.wipe fg
  have w0 : Walks K H1 (Fp.zero.add f') J xs vs g := by rw [Fp.zero_add]; exact w
  have S30 : Step H f H1 (g.add (Fp.zero.add f')) := by rw [Fp.zero_add]; exact S3
  obtain ⟨w1, S4⟩ := less_env w0 S30 lw
  refine ⟨fun i m σc Hc => m = xs.length - i ∧ i ≤ xs.length ∧ ∃ Γc fc, REnv Hc Γc σc fc ∧ Walks K Hc (Fp.zero.add fc) J xs vs g ∧ Step H f Hc (g.add (Fp.zero.add fc)) ∧ Ag (tgS tg ++ modSs b) σ σc ∧
      loopS (frF (run T k) tg fg b) xs (wipeE (lendI Γ1 it) fg) = loopS (frF (run T k) tg fg b) (xs.drop i) Γc, ⟨xs.length, rfl, Nat.zero_le _, _, fw, enw, w1, S4, Ag.refl _ _, rfl⟩, ?_⟩
  rintro i m σc Hc ⟨rfl, hi, Γc, fc, enc, wc, Sc, ag, eq⟩
  rw [eq] at p
  have gd0 : ∀ {fx : Fp}, Good (g.add (Fp.zero.add fx)) → Good fx := fun {fx} h => h.le ((Fp.le_addR _ _).trans (Fp.le_addR _ _))
  by_cases hlt : i < xs.length
  · refine .inr ⟨wc.src.go (by omega), fun σc Hc => i + 1 ≤ xs.length ∧ ∃ Γc fc, REnv Hc Γc σc fc ∧ Walks K Hc (Fp.zero.add fc) J xs vs g ∧ Step H f Hc (g.add (Fp.zero.add fc)) ∧ Ag (tgS tg ++ modSs b) σ σc ∧
      loopS (frF (run T k) tg fg b) xs (wipeE (lendI Γ1 it) fg) = loopS (frF (run T k) tg fg b) (xs.drop (i + 1)) Γc, fun σ' H' ⟨q1, q2⟩ => ⟨xs.length - (i + 1), by omega, rfl, q1, q2⟩, fun x H' y => ?_⟩
    obtain ⟨rfl, hx⟩ := wc.src.yld y (by omega)
    have hdr : xs.drop i = xs[i] :: xs.drop (i + 1) := List.drop_eq_getElem_cons hlt
    obtain ⟨x', gd, hx', rd, ld⟩ := wc.rep.get' (List.getElem?_eq_getElem hlt)
    rw [hx] at hx'
    cases hx'
    have el : loopS (frF (run T k) tg fg b) (xs.drop i) Γc = (match frF (run T k) tg fg b xs[i] Γc with
      | .nx Γ1 => loopS (frF (run T k) tg fg b) (xs.drop (i + 1)) Γ1
      | .ct Γ1 => loopS (frF (run T k) tg fg b) (xs.drop (i + 1)) Γ1
      | .bk Γ1 => .nx Γ1
      | .rt d Γ1 => .rt d Γ1
      | .ex c ds Γ1 => .ex c ds Γ1
      | .bad => .bad) := by rw [hdr]; rfl
    cases e6 : setG Γc tg xs[i] with
    | none =>
      have : frF (run T k) tg fg b xs[i] Γc = .bad := by unfold frF; rw [e6]
      rw [el, this] at p
      exact p.elim
    | some Γ3 =>
      have ef : frF (run T k) tg fg b xs[i] Γc = fgS fg (exSs (run T k) b Γ3) := by unfold frF; rw [e6]
      rw [ef] at el
      refine setG_ok enc rd e6 fun σ2 f4 en4 l4 hl2 ho2 => ?_
      obtain ⟨w4, S4⟩ := item_env wc Sc ld l4
      have G4 : Good f4 := gd0 w4.good
      have ag2 : Ag (tgS tg ++ modSs b) σ σ2 := ag.trans (ag_tg hl2 ho2) (fun _ h => h) fun _ h => List.mem_append_left _ h
      refine hB Γ3 σ2 H' f4 _ en4 G4 ?_
      have side : ∀ {H5 : Hp} {f5 : Fp}, Step H' f4 H5 f5 → Good f5 → Walks K H5 (Fp.zero.add f5) J xs vs g ∧ Step H f H5 (g.add (Fp.zero.add f5)) := fun {H5 f5} S5 G5 => by
        obtain ⟨a1, a2, _⟩ := side_step (P := Fp.zero) (fun a p => absurd p (Nat.lt_irrefl 0)) w4 S4 S5 G5
        exact ⟨a1, a2⟩
      have ag5 : ∀ {σ5 : L2.St}, Ag (modSs b) σ2 σ5 → Ag (tgS tg ++ modSs b) σ σ5 := fun {σ5} h => ag2.trans h (fun _ h => h) fun _ h => List.mem_append_right _ h
      have again : ∀ {Γ5 : En}, loopS (frF (run T k) tg fg b) (xs.drop i) Γc = loopS (frF (run T k) tg fg b) (xs.drop (i + 1)) (wipeE Γ5 fg) → ∀ σ5 H5 f5, REnv H5 Γ5 σ5 f5 → Good f5 → Step H' f4 H5 f5 → Ag (modSs b) σ2 σ5 →
          i + 1 ≤ xs.length ∧ ∃ Γc fc, REnv H5 Γc σ5 fc ∧ Walks K H5 (Fp.zero.add fc) J xs vs g ∧ Step H f H5 (g.add (Fp.zero.add fc)) ∧ Ag (tgS tg ++ modSs b) σ σ5 ∧
          loopS (frF (run T k) tg fg b) xs (wipeE (lendI Γ1 it) fg) = loopS (frF (run T k) tg fg b) (xs.drop (i + 1)) Γc := fun {Γ5} e σ5 H5 f5 en5 G5 S5 a5 => by
        obtain ⟨f7, en7, l7⟩ := en5.wipe fg
        obtain ⟨a1, a2⟩ := side S5 G5
        obtain ⟨a3, a4⟩ := less_env a1 a2 l7
        exact ⟨hlt, _, f7, en7, a3, a4, ag5 a5, eq.trans e⟩
      have hjs : ∀ {σ5 : L2.St}, Ag (modSs b) σ2 σ5 → ∀ j, it = .seq (.pk j) → σ5[j]? = σ[j]? := fun {σ5} h j e => (ag5 h).out j (hj j e)
      cases e7 : exSs (run T k) b Γ3 with
      | nx Γ5 =>
        rw [e7] at el
        exact again el
      | ct Γ5 =>
        rw [e7] at el
        exact again el
      | bk Γ5 =>
        rw [e7] at el
        rw [el] at p
        intro σ5 H5 f5 en5 G5 S5 a5
        obtain ⟨f7, en7, l7⟩ := en5.wipe fg
        obtain ⟨a1, a2⟩ := side S5 G5
        obtain ⟨a3, a4⟩ := less_env a1 a2 l7
        have gx : Good (Fp.zero.add f7) := a3.good.le (Fp.le_addR _ _)
        obtain ⟨f8, q1, q2, q3⟩ := unlendI_ok (it := it) en1 S1 en7 gx (a4.less (Fp.le_addR _ _)) (hjs a5)
        rw [Fp.zero_add] at q2 q3
        exact p σ5 H5 f8 q1 q2 q3 (ag5 a5)
      | rt d Γ5 =>
        rw [e7] at el
        rw [el] at p
        intro v σ5 H5 g5 f5 r5 en5 G5 S5 a5
        obtain ⟨a1, a2⟩ := side S5 G5
        rw [Fp.zero_add] at a2
        obtain ⟨f8, q1, q2, q3⟩ := unlendI_ok (it := it) en1 S1 en5 G5 (a2.less (Fp.le_addR _ _)) (hjs a5)
        exact p v σ5 H5 g5 f8 r5 q1 q2 q3 (ag5 a5)
      | ex cx ds Γ5 =>
        rw [e7] at el
        rw [el] at p
        match ds, p with
        | [d], p =>
          intro C σ5 H5 f5 dx hm en5 G5 S5 a5 hd
          obtain ⟨a1, a2⟩ := side S5 G5
          rw [Fp.zero_add] at a2
          obtain ⟨f8, q1, q2, q3⟩ := unlendI_ok (it := it) en1 S1 en5 (show Good (Fp.zero.add f5) by rw [Fp.zero_add]; exact G5) (show Step H f H5 (Fp.zero.add f5) by rw [Fp.zero_add]; exact a2.less (Fp.le_addR _ _)) (hjs a5)
          rw [Fp.zero_add] at q2 q3
          exact p C σ5 H5 f8 dx hm q1 q2 q3 (ag5 a5) hd
      | bad =>
        rw [e7] at el
        rw [el] at p
        exact p.elim
  · have hie : i = xs.length := by omega
    subst hie
    refine .inl ⟨wc.src.stop (by omega), ?_⟩
    rw [List.drop_length] at p
    have p : PSt X.mg W H f σ (tgS tg ++ modSs b) D (.nx (unlendI Γ1 Γc it)) := p
    obtain ⟨f', q1, q2, q3⟩ := unlendI_ok (it := it) en1 S1 enc (wc.good.le (Fp.le_addR _ _)) (Sc.less (Fp.le_addR _ _)) fun j e => ag.out j (hj j e)
    rw [Fp.zero_add] at q2 q3
    exact p σc Hc f' q1 q2 q3 ag
theorem fold_ok {e : Expr} {env : Env} (h : (match e with | .Set _ _ _ => false | _ => true) = true) : ∀ x, foldedSetIterable e env x = pure x := by
  intro x
  cases e <;> first | rfl | (simp at h)
theorem s_fr (C : CO T k c X) {tg : Tg} {it : It} {fg : List Nat} {b : List Stm} {tge ie : Expr} {bs : List Stmt} {pos : Pos} (hg : chkG c tg tge = true) (hf : (match ie with | .Set _ _ _ => false | _ => true) = true) (hj : (itJ it).all (fun j => !(tgS tg ++ modSs b).contains j) = true)
    (po : PassesOwn (model X.prog X.w) X.A X.env X.xe) (hi : VIx T k X it tge ie) (hb : VSs T k X W b bs) : VS T k X W (.fr tg it fg b) (.For tge ie bs [] pos) := by
  obtain ⟨wi, pi, si⟩ := hi
  obtain ⟨tb, pb, sb⟩ := hb
  refine ⟨_, ps_for po C.calm pi (C.tg hg) pb (fold_ok hf), fun Γ σ H f D en G p => fr_ok si sb (fun j e => ?_) Γ σ H f D en G p⟩
  subst e
  simp only [itJ, List.all_cons, List.all_nil, Bool.and_true, Bool.not_eq_true', List.contains_eq_mem] at hj
  simpa using hj
def whF (cf : CF) (fg : List Nat) (b : List Stm) : En → S := fun Γ1 => fgS fg (exSs cf b Γ1)
theorem whl_ok {tt : TT} {tb : TS} {t : Tx} {fg : List Nat} {b : List Stm} (hT : ∀ Γ σ H f Q, REnv H Γ σ f → Good f → PB H f σ Q (evT (run T k) t Γ) → tt σ H Q)
    (hB : ∀ Γ σ H f D, REnv H Γ σ f → Good f → PSt X.mg W H f σ (modSs b) D (exSs (run T k) b Γ) → tb D σ H) (Γ : En) (σ : L2.St) (H : Hp) (f : Fp) (D : Ends) (en : REnv H Γ σ f) (G : Good f)
    (p : PSt X.mg W H f σ (modSs b) D (exS (run T k) (.whl t fg b) Γ)) : tWhile tt tb D σ H := by
  have p : PSt X.mg W H f σ (modSs b) D (loopW (evT (run T k) t) (whF (run T k) fg b) wfuel (wipeE Γ fg)) := p
  obtain ⟨fw, enw, lw⟩ := en.wipe fg
  refine ⟨fun m σc Hc => ∃ Γc fc, REnv Hc Γc σc fc ∧ Good fc ∧ Step H f Hc fc ∧ Ag (modSs b) σ σc ∧ loopW (evT (run T k) t) (whF (run T k) fg b) wfuel (wipeE Γ fg) = loopW (evT (run T k) t) (whF (run T k) fg b) m Γc,
    ⟨wfuel, _, fw, enw, G.le lw, (Step.refl H f).less lw, Ag.refl _ _, rfl⟩, ?_⟩
  rintro m σc Hc ⟨Γc, fc, enc, Gc, Sc, ag, eq⟩
  rw [eq] at p
  cases m with
  | zero => exact p.elim
  | succ m =>
    have el : loopW (evT (run T k) t) (whF (run T k) fg b) (m + 1) Γc = (match evT (run T k) t Γc with
      | .ok true Γ1 => match whF (run T k) fg b Γ1 with
        | .nx Γ2 => loopW (evT (run T k) t) (whF (run T k) fg b) m Γ2
        | .ct Γ2 => loopW (evT (run T k) t) (whF (run T k) fg b) m Γ2
        | .bk Γ2 => .nx Γ2
        | .rt d Γ2 => .rt d Γ2
        | .ex c ds Γ2 => .ex c ds Γ2
        | .bad => .bad
      | .ok false Γ1 => .nx Γ1
      | .ex _ _ _ => .bad
      | .bad => .bad) := rfl
    refine hT Γc σc Hc fc _ enc Gc ?_
    cases e1 : evT (run T k) t Γc with
    | bad => rw [el, e1] at p; exact p.elim
    | ex _ _ _ => rw [el, e1] at p; exact p.elim
    | ok w Γ1 =>
      rw [e1] at el
      intro H1 f1 en1 G1 S1
      have S1' := Sc.trans S1
      cases w with
      | false =>
        rw [el] at p
        exact p σc H1 f1 en1 G1 S1' ag
      | true =>
        have ef : whF (run T k) fg b Γ1 = fgS fg (exSs (run T k) b Γ1) := rfl
        dsimp only at el
        rw [ef] at el
        rw [if_pos rfl]
        refine ⟨fun σ' H' => ∃ Γc fc, REnv H' Γc σ' fc ∧ Good fc ∧ Step H f H' fc ∧ Ag (modSs b) σ σ' ∧ loopW (evT (run T k) t) (whF (run T k) fg b) wfuel (wipeE Γ fg) = loopW (evT (run T k) t) (whF (run T k) fg b) m Γc,
          fun σ' H' q => ⟨m, Nat.lt_succ_self _, q⟩, hB Γ1 σc H1 f1 _ en1 G1 ?_⟩
        have again : ∀ {Γ5 : En}, loopW (evT (run T k) t) (whF (run T k) fg b) (m + 1) Γc = loopW (evT (run T k) t) (whF (run T k) fg b) m (wipeE Γ5 fg) → ∀ σ5 H5 f5, REnv H5 Γ5 σ5 f5 → Good f5 → Step H1 f1 H5 f5 → Ag (modSs b) σc σ5 →
            ∃ Γc fc, REnv H5 Γc σ5 fc ∧ Good fc ∧ Step H f H5 fc ∧ Ag (modSs b) σ σ5 ∧ loopW (evT (run T k) t) (whF (run T k) fg b) wfuel (wipeE Γ fg) = loopW (evT (run T k) t) (whF (run T k) fg b) m Γc := fun {Γ5} e σ5 H5 f5 en5 G5 S5 a5 => by
          obtain ⟨f7, en7, l7⟩ := en5.wipe fg
          exact ⟨_, f7, en7, G5.le l7, (S1'.trans S5).less l7, ag.trans a5 (fun _ h => h) (fun _ h => h), eq.trans e⟩
        cases e7 : exSs (run T k) b Γ1 with
        | nx Γ5 =>
          rw [e7] at el
          exact again el
        | ct Γ5 =>
          rw [e7] at el
          exact again el
        | bk Γ5 =>
          rw [e7] at el
          rw [el] at p
          intro σ5 H5 f5 en5 G5 S5 a5
          obtain ⟨f7, en7, l7⟩ := en5.wipe fg
          exact p σ5 H5 f7 en7 (G5.le l7) ((S1'.trans S5).less l7) (ag.trans a5 (fun _ h => h) (fun _ h => h))
        | rt d Γ5 =>
          rw [e7] at el
          rw [el] at p
          intro v σ5 H5 g5 f5 r5 en5 G5 S5 a5
          exact p v σ5 H5 g5 f5 r5 en5 G5 (S1'.trans S5) (ag.trans a5 (fun _ h => h) (fun _ h => h))
        | ex cx ds Γ5 =>
          rw [e7] at el
          rw [el] at p
          match ds, p with
          | [d], p => exact fun C σ5 H5 f5 dx hm en5 G5 S5 a5 hd => p C σ5 H5 f5 dx hm en5 G5 (S1'.trans S5) (ag.trans a5 (fun _ h => h) (fun _ h => h)) hd
        | bad =>
          rw [e7] at el
          rw [el] at p
          exact p.elim
theorem s_whl {t : Tx} {fg : List Nat} {b : List Stm} {te : Expr} {bs : List Stmt} {pos : Pos} (po : PassesOwn (model X.prog X.w) X.A X.env X.xe) (ht : VTx T k X t te) (hb : VSs T k X W b bs) : VS T k X W (.whl t fg b) (.While te bs [] pos) := by
  obtain ⟨tt, pt, st⟩ := ht
  obtain ⟨tb, pb, sb⟩ := hb
  exact ⟨_, ps_while po pt pb, fun Γ σ H f D en G p => whl_ok st sb Γ σ H f D en G p⟩
end
end VE

end
section
set_option maxHeartbeats 2000000
/-! VEx1: calls that may raise, raise. -/
namespace VE
open PySem PySem.Spec PyProof.Rows L2
variable [TC]
section
variable {T : Nat → Option Def} {k : Nat} {c : Ctx} {X : Cx} {W : WX}
theorem pass_at (tk : Takes X W) (σ : L2.St) : PassesAt (L2.CX X.prog X.w) X σ (fun cls d H => W cls d σ H) := fun pins H s e s' I q => tk _ _ (XE.of_call I (fun _ _ _ h => h) q)
/-- the call's reading -/
theorem callX_pe (C : CO T k c X) (tk : Takes X W) {f : Nat} {x : Str} {p pos : Pos} {exs : List Ex} {es : List Expr} (hg : gln c x = true) (hl : c.gl.lookup x = some (.fn f)) (he : es.isEmpty = false) (ha : VAs T k X exs es) :
    ∃ te, PE X (.Call (.Name x p) es [] pos) te ∧ ∀ Γ σ H f0 Q, REnv H Γ σ f0 → Good f0 → (match evAs (run T k) exs Γ with
      | .ok os Γ1 => PVX X.mg H f0 σ Q (fun cls d H' => W cls d σ H') (match take Γ1 exs os with
        | some t => (run T k f t.ds).r exs t
        | none => .bad)
      | _ => False) → te σ H Q := by
  obtain ⟨h3, h4⟩ := gln_of hg
  obtain ⟨pd, fA, fd, ps, e1, e2, e3, e4, e5, F⟩ := C.tab.fn x f hl
  obtain ⟨ts, p1, l1, s1⟩ := ha
  have pe : PE X (.Call (.Name x p) es [] pos) (tCallSD (spV T X.mg k f) [] (fun σ cls d H => W cls d σ H) (tL ts)) := by
    cases p1 with
    | nil => cases he
    | cons a b cc => exact pe_callSD F C.room (C.glo x h3) e2 e3 e4 .nil (pass_at tk) (PEL.cons a b cc).pa h4 (starEach_cons a) cc.plain
  refine ⟨_, pe, fun Γ σ H f0 Q en G p => ?_⟩
  refine s1 Γ σ H f0 _ en G ?_
  cases e6 : evAs (run T k) exs Γ with
  | bad => rw [e6] at p; exact p.elim
  | ex _ _ _ => rw [e6] at p; exact p.elim
  | ok os Γ1 =>
    rw [e6] at p
    intro vs H1 g1 f1 r1 en1 G1 S1
    exact call_spX r1 en1 G1 S1 p
/-- from what the statement asks -/
theorem callX_sat {cf : CF} {m : CM} {f : Nat} {exs : List Ex} {Γ : En} {H : Hp} {f0 : Fp} {σ : L2.St} {ms : List Nat} {D : Ends} {Q : VK} (p : PSt X.mg W H f0 σ ms D (kCallX cf m f exs (evAs cf exs Γ)))
    (hQ : ∀ d Γ2, PSt X.mg W H f0 σ ms D (kCM m d Γ2) → ∀ v H' g f', Rep H' d v g → REnv H' Γ2 σ f' → Good (g.add f') → Step H f0 H' (g.add f') → Q v H') : (match evAs cf exs Γ with
      | .ok os Γ1 => PVX X.mg H f0 σ Q (fun cls d H' => W cls d σ H') (match take Γ1 exs os with
        | some t => (cf f t.ds).r exs t
        | none => .bad)
      | _ => False) := by
  unfold kCallX at p
  cases e6 : evAs cf exs Γ with
  | bad => rw [e6] at p; exact p.elim
  | ex _ _ _ => rw [e6] at p; exact p.elim
  | ok os Γ1 =>
    rw [e6] at p
    have p : PSt X.mg W H f0 σ ms D (match take Γ1 exs os with
      | some t => kCallE m ((cf f t.ds).r exs t)
      | none => .bad) := p
    dsimp only
    cases e7 : take Γ1 exs os with
    | none => rw [e7] at p; exact p.elim
    | some t =>
      rw [e7] at p
      dsimp only at p ⊢
      cases e8 : (cf f t.ds).r exs t with
      | bad => rw [e8] at p; exact p.elim
      | ok d Γ2 =>
        rw [e8] at p
        exact hQ d Γ2 p
      | ex cx ds Γ2 =>
        rw [e8] at p
        match ds, p with
        | [d], p => exact fun C H' f' dx hm en G S hd => p C σ H' f' dx hm en G S (Ag.refl _ _) hd
theorem s_callE (C : CO T k c X) (tk : Takes X W) {f : Nat} {x : Str} {p pos pos2 : Pos} {exs : List Ex} {es : List Expr} (hg : gln c x = true) (hl : c.gl.lookup x = some (.fn f)) (he : es.isEmpty = false) (ha : VAs T k X exs es) :
    VS T k X W (.callX .exp f exs) (.Expr (.Call (.Name x p) es [] pos) pos2) := by
  obtain ⟨te, pe, s⟩ := callX_pe C tk (p := p) (pos := pos) hg hl he ha
  refine ⟨_, ps_expr pe rfl, fun Γ σ H f0 D en G p => s Γ σ H f0 _ en G (callX_sat p ?_)⟩
  exact fun d Γ2 q v H' g f' r en' G' S' => q σ H' f' en' (G'.le (Fp.le_addR _ _)) (S'.less (Fp.le_addR _ _)) (Ag.refl _ _)
theorem s_callR (C : CO T k c X) (tk : Takes X W) {f : Nat} {x : Str} {p pos pos2 : Pos} {exs : List Ex} {es : List Expr} (hg : gln c x = true) (hl : c.gl.lookup x = some (.fn f)) (he : es.isEmpty = false) (ha : VAs T k X exs es) :
    VS T k X W (.callX .ret f exs) (.Return (some (.Call (.Name x p) es [] pos)) pos2) := by
  obtain ⟨te, pe, s⟩ := callX_pe C tk (p := p) (pos := pos) hg hl he ha
  refine ⟨_, ps_ret pe, fun Γ σ H f0 D en G p => s Γ σ H f0 _ en G (callX_sat p ?_)⟩
  exact fun d Γ2 q v H' g f' r en' G' S' => q v σ H' g f' r en' G' S' (Ag.refl _ _)
theorem s_callA (C : CO T k c X) (tk : Takes X W) {i f : Nat} {y x : Str} {py p pos pos2 : Pos} {exs : List Ex} {es : List Expr} (hy : loc c i y = true) (hg : gln c x = true) (hl : c.gl.lookup x = some (.fn f)) (he : es.isEmpty = false) (ha : VAs T k X exs es) :
    VS T k X W (.callX (.asg i) f exs) (.Assign [.Name y py] (.Call (.Name x p) es [] pos) pos2) := by
  obtain ⟨te, pe, s⟩ := callX_pe C tk (p := p) (pos := pos) hg hl he ha
  obtain ⟨h1, h2⟩ := loc_of hy
  have nd : X.N.Nodup := by rw [C.N]; exact C.nd
  have hN : X.N[i]? = some y := by rw [C.N]; exact h1
  have ps : PS X (.Assign [.Name y py] (.Call (.Name x p) es [] pos) pos2) (tAsg te (gName i)) := by
    rcases h2 with h2 | h2
    · exact ps_set nd hN (.inl (C.loc y h2)) pe (sw_not rfl) (.inr (C.loc y h2))
    · exact ps_set nd hN (.inr (C.cel y h2).1) pe (sw_not rfl) (.inl (C.cel y h2).2)
  refine ⟨_, ps, fun Γ σ H f0 D en G p => s Γ σ H f0 _ en G (callX_sat p ?_)⟩
  intro d Γ2 q v H1 g1 f1 r1 en1 G1 S1
  have q : PSt X.mg W H f0 σ [i] D (.nx (Γ2.set i (some d))) := q
  obtain ⟨f2, q1, l⟩ := en1.put1 (i := i) r1
  exact q _ H1 f2 q1 (G1.le l) (S1.less l) ⟨List.length_set .., fun j hj => by rw [List.getElem?_set_ne]; rintro rfl; exact hj (List.mem_singleton_self _)⟩
theorem RepO.alls1 {H : Hp} {σ : L2.St} : ∀ {es : List Ex} {os : List Ob} {vs : List V} {g : Fp} {ds : List D}, RepO H σ es os vs g → alls os = some ds → RepL H ds vs g
  | [], [], vs, g, ds, r, h => by
    cases h
    obtain ⟨rfl, rfl⟩ := (show vs = [] ∧ g = Fp.zero from r)
    exact RepL.nil
  | [], _ :: _, vs, g, ds, r, h => r.elim
  | e :: es, [], vs, g, ds, r, h => by cases e <;> exact r.elim
  | e :: es, o :: os, vs, g, ds, r, h => by
    cases o with
    | r => cases h
    | ix _ => cases h
    | v d =>
      obtain ⟨ds', e1, e2⟩ := Option.map_eq_some_iff.mp (show (alls os).map (d :: ·) = some ds from h)
      subst e2
      have r : ∃ v w g1 g2, vs = v :: w ∧ Rep H d v g1 ∧ RepO H σ es os w g2 ∧ g = g1.add g2 := by cases e <;> first | exact r | exact r.elim
      obtain ⟨v, w, g1, g2, rfl, r1, r2, rfl⟩ := r
      exact RepL.cons r1 (RepO.alls1 r2 e1)
theorem rep_xv {H : Hp} {d : D} {v : V} {g : Fp} (h : flat d = true) (r : Rep H d v g) : v = xv d ∧ g = Fp.zero := by
  cases d <;> first | (cases h; done) | exact r
theorem s_rse (C : CO T k c X) (tk : Takes X W) {x fn : Str} {up : List Str} {p pos pos2 : Pos} {exs : List Ex} {es : List Expr} (hg : gln c x = true) (hl : c.gl.lookup x = some (.exc fn up)) (he : es.isEmpty = false) (ha : VAs T k X exs es) :
    VS T k X W (.rse ⟨x, fn⟩ exs) (.Raise (some (.Call (.Name x p) es [] pos)) none pos2) := by
  obtain ⟨h3, h4⟩ := gln_of hg
  obtain ⟨Cl, xc, _⟩ := C.tab.exc x fn up hl
  obtain ⟨fI, fd, ps, i1, i2, i3, F⟩ := xc.ini
  obtain ⟨ts, p1, l1, s1⟩ := ha
  have pm : PMk X (.Call (.Name x p) es [] pos) (tMkO Cl (spI Cl fn) [] (tL ts)) := by
    cases p1 with
    | nil => cases he
    | cons a b cc => exact pmk_oex xc.cls i1 i2 F (C.room.mono (by omega)) i3 .nil passL (C.glo x h3) xc.at_ (PEL.cons a b cc).pa h4 (starEach_cons a) cc.plain
  refine ⟨_, ps_raise C.calm tk pm, fun Γ σ H f D en G q => s1 Γ σ H f _ en G ?_⟩
  have q : PSt X.mg W H f σ [] D ((evAs (run T k) exs Γ).s fun os Γ1 => match alls os with
    | some [d] => if flat d = true then .ex ⟨x, fn⟩ [d] Γ1 else .bad
    | _ => .bad) := q
  obtain ⟨os, Γ1, e1, q⟩ := q.bind
  rw [e1]
  intro vs H1 g1 f1 r1 en1 G1 S1
  split at q
  · rename_i d e2
    split at q
    · rename_i hf
      have rl := r1.alls1 e2
      obtain ⟨v, w, g2, g3, rfl, rv, rn, rfl⟩ := rl.inv
      obtain ⟨rfl, rfl⟩ := rn.inv0
      obtain ⟨rfl, rfl⟩ := rep_xv hf rv
      rw [Fp.zero_add, Fp.zero_add] at G1 S1
      refine ⟨by simp, fun a ha => ⟨a, xv d, rfl, upd_same, fun dx hdx hne => ⟨rfl, dx, [(fn, xv d)], upd_same, ?_, ?_, ?_⟩⟩⟩
      · rw [upd_ne hne, upd_same]
      · rw [upd_ne hne] at hdx
        exact hdx
      · rw [upd_ne hne] at hdx
        have eh : upd (del (upd (upd (upd H1 a (exo a Cl none)) dx (exd dx [(fn, xv d)])) a (exo a Cl (some dx))) a) dx (.xd [(fn, xv d)]) = upd H1 dx (.xd [(fn, xv d)]) := by
          funext b
          by_cases b1 : b = dx
          · rw [b1, upd_same, upd_same]
          · rw [upd_ne b1, upd_ne b1]
            by_cases b2 : b = a
            · rw [b2, ha]
              exact del_same
            · rw [del_ne b2, upd_ne b2, upd_ne b1, upd_ne b2]
        rw [eh]
        have kp : ∀ b u, H1 b = some u → upd H1 dx (.xd [(fn, xv d)]) b = some u := fun b u hu => by
          rw [upd_ne fun e => by rw [e, hdx] at hu; cases hu]
          exact hu
        refine q (.ref Cl) σ _ f1 dx xc.at_ (en1.mono (fun b u hu _ => kp b u hu) fun t => t.ext kp) G1 ⟨fun b u hu h0 nt => kp b u (S1.frame b u hu h0 nt), fun t => (S1.tab t).ext kp, S1.own, S1.lent, S1.shr⟩ (Ag.refl _ _) upd_same
    · exact q.elim
  · exact q.elim
end
end VE

end
section
set_option maxHeartbeats 2000000
/-! VEx2: the making of an own exception. -/
namespace VE
open PySem PySem.Spec PyProof.Rows L2
variable [TC]
/-- the base class of the own exceptions, its __init__ that of ValueError -/
structure BaseAt (K : PySem.W.Frag) (mg : Str → Option Value) (b : Str) (B : Addr) : Prop where
  at_ : mg b = some (.ref B)
  ga : PySem.W.specialIn K (.ref B) "__getattribute__" = some (some (.builtin "type.__getattribute__"))
  rd : ∃ mc, PySem.W.readsIn K B mc = true ∧ PySem.W.findCls K (.ref B) mc "__init__" = some (.val (.builtin "ValueError.__init__"))
section
variable {X : Cx}
theorem pe_binit {b : Str} {B : Addr} {e : Expr} {es : List Expr} {ta : TA} {p1 p2 pos : Pos} {pl : Sem Bool} (hB : BaseAt X.K X.mg b B) (hg : Gl X b) (hdb : (b == ("__debug__" : Str)) = false) (ha : PA X (e :: es) ta)
    (he : starEach (e :: es) X.env = (false, eval e X.env) :: starEach es X.env) (hpl : (backTo pos (starEach es X.env)).any (·.1) = false)
    (hc : eval (.Call (.Attribute (.Name b p1) "__init__" p2) (e :: es) [] pos) X.env = (do
      let cv ← eval (.Name b p1) X.env
      standAt p2.atName
      let (g, fst) ← holding [cv] (getMethod cv "__init__" pl)
      callWith pos g fst (backTo pos (starEach (e :: es) X.env)) (backToKw pos (keywordEach [] X.env)))) :
    PE X (.Call (.Attribute (.Name b p1) "__init__" p2) (e :: es) [] pos) (tVeI X.K ta) := by
  obtain ⟨mc, r1, r2⟩ := hB.rd
  constructor
  intro pins s σ H Q I h
  refine PySem.W.methodCall_KW (ld_glob I hg hB.at_ ?_ hdb) hc
  refine PySem.W.method_cls I.kIn hB.ga (PySem.W.cls_value I.kIn r1 r2 (by decide +kernel) ?_)
  show wpAny _ _ (callWith pos (Value.builtin "ValueError.__init__") [] (backTo pos (starEach (e :: es) X.env)) []) _ _ _
  refine PyProof.Rows.callWith_method1 (thn (ha.run pos pins _ σ H (fun vs H1 => ∃ (a C : Addr) (ws : List V), vs = .ref a :: ws ∧ ws.length ≤ 1000 ∧ OexC X.K C ∧ H1 a = some (exo a C none) ∧ Q .non H1) (I.tok _) h) fun us s1 hh => ?_) he hpl
  obtain ⟨vs, H1, I1, rv, a, C, ws, rfl, lw, oc, ea, q⟩ := hh
  cases rv with
  | cons ra rw2 =>
    cases ra
    refine oinit_ok oc I1 ea ?_ fun s2 I2 => ⟨.non, H1, I2, rfl, q⟩
    rw [← Paired.length rw2, sizeLine_eq]
    omega
end
end VE

end
section
set_option maxHeartbeats 2000000
set_option maxRecDepth 100000
/-! VEx3: try with several except clauses, each with or without a name. -/
namespace VE
open PySem PySem.Spec PyProof.Rows L2
variable [TC]
/-- one clause: its class, its name's slot, its suite's reading -/
structure Cr where
  c : Value
  o : Option Nat
  ts : Addr → Value → Option Addr → TS
def Cr.st (r : Cr) (a : Addr) (τ : L2.St) : L2.St := match r.o with
  | none => τ
  | some i => τ.set i (some (.ref a))
def Cr.en (r : Cr) (D : Ends) : Ends := match r.o with
  | none => D
  | some i => { nx := fun τ G => D.nx (τ.set i none) G, rt := D.rt, bk := fun τ G => D.bk (τ.set i none) G, ct := fun τ G => D.ct (τ.set i none) G }
def wCl (K : PySem.W.Frag) (Wo : WX) (D : Ends) : List Cr → WX
  | [] => Wo
  | r :: rs => fun cl d τ G => (PySem.W.exmOne K cl r.c = some true ∧ ∀ x, G x = none → r.ts x cl d (r.en D) (r.st x τ) G) ∨ (PySem.W.exmOne K cl r.c = some false ∧ wCl K Wo D rs cl d τ G)
inductive Cls (X : Cx) : List ExceptHandler → List Cr → Prop
  | nil : Cls X [] []
  | bare {x : Str} {r : Cr} {su0 : Stmt} {su : List Stmt} {q1 q2 : Pos} {hs : List ExceptHandler} {rs : List Cr} (no : r.o = none) (hc : Names X x r.c)
      (hsu : ∀ (x : Addr) (ob : Obj) (cl : Value) (d : Option Addr) (pn : List (Addr × Obj)), Zc cl d ob → (∃ fl, ob.data = .fields fl) → PSs (X.suite x ((x, ob) :: pn)) (su0 :: su) (r.ts x cl d)) (h : Cls X hs rs) :
      Cls X (.ExceptHandler (some (.Name x q1)) none (su0 :: su) q2 :: hs) (r :: rs)
  | named {x n : Str} {i : Nat} {r : Cr} {su0 : Stmt} {su : List Stmt} {q1 q2 : Pos} {hs : List ExceptHandler} {rs : List Cr} (no : r.o = some i) (hc : Names X x r.c) (hi : X.N[i]? = some n) (hln : X.env.kindOf n = some .local)
      (hsu : ∀ (x : Addr) (ob : Obj) (cl : Value) (d : Option Addr) (pn : List (Addr × Obj)), Zc cl d ob → (∃ fl, ob.data = .fields fl) → PSs (X.suite x ((x, ob) :: pn)) (su0 :: su) (r.ts x cl d)) (h : Cls X hs rs) :
      Cls X (.ExceptHandler (some (.Name x q1)) (some n) (su0 :: su) q2 :: hs) (r :: rs)
/-- what is known at the clauses -/
structure Down (X : Cx) (pins : List (Addr × Obj)) (τ : L2.St) (G : Hp) (a : Addr) (cl : Value) (d : Option Addr) (B : Heap) (z : Shared) (g : Heap) : Prop where
  ok : X.Ok
  inv : Inv X pins τ G { z with heap := g }
  fly : HandSPX.FlyingZ B (X.env :: X.outer) a (Zc cl d) g
  na : G a = none
  again : ∀ {g2 : Heap}, HandSPX.FlyingZ B (X.env :: X.outer) a (Zc cl d) g2 → g.UpToSlots g2 → Inv X pins τ G { z with heap := g2 }
theorem Down.out {X : Cx} {pins : List (Addr × Obj)} {τ : L2.St} {G : Hp} {a : Addr} {cl : Value} {d : Option Addr} {B : Heap} {z : Shared} {g : Heap} (W : Down X pins τ G a cl d B z g) {h : Heap} {ob : Obj} {fl : Array Value} (ff : h.FunFrames B (X.env :: X.outer)) (e : h.get? a = some ob) (hd : ob.data = .fields fl) : a ∉ frs (X.env :: X.outer) := by
  intro hm
  obtain ⟨_, o2, e2, hn⟩ := ff.mem hm
  rw [e] at e2
  cases e2
  exact hn _ hd
theorem Down.side {X : Cx} {pins : List (Addr × Obj)} {τ : L2.St} {G : Hp} {a : Addr} {cl : Value} {d : Option Addr} {B : Heap} {z : Shared} {g : Heap} (W : Down X pins τ G a cl d B z g) (hf : X.env.frame = some X.env.locals) : a ≠ X.env.locals ∧ a ∉ X.fs := by
  obtain ⟨ob, fl, e, _, hd⟩ := W.fly.there
  have nf := W.out W.fly.2.2.1 e hd
  constructor
  · intro q
    refine nf (List.mem_filterMap.mpr ⟨X.env, List.mem_cons_self, ?_⟩)
    rw [hf, q]
  · intro hm
    obtain ⟨y, hy, q⟩ := List.mem_filterMap.mp hm
    exact nf (List.mem_filterMap.mpr ⟨y, List.mem_cons_of_mem _ hy, q⟩)
section
variable {X : Cx} {pins : List (Addr × Obj)} {Wo : WX} {D : Ends} {τ : L2.St} {G : Hp} {a : Addr} {cl : Value} {d : Option Addr} {B : Heap} {z : Shared} {g : Heap}
/-- the class that the clause names is read -/
theorem Down.name (W : Down X pins τ G a cl d B z g) (hf : X.env.frame = some X.env.locals) {x : Str} {q1 : Pos} {c : Value} (hc : Names X x c) {Q : Value → Shared → Prop} {E : Value → Shared → Prop} (q : Q c { z with heap := g }) :
    wpAny (model X.prog X.w) (X.A.mark (some (.ref a))) (eval (.Name x q1) X.env) Q E { z with heap := g } := by
  obtain ⟨ob, fl, e, _, hd⟩ := W.fly.there
  have J := W.inv.suite e hd W.na (W.side hf).1 (W.side hf).2
  obtain ⟨c1, c2, c3⟩ := hc
  rcases c3 with c3 | ⟨c3, c4, c5⟩
  · exact ld_glob (X := X.suite a ((a, ob) :: (X.pn ++ pins))) J c1 c3 q c2
  · exact ld_blt (X := X.suite a ((a, ob) :: (X.pn ++ pins))) J c1 c3 c4 q c5 c2
theorem Down.look (W : Down X pins τ G a cl d B z g) : PySem.W.Looks (model X.prog X.w) g (typeOf (.ref a)) cl := by
  obtain ⟨ob, fl, e, hz, hd⟩ := W.fly.there
  intro A Q E s k q
  refine wpAny_typeOf_ref (k _ _ e) ?_
  rw [hz.1]
  exact q
/-- a clause without a name takes it -/
theorem Down.bare (W : Down X pins τ G a cl d B z g) (hf : X.env.frame = some X.env.locals) {r : Cr} (no : r.o = none) {x : Str} {su0 : Stmt} {su : List Stmt} {q1 q2 : Pos} {hs : List ExceptHandler}
    (hsu : ∀ (x : Addr) (ob : Obj) (cl : Value) (d : Option Addr) (pn : List (Addr × Obj)), Zc cl d ob → (∃ fl, ob.data = .fields fl) → PSs (X.suite x ((x, ob) :: pn)) (su0 :: su) (r.ts x cl d))
    (q : r.ts a cl d (r.en D) (r.st a τ) G) {A0 : Around} (hA : A0 = X.A) {c : Value} (hm : PySem.W.exmOne X.K cl c = some true) (hc : Names X x c) : wpAny (model X.prog X.w) X.A (handleBy (.ref a) X.env (.ExceptHandler (some (.Name x q1)) none (su0 :: su) q2 :: hs)) (SP X pins D) X.xe { z with heap := g } := by
  refine wpAny_handleBy_cons (codeAny_handlers_test (W.name hf hc ?_)) (by intro q; cases q)
  refine (PySem.W.exm_one (M := model X.prog X.w) W.inv.kIn W.look hm).here (codeAny_handlers_suite ?_)
  refine HandSPX.lands_againZ W.fly fun g2 fl2 up2 => ?_
  have J := W.again fl2 up2
  obtain ⟨ob, fl, e, hz, hd⟩ := fl2.there
  have J2 := J.suite e hd W.na (W.side hf).1 (W.side hf).2
  have e1 : r.st a τ = τ := by unfold Cr.st; rw [no]
  have e2 : r.en D = D := by unfold Cr.en; rw [no]
  rw [e1, e2] at q
  refine wpAny_mono ((hsu a ob cl d (X.pn ++ pins) hz ⟨_, hd⟩).run [] _ _ G _ J2 q) (fun w z6 sp => ?_) (fun _ _ z => False.elim z)
  cases w with
  | ret u =>
    obtain ⟨y, τ6, G6, L6, ry, qy⟩ := sp
    exact ⟨y, τ6, G6, L6.unsuite W.ok, ry, qy⟩
  | next | brk | cont =>
    obtain ⟨τ6, G6, L6, qy⟩ := sp
    exact ⟨τ6, G6, L6.unsuite W.ok, qy⟩
/-- a clause with a name takes it -/
theorem Down.named (W : Down X pins τ G a cl d B z g) (hf : X.env.frame = some X.env.locals) (nd : X.N.Nodup) {r : Cr} {i : Nat} {n : Str} (no : r.o = some i) (hi : X.N[i]? = some n) (hln : X.env.kindOf n = some .local) {x : Str} {su0 : Stmt} {su : List Stmt} {q1 q2 : Pos} {hs : List ExceptHandler}
    (hsu : ∀ (x : Addr) (ob : Obj) (cl : Value) (d : Option Addr) (pn : List (Addr × Obj)), Zc cl d ob → (∃ fl, ob.data = .fields fl) → PSs (X.suite x ((x, ob) :: pn)) (su0 :: su) (r.ts x cl d))
    (q : r.ts a cl d (r.en D) (r.st a τ) G) {c : Value} (hm : PySem.W.exmOne X.K cl c = some true) (hc : Names X x c) : wpAny (model X.prog X.w) X.A (handleBy (.ref a) X.env (.ExceptHandler (some (.Name x q1)) (some n) (su0 :: su) q2 :: hs)) (SP X pins D) X.xe { z with heap := g } := by
  refine wpAny_handleBy_cons (codeAny_handlers_test (W.name hf hc ?_)) (by intro q; cases q)
  refine (PySem.W.exm_one (M := model X.prog X.w) W.inv.kIn W.look hm).here (codeAny_handlers_suite_as ?_)
  refine HandSPX.lands_againZ W.fly fun g2 fl2 up2 => ?_
  have J := W.again fl2 up2
  obtain ⟨ob, fl, e, hz, hd⟩ := fl2.there
  have J2 := J.suite e hd W.na (W.side hf).1 (W.side hf).2
  have e1 : r.st a τ = τ.set i (some (.ref a)) := by unfold Cr.st; rw [no]
  have e2 : r.en D = { nx := fun τ G => D.nx (τ.set i none) G, rt := D.rt, bk := fun τ G => D.bk (τ.set i none) G, ct := fun τ G => D.ct (τ.set i none) G } := by unfold Cr.en; rw [no]
  rw [e1, e2] at q
  refine store_ok (X := X.suite a ((a, ob) :: (X.pn ++ pins))) (v := .ref a) J2 nd hi (.inl hln) rfl (fun z5 L5 => ?_) (.inr hln)
  refine wpAny_mono ((hsu a ob cl d (X.pn ++ pins) hz ⟨_, hd⟩).run [] z5 _ G _ L5 q) (fun w z6 sp => ?_) (fun _ _ z => False.elim z)
  cases w with
  | ret u =>
    obtain ⟨y, τ6, G6, L6, ry, qy⟩ := sp
    exact gone_ok (L6.unsuite W.ok) nd hi hln fun z7 L7 => ⟨y, _, _, L7, ry, qy⟩
  | next | brk | cont =>
    obtain ⟨τ6, G6, L6, qy⟩ := sp
    exact gone_ok (L6.unsuite W.ok) nd hi hln fun z7 L7 => ⟨_, _, L7, qy⟩
/-- the clauses, one after the other; past the last one it flies on -/
theorem Down.go (W : Down X pins τ G a cl d B z g) (hf : X.env.frame = some X.env.locals) (nd : X.N.Nodup) (fin : Wo cl d τ G → wpAny (model X.prog X.w) X.A (handleBy (.ref a) X.env []) (SP X pins D) X.xe { z with heap := g }) {hs : List ExceptHandler} {rs : List Cr} (h : Cls X hs rs) (q : wCl X.K Wo D rs cl d τ G) :
    wpAny (model X.prog X.w) X.A (handleBy (.ref a) X.env hs) (SP X pins D) X.xe { z with heap := g } := by
  induction h with
  | nil => exact fin q
  | bare no hc hsu h ih =>
    rcases q with ⟨m, q⟩ | ⟨m, q⟩
    · exact W.bare hf no hsu (q a W.na) rfl m hc
    · refine wpAny_handleBy_cons (codeAny_handlers_test (W.name hf hc ?_)) (by intro q; cases q)
      exact (PySem.W.exm_one (M := model X.prog X.w) W.inv.kIn W.look m).here (ih q)
  | named no hc hi hln hsu h ih =>
    rcases q with ⟨m, q⟩ | ⟨m, q⟩
    · exact W.named hf nd no hi hln hsu (q a W.na) m hc
    · refine wpAny_handleBy_cons (codeAny_handlers_test (W.name hf hc ?_)) (by intro q; cases q)
      exact (PySem.W.exm_one (M := model X.prog X.w) W.inv.kIn W.look m).here (ih q)
end
section
variable {X : Cx} {Wo : WX} {body : List Stmt} {h0 : ExceptHandler} {hds : List ExceptHandler} {rs : List Cr} {pos : Pos} {tb : WX → TS}
theorem ps_tryCl (hs : X.stack = X.env :: X.outer) (hf : X.env.frame = some X.env.locals) (nd : X.N.Nodup) (tk : Takes X Wo)
    (hb : ∀ (W : WX) (pn : List (Addr × Obj)) (xe : Value → Shared → Prop), Takes (X.tr pn xe) W → PassesOwn (model X.prog X.w) X.A X.env xe → PSs (X.tr pn xe) body (tb W))
    (hh : Cls X (h0 :: hds) rs) : PS X (.Try body (h0 :: hds) [] [] pos) (fun D τ G => tb (wCl X.K Wo D rs) D τ G) := by
  constructor
  intro pins z0 τ0 G0 D I0 q0
  have ok := I0.ok
  have hfr : X.A.frames = some (X.env :: X.outer) := by rw [ok.frames, hs]
  refine wpAny_Try_except (wpAny_mono ((hb (wCl X.K Wo D rs) (X.pn ++ pins) (fun y z1 => wpAny (model X.prog X.w) X.A (noteFrame y X.env) (fun _ z2 => wpAny (model X.prog X.w) X.A (setFlight y none) (fun _ z3 =>
    wpAny (model X.prog X.w) X.A (handleBy y X.env (h0 :: hds)) (SP X pins D) X.xe z3) X.xe z2) X.xe z1) (fun y z1 air => ?_) PassesOwn.looking).run [] z0 τ0 G0 D (I0.toTry _) q0) (fun w z1 sp => ?_) fun y z1 q => q)
  · obtain ⟨a, B, zI, pins', τ, G, cl, d, rfl, J', nb, up, sky, na, os, ag, w⟩ := air
    have J : Inv X pins τ G zI := J'.ofTry ok
    have sky' : Sky B (X.env :: X.outer) a (Zc cl d) X.env.locals z1.heap := by rw [← hs]; exact sky
    show wpAny (model X.prog X.w) X.A (noteFrame (.ref a) X.env) _ _ _
    refine Sky.land Zc.steady hfr hf sky' fun g fly upg => ?_
    have Dn : Down X pins τ G a cl d B z1 g := ⟨ok, J.landed nb fly.1 (up.trans upg) os ag, fly, na, fun f2 u2 => J.landed nb f2.1 ((up.trans upg).trans u2) os ag⟩
    refine Dn.go hf nd (fun w => ?_) hh w
    refine wpAny_handleBy_nil ?_
    obtain ⟨_, _, _, ob, fl, T, oT, tls, e, hz, hd, h1, hr⟩ := id fly
    unfold PySem.passOn
    refine wpAny_bind (wpAny_field e hd h1 ?_)
    rw [if_neg (show ¬ ((Value.ref T == Value.none) = true) from by simp)]
    have fin : wpAny (model X.prog X.w) X.A (setFlight (.ref a) X.env.frame) (fun _ z4 => wpAny (model X.prog X.w) X.A (throw (.ref a) : Sem Flow) (SP X pins D) X.xe z4) X.xe { z1 with heap := g } := by
      rw [hf]
      refine HandSPX.setFlight_upZ fly fun g4 held up4 => wpAny_throw (tk _ _ ?_)
      exact ⟨a, B, zI, pins, τ, G, cl, d, rfl, J, nb, (up.trans upg).trans up4, .inr (.inr (by rw [hs]; exact held)), na, os, ag, w⟩
    first
      | exact wpAny_bind (wpAny_pure (wpAny_bind fin))
      | exact wpAny_bind fin
  · cases w with
    | next =>
      obtain ⟨τ, G, J', q⟩ := sp
      exact wpAny_execs_nil ⟨τ, G, J'.ofTry ok, q⟩
    | ret u =>
      obtain ⟨y, τ, G, J', r, q⟩ := sp
      exact ⟨y, τ, G, J'.ofTry ok, r, q⟩
    | brk | cont =>
      obtain ⟨τ, G, J', q⟩ := sp
      exact ⟨τ, G, J'.ofTry ok, q⟩
end
end VE

end
section
set_option maxHeartbeats 2000000
/-! VEx4: except clauses of one statement, and the try. -/
namespace VE
open PySem PySem.Spec PyProof.Rows L2
variable [TC]
section
variable {T : Nat → Option Def} {k : Nat} {c : Ctx} {X : Cx}
structure Top (X : Cx) (W : WX) : Prop where
  hs : X.stack = X.env :: X.outer
  hf : X.env.frame = some X.env.locals
  tk : Takes X W
  po : PassesOwn (model X.prog X.w) X.A X.env X.xe
theorem CO.tr (C : CO T k c X) (pn : List (Addr × Obj)) (xe : Value → Shared → Prop) : CO T k c (X.tr pn xe) :=
  ⟨C.N, C.nd, C.vis, C.loc, C.cel, C.cf, C.glo, C.kind, C.calm, C.room, C.lam, C.tab⟩
theorem VSs.all {b : List Stm} {bs : List Stmt} (h : ∀ W pn xe, Top (X.tr pn xe) W → VSs T k (X.tr pn xe) W b bs) : ∃ tb : WX → TS, (∀ W pn xe, Top (X.tr pn xe) W → PSs (X.tr pn xe) bs (tb W)) ∧
    ∀ W Γ σ H f D, REnv H Γ σ f → Good f → PSt X.mg W H f σ (modSs b) D (exSs (run T k) b Γ) → tb W D σ H := by
  refine ⟨fun W D σ H => ∀ pn xe (tp : Top (X.tr pn xe) W), (h W pn xe tp).choose D σ H, fun W pn xe tp => ⟨fun pins s σ H D I hq => (h W pn xe tp).choose_spec.1.run pins s σ H D I (hq pn xe tp)⟩,
    fun W Γ σ H f D en G p pn xe tp => (h W pn xe tp).choose_spec.2 Γ σ H f D en G p⟩
/-! items -/
def chkHI (c : Ctx) (sl : Option Nat) (cs : List Xn) : HI → Expr → Bool
  | .cst q, .Constant u _ _ => eqCst u q
  | .fld, .Attribute (.Name n _) f _ => (match sl with
    | some i => vis c i n
    | none => false) && cs.all fun y => decide (y.fn = f)
  | _, _ => false
def chkHIs (c : Ctx) (sl : Option Nat) (cs : List Xn) : List HI → List Expr → Bool
  | [], xs => xs.isEmpty
  | h :: hs, x :: xs => noStar x && chkHI c sl cs h x && chkHIs c sl cs hs xs
  | _, _ => false
def chkHV (c : Ctx) (sl : Option Nat) (cs : List Xn) : HV → Expr → Bool
  | .one h, e => chkHI c sl cs h e
  | .tup hs, .Tuple xs _ _ => decide (xs.length ≤ 1000) && chkHIs c sl cs hs xs
  | _, _ => false
/-- a class that the clause takes -/
structure Suit (K : PySem.W.Frag) (cs : List Xn) (Ca : Addr) (fn : Str) : Prop where
  xf : XfC K Ca
  mem : ∃ y, y ∈ cs ∧ y.fn = fn
  nof : PySem.W.findIn K (.ref Ca) fn = some none
/-- where a handler's expression stands -/
structure Here (sl : Option Nat) (a Ca dx : Addr) (fn : Str) (d : D) (σ : L2.St) (H : Hp) : Prop where
  sl : ∀ i, sl = some i → σ[i]? = some (some (.ref a))
  dx : H dx = some (.xd [(fn, xv d)])
  fl : flat d = true
abbrev TH := Addr → Value → Option Addr → Addr → TE
theorem rep_xvd {H : Hp} {d : D} (h : flat d = true) : Rep H d (xv d) Fp.zero := by
  cases d <;> first | (cases h; done) | (unfold Rep; exact ⟨rfl, rfl⟩)
def HI.v (d : D) : HI → V
  | .cst q => q.v
  | .fld => xv d
theorem HI.rep {H : Hp} {d : D} (h : flat d = true) : ∀ q : HI, Rep H (q.d d) (q.v d) Fp.zero
  | .cst q => rep_cst q
  | .fld => rep_xvd h
theorem HI.reps {H : Hp} {d : D} (h : flat d = true) : ∀ hs : List HI, RepL H (hs.map (HI.d d)) (hs.map (HI.v d)) Fp.zero
  | [] => RepL.nil
  | q :: hs => by
    have := RepL.cons (HI.rep (H := H) h q) (HI.reps h hs)
    rw [Fp.zero_add] at this
    exact this
theorem hi_ok (C : CO T k c X) {sl : Option Nat} {cs : List Xn} {h : HI} {e : Expr} (hc : chkHI c sl cs h e = true) : ∃ te : TH, (∀ a ob cl d pn Ca fn, Suit X.K cs Ca fn → Zc cl d ob → (∃ fl, ob.data = .fields fl) → PE (X.suite a ((a, ob) :: pn)) e (te a cl d Ca)) ∧
    ∀ a Ca dx fn d σ H Q, Suit X.K cs Ca fn → Here sl a Ca dx fn d σ H → Q (h.v d) H → te a (.ref Ca) (some dx) Ca σ H Q := by
  unfold chkHI at hc
  split at hc
  · rename_i q u n p
    refine ⟨fun _ _ _ _ => tC q.v, fun a ob cl d pn Ca fn _ _ _ => ?_, fun a Ca dx fn d σ H Q _ _ r => r⟩
    cases u <;> cases q <;> simp [eqCst] at hc
    · exact pe_non
    · subst hc; exact pe_bl
    · subst hc; exact pe_int
    · subst hc; exact pe_str
  · rename_i n p f p2
    rw [Bool.and_eq_true] at hc
    obtain ⟨h1, h2⟩ := hc
    cases sl with
    | none => cases h1
    | some i =>
      obtain ⟨v1, v2, v3, v4⟩ := vis_of h1
      refine ⟨fun a cl d Ca => tXf a cl d Ca f (tVar i), fun a ob cl d pn Ca fn S hz hf => ?_, fun a Ca dx fn d σ H Q S He q => ?_⟩
      · obtain ⟨y, hy, rfl⟩ := S.mem
        have := of_decide_eq_true (List.all_eq_true.mp h2 y hy)
        subst this
        exact pe_xf S.xf S.nof hz hf (pe_var (by show X.N[i]? = some n; rw [C.N]; exact v1) (C.vis n v4) v2 v3)
      · obtain ⟨y, hy, rfl⟩ := S.mem
        have := of_decide_eq_true (List.all_eq_true.mp h2 y hy)
        subst this
        exact ⟨.ref a, He.sl i rfl, rfl, rfl, dx, _, xv d, rfl, He.dx, by simp [List.lookup], q⟩
  · cases hc
theorem his_ok (C : CO T k c X) {sl : Option Nat} {cs : List Xn} : ∀ {hs : List HI} {es : List Expr}, chkHIs c sl cs hs es = true → ∃ ts : Addr → Value → Option Addr → Addr → List TE, (∀ a ob cl d pn Ca fn, Suit X.K cs Ca fn → Zc cl d ob → (∃ fl, ob.data = .fields fl) → PEL (X.suite a ((a, ob) :: pn)) es (ts a cl d Ca)) ∧
    ∀ a Ca dx fn d σ H Q, Suit X.K cs Ca fn → Here sl a Ca dx fn d σ H → Q (hs.map (HI.v d)) H → tL (ts a (.ref Ca) (some dx) Ca) σ H Q
  | [], es, hc => by
    have : es = [] := by simpa [chkHIs] using hc
    subst this
    exact ⟨fun _ _ _ _ => [], fun _ _ _ _ _ _ _ _ _ _ => .nil, fun a Ca dx fn d σ H Q _ _ q => q⟩
  | h :: hs, [], hc => by simp [chkHIs] at hc
  | h :: hs, e :: es, hc => by
    unfold chkHIs at hc
    simp only [Bool.and_eq_true] at hc
    obtain ⟨⟨h1, h2⟩, h3⟩ := hc
    obtain ⟨te, p1, s1⟩ := hi_ok C h2
    obtain ⟨ts, p2, s2⟩ := his_ok C h3
    refine ⟨fun a cl d Ca => te a cl d Ca :: ts a cl d Ca, fun a ob cl d pn Ca fn S hz hf => .cons h1 (p1 a ob cl d pn Ca fn S hz hf) (p2 a ob cl d pn Ca fn S hz hf), fun a Ca dx fn d σ H Q S He q => ?_⟩
    exact s1 a Ca dx fn d σ H _ S He (s2 a Ca dx fn d σ H _ S He q)
theorem hv_ok (C : CO T k c X) {sl : Option Nat} {cs : List Xn} {h : HV} {e : Expr} (hc : chkHV c sl cs h e = true) : ∃ te : TH, (∀ a ob cl d pn Ca fn, Suit X.K cs Ca fn → Zc cl d ob → (∃ fl, ob.data = .fields fl) → PE (X.suite a ((a, ob) :: pn)) e (te a cl d Ca)) ∧
    ∀ a Ca dx fn d σ σ0 H H0 f0 f Γ Q, Suit X.K cs Ca fn → Here sl a Ca dx fn d σ H → REnv H Γ σ0 f → Good f → Step H0 f0 H f → PV H0 f0 σ0 Q (.ok (h.d d) Γ) → te a (.ref Ca) (some dx) Ca σ H Q := by
  unfold chkHV at hc
  split at hc
  · rename_i h
    obtain ⟨te, p1, s1⟩ := hi_ok C hc
    refine ⟨te, p1, fun a Ca dx fn d σ σ0 H H0 f0 f Γ Q S He en G St p => s1 a Ca dx fn d σ H Q S He ?_⟩
    exact p _ H Fp.zero f (HI.rep He.fl h) en (by rw [Fp.zero_add]; exact G) (by rw [Fp.zero_add]; exact St)
  · rename_i hs xs n p
    rw [Bool.and_eq_true] at hc
    obtain ⟨h1, h2⟩ := hc
    have hl := of_decide_eq_true h1
    have ln : ∀ {hs : List HI} {xs : List Expr}, chkHIs c sl cs hs xs = true → hs.length = xs.length := by
      intro hs
      induction hs with
      | nil =>
        intro xs q
        have : xs = [] := by simpa [chkHIs] using q
        rw [this]
        rfl
      | cons q hs ih =>
        intro xs r
        cases xs with
        | nil => simp [chkHIs] at r
        | cons x xs =>
          unfold chkHIs at r
          simp only [Bool.and_eq_true] at r
          rw [List.length_cons, List.length_cons, ih r.2]
    obtain ⟨ts, p1, s1⟩ := his_ok C h2
    refine ⟨fun a cl d Ca => tTup (tL (ts a cl d Ca)), fun a ob cl d pn Ca fn S hz hf => pe_tup (p1 a ob cl d pn Ca fn S hz hf).pa, fun a Ca dx fn d σ σ0 H H0 f0 f Γ Q S He en G St p => ?_⟩
    refine s1 a Ca dx fn d σ H _ S He ⟨?_, fun q hq => ?_⟩
    · rw [List.length_map, ln h2]
      exact len1000 hl
    · refine PV.new p en (g := Fp.zero) (fun y hy => absurd hy (by simp [Fp.at, Fp.zero])) (by rw [Fp.zero_add]; exact G) (by rw [Fp.zero_add]; exact St) hq (gp := Fp.zero.sh q) ?_ (.inr rfl)
      show Rep _ (.tup (hs.map (HI.d d))) _ _
      unfold Rep
      exact ⟨q, _, Fp.zero, rfl, rep_upd (HI.reps He.fl hs) hq, .inl upd_same, rfl⟩
  · cases hc
end
end VE

end
section
set_option maxHeartbeats 2000000
/-! VEx5: the clauses, the try. -/
namespace VE
open PySem PySem.Spec PyProof.Rows L2
variable [TC]
section
variable {T : Nat → Option Def} {k : Nat} {c : Ctx} {X : Cx} {W : WX}
def chkSu (c : Ctx) (h : Hd) : Stmt → Bool
  | .Return (some e) _ => h.to.isNone && chkHV c h.sl h.cs h.rt e
  | .Assign [.Name y _] e _ => (match h.to with
    | some i => loc c i y && !(h.sl.toList.contains i) && (match e with
      | .Tuple _ _ _ => true
      | _ => false)
    | none => false) && chkHV c h.sl h.cs h.rt e
  | _ => false
def upOk (gl : List (Str × GK)) (h : Hd) : Bool := (match gl.lookup h.x with
    | some g => g.isCl
    | none => false) && h.cs.all (fun y => match gl.lookup y.x with
    | some (.exc fn up) => decide (fn = y.fn) && up.contains h.x
    | _ => false) && gl.all fun p => match p.2 with
    | .exc fn up => !up.contains h.x || h.cs.any fun y => decide (y.x = p.1) && decide (y.fn = fn)
    | _ => true
def chkHd (c : Ctx) (h : Hd) : ExceptHandler → Bool
  | .ExceptHandler (some (.Name x _)) nm [st] _ => gln c x && decide (h.x = x) && (match nm, h.sl with
    | none, none => true
    | some n, some i => decide (c.N[i]? = some n) && decide (c.sc.names.lookup n = some .local)
    | _, _ => false) && upOk c.gl h && chkSu c h st
  | _ => false
def chkHds (c : Ctx) : List Hd → List ExceptHandler → Bool
  | [], es => es.isEmpty
  | h :: hs, e :: es => chkHd c h e && chkHds c hs es
  | _, _ => false
theorem wipe1_rep {H : Hp} {Γ : En} {σ : L2.St} {f : Fp} {a : Addr} (sl : Option Nat) (en : REnv H Γ σ f) : ∃ f', REnv H (wipe1 Γ sl) σ f' ∧ f'.le f := by
  cases sl with
  | none => exact ⟨f, en, Fp.le.refl _⟩
  | some i =>
    obtain ⟨g, h, e, q⟩ := REnv.none i en
    refine ⟨h, q, ?_⟩
    rw [e]
    exact Fp.le_addR _ _
theorem REnv.unset {H : Hp} {Γ : En} {σ : L2.St} {f : Fp} {i : Nat} {x : Option V} (h : REnv H Γ σ f) (hi : ∀ d, Γ[i]? ≠ some (some d)) : REnv H Γ (σ.set i x) f := by
  refine h.congr (List.length_set ..) fun j d e => ?_
  rw [List.getElem?_set_ne]
  rintro rfl
  exact hi d e
/-- what is known of a caught exception -/
structure Got (X : Cx) (h : Hd) (cn : Xn) (d : D) (Ca dx : Addr) (H : Hp) : Prop where
  su : Suit X.K h.cs Ca cn.fn
  dx : H dx = some (.xd [(cn.fn, xv d)])
  fl : flat d = true
theorem hd_ok (C : CO T k c X) {h : Hd} {eh : ExceptHandler} (hc : chkHd c h eh = true) : ∃ r : Cr, r.o = h.sl ∧ X.mg h.x = some r.c ∧ (∀ {ehs : List ExceptHandler} {rs : List Cr}, Cls X ehs rs → Cls X (eh :: ehs) (r :: rs)) ∧
    ∀ a Ca dx cn d σ σ0 H H0 f0 f Γ D ms, Got X h cn d Ca dx H → REnv H Γ σ f → Good f → Step H0 f0 H f → Ag ms σ0 σ → (∀ i, i ∈ h.sl.toList ++ h.to.toList → i ∈ ms) → PSt X.mg W H0 f0 σ0 ms D (kHd h d Γ) → r.ts a (.ref Ca) (some dx) (r.en D) (r.st a σ) H := by
  unfold chkHd at hc
  split at hc
  · rename_i x q1 nm st q2
    simp only [Bool.and_eq_true, decide_eq_true_eq] at hc
    obtain ⟨⟨⟨⟨g1, g2⟩, g3⟩, g4⟩, g5⟩ := hc
    subst g2
    obtain ⟨u1, u2⟩ := gln_of g1
    unfold upOk at g4
    simp only [Bool.and_eq_true] at g4
    obtain ⟨⟨w1, w2⟩, w3⟩ := g4
    split at w1
    · rename_i g hg
      obtain ⟨Cy, my⟩ := C.tab.cls h.x g hg w1
      have nm1 : Names X h.x Cy := ⟨C.glo h.x u1, u2, .inl my⟩
      -- the suite
      have su : ∃ tS : Addr → Value → Option Addr → Addr → TS, (∀ a ob cl d pn Ca fn, Suit X.K h.cs Ca fn → Zc cl d ob → (∃ fl, ob.data = .fields fl) → PSs (X.suite a ((a, ob) :: pn)) [st] (tS a cl d Ca)) ∧
          ∀ a Ca dx cn d σ τ σ0 H H0 f0 f Γ D ms, Got X h cn d Ca dx H → Here h.sl a Ca dx cn.fn d τ H → REnv H (wipe1 Γ h.sl) τ f → Good f → Step H0 f0 H f → Ag ms σ0 σ → (∀ i, i ∈ h.sl.toList ++ h.to.toList → i ∈ ms) → (∀ i, h.sl = some i → τ = σ.set i (some (.ref a))) → (h.sl = none → τ = σ) → PSt X.mg W H0 f0 σ0 ms D (match h.to with
            | none => .rt (h.rt.d d) (wipe1 Γ h.sl)
            | some i => .nx ((wipe1 Γ h.sl).set i (some (h.rt.d d)))) → tS a (.ref Ca) (some dx) Ca (Cr.en ⟨Cy, h.sl, fun _ _ _ _ _ _ => True⟩ D) τ H := by
        unfold chkSu at g5
        split at g5
        · rename_i e p
          rw [Bool.and_eq_true] at g5
          obtain ⟨to0, hv⟩ := g5
          have to1 : h.to = none := by
            cases ht : h.to with
            | none => rfl
            | some i => rw [ht] at to0; cases to0
          obtain ⟨te, p1, s1⟩ := hv_ok C hv
          refine ⟨fun a cl d Ca => tRet (te a cl d Ca), fun a ob cl d pn Ca fn S hz hf => pss_one (ps_ret (p1 a ob cl d pn Ca fn S hz hf)), fun a Ca dx cn d σ τ σ0 H H0 f0 f Γ D ms gt he en G St ag hms t1 t2 p => ?_⟩
          rw [to1] at p
          have e1 : (Cr.en ⟨Cy, h.sl, fun _ _ _ _ _ _ => True⟩ D).rt = D.rt := by
            unfold Cr.en
            cases h.sl <;> rfl
          show te a (.ref Ca) (some dx) Ca τ H (Cr.en ⟨Cy, h.sl, fun _ _ _ _ _ _ => True⟩ D).rt
          rw [e1]
          refine s1 a Ca dx cn.fn d τ τ H H0 f0 f (wipe1 Γ h.sl) D.rt gt.su he en G St fun v H' g f' r en' G' S' => ?_
          cases hs : h.sl with
          | none =>
            have := t2 hs
            subst this
            exact p v _ H' g f' r en' G' S' ag
          | some i =>
            have ht := t1 i hs
            subst ht
            refine p v _ H' g f' r en' G' S' ⟨by rw [List.length_set]; exact ag.len, fun j hj => ?_⟩
            rw [List.getElem?_set_ne]
            · exact ag.out j hj
            · rintro rfl
              exact hj (hms i (by rw [hs]; simp))
        · rename_i y p1 e p
          simp only [Bool.and_eq_true] at g5
          obtain ⟨to0, hv⟩ := g5
          cases ht : h.to with
          | none => rw [ht] at to0; cases to0
          | some i =>
            rw [ht] at to0
            simp only [Bool.and_eq_true] at to0
            obtain ⟨⟨l1, l2⟩, l3⟩ := to0
            obtain ⟨te, q1, s1⟩ := hv_ok C hv
            obtain ⟨v1, v2⟩ := loc_of l1
            have nd : X.N.Nodup := by rw [C.N]; exact C.nd
            have hN : X.N[i]? = some y := by rw [C.N]; exact v1
            have sw : ∀ Y : Cx, swapsWith e (some (.Name y p1)) p.line Y.env = pure false := fun Y => by
              cases e <;> first | (cases l3; done) | rfl
            refine ⟨fun a cl d Ca => tAsg (te a cl d Ca) (gName i), fun a ob cl d pn Ca fn S hz hf => pss_one ?_, fun a Ca dx cn d σ τ σ0 H H0 f0 f Γ D ms gt he en G St ag hms t1 t2 p => ?_⟩
            · have pe := q1 a ob cl d pn Ca fn S hz hf
              rcases v2 with v2 | v2
              · exact ps_set (X := X.suite a ((a, ob) :: pn)) nd hN (.inl (C.loc y v2)) pe (sw _) (.inr (C.loc y v2))
              · exact ps_set (X := X.suite a ((a, ob) :: pn)) nd hN (.inr (C.cel y v2).1) pe (sw _) (.inl (C.cel y v2).2)
            · show te a (.ref Ca) (some dx) Ca τ H (fun v H1 => (Cr.en ⟨Cy, h.sl, fun _ _ _ _ _ _ => True⟩ D).nx (τ.set i (some v)) H1)
              refine s1 a Ca dx cn.fn d τ τ H H0 f0 f (wipe1 Γ h.sl) _ gt.su he en G St fun v H' g f' r en' G' S' => ?_
              obtain ⟨f2, en2, l⟩ := en'.put1 (i := i) r
              have ii : i ∈ ms := hms i (by simp)
              cases hs : h.sl with
              | none =>
                have := t2 hs
                subst this
                rw [hs] at p en2
                exact p _ H' f2 en2 (G'.le l) (S'.less l) ⟨by rw [List.length_set]; exact ag.len, fun j hj => by
                  rw [List.getElem?_set_ne (by rintro rfl; exact hj ii)]
                  exact ag.out j hj⟩
              | some m =>
                have hm := t1 m hs
                subst hm
                rw [hs] at p en2 l2
                have mi : m ≠ i := by
                  rintro rfl
                  simp at l2
                have mm : m ∈ ms := hms m (by rw [hs]; simp)
                refine p _ H' f2 (en2.unset (i := m) (x := none) fun d' z => ?_) (G'.le l) (S'.less l) ⟨by simp only [List.length_set]; exact ag.len, fun j hj => ?_⟩
                · rw [List.getElem?_set_ne (Ne.symm mi)] at z
                  unfold wipe1 at z
                  dsimp only at z
                  rw [List.getElem?_set] at z
                  simp only [if_true] at z
                  split at z
                  · cases z
                  · cases z
                · rw [List.getElem?_set_ne (by rintro rfl; exact hj mm), List.getElem?_set_ne (by rintro rfl; exact hj ii), List.getElem?_set_ne (by rintro rfl; exact hj mm)]
                  exact ag.out j hj
        · cases g5
      obtain ⟨tS, ps, ss⟩ := su
      refine ⟨⟨Cy, h.sl, fun a cl d D σ H => ∃ Ca fn, cl = .ref Ca ∧ Suit X.K h.cs Ca fn ∧ tS a cl d Ca D σ H⟩, rfl, my, fun {ehs rs} cl => ?_, fun a Ca dx cn d σ σ0 H H0 f0 f Γ D ms gt en G St ag hms p => ?_⟩
      · have hsu : ∀ (x : Addr) (ob : Obj) (cl : Value) (d : Option Addr) (pn : List (Addr × Obj)), Zc cl d ob → (∃ fl, ob.data = .fields fl) → PSs (X.suite x ((x, ob) :: pn)) [st] (fun D σ H => ∃ Ca fn, cl = .ref Ca ∧ Suit X.K h.cs Ca fn ∧ tS x cl d Ca D σ H) := fun x ob cl d pn hz hf => by
          constructor
          rintro pins s σ H D I ⟨Ca, fn, _, S, q⟩
          exact (ps x ob cl d pn Ca fn S hz hf).run pins s σ H D I q
        cases hn : nm with
        | none =>
          cases hs : h.sl with
          | some i => rw [hn, hs] at g3; cases g3
          | none => exact .bare rfl nm1 hsu cl
        | some n =>
          cases hs : h.sl with
          | none => rw [hn, hs] at g3; cases g3
          | some i =>
            rw [hn, hs] at g3
            simp only [Bool.and_eq_true, decide_eq_true_eq] at g3
            exact .named rfl nm1 (by rw [C.N]; exact g3.1) (C.loc n g3.2) hsu cl
      · unfold kHd at p
        split at p
        · rename_i hin
          obtain ⟨f1, en1, l1⟩ := wipe1_rep (a := a) h.sl en
          refine ⟨Ca, cn.fn, rfl, gt.su, ?_⟩
          cases hs : h.sl with
          | none =>
            have e1 : Cr.st ⟨Cy, none, fun a cl d D σ H => ∃ Ca fn, cl = .ref Ca ∧ Suit X.K h.cs Ca fn ∧ tS a cl d Ca D σ H⟩ a σ = σ := rfl
            rw [e1]
            have := ss a Ca dx cn d σ σ σ0 H H0 f0 f1 Γ D ms gt ⟨(fun i q => by rw [hs] at q; cases q), gt.dx, gt.fl⟩ en1 (G.le l1) (St.less l1) ag hms (fun i q => by rw [hs] at q; cases q) (fun _ => rfl) p
            rw [hs] at this
            exact this
          | some i =>
            have e1 : Cr.st ⟨Cy, some i, fun a cl d D σ H => ∃ Ca fn, cl = .ref Ca ∧ Suit X.K h.cs Ca fn ∧ tS a cl d Ca D σ H⟩ a σ = σ.set i (some (.ref a)) := rfl
            rw [e1]
            have hlt : i < σ.length := by
              rw [hs] at hin
              rw [← en.length]
              exact of_decide_eq_true hin
            have en2 : REnv H (wipe1 Γ h.sl) (σ.set i (some (.ref a))) f1 := en1.unset fun d' z => by
              rw [hs] at z
              unfold wipe1 at z
              dsimp only at z
              rw [List.getElem?_set] at z
              simp only [if_true] at z
              split at z <;> cases z
            have := ss a Ca dx cn d σ (σ.set i (some (.ref a))) σ0 H H0 f0 f1 Γ D ms gt ⟨fun j q => by
              rw [hs] at q
              cases q
              exact List.getElem?_set_self hlt, gt.dx, gt.fl⟩ en2 (G.le l1) (St.less l1) ag hms (fun j q => by rw [hs] at q; cases q; rfl) (fun q => by rw [hs] at q; cases q) p
            rw [hs] at this
            exact this
        · exact p.elim
    · cases w1
  · cases hc
theorem lk_mem {α β : Type} [BEq α] [LawfulBEq α] {x : α} {g : β} : ∀ {l : List (α × β)}, l.lookup x = some g → (x, g) ∈ l
  | [], e => by simp at e
  | (y, h) :: l, e => by
    rw [List.lookup_cons] at e
    cases hb : x == y with
    | true =>
      rw [hb] at e
      cases e
      have : x = y := by simpa using hb
      subst this
      exact List.mem_cons_self
    | false =>
      rw [hb] at e
      exact List.mem_cons_of_mem _ (lk_mem e)
theorem Xn.is_of {a b : Xn} (h : a.is b = true) : a.x = b.x ∧ a.fn = b.fn := by
  unfold Xn.is at h
  simpa using h
theorem chkHd_up {h : Hd} {eh : ExceptHandler} (hc : chkHd c h eh = true) : upOk c.gl h = true := by
  unfold chkHd at hc
  split at hc
  · simp only [Bool.and_eq_true] at hc
    exact hc.1.2
  · cases hc
theorem up_of {h : Hd} {cn : Xn} {gl : List (Str × GK)} (hu : upOk gl h = true) (hi : h.cs.any cn.is = true) : ∃ up, gl.lookup cn.x = some (.exc cn.fn up) ∧ up.contains h.x = true := by
  unfold upOk at hu
  simp only [Bool.and_eq_true] at hu
  obtain ⟨y, hy, q⟩ := List.any_eq_true.mp hi
  obtain ⟨q1, q2⟩ := Xn.is_of q
  have := List.all_eq_true.mp hu.1.2 y hy
  split at this
  · rename_i fn up e
    simp only [Bool.and_eq_true, decide_eq_true_eq] at this
    obtain ⟨e1, e2⟩ := this
    rw [q1, e, e1, q2]
    exact ⟨up, rfl, e2⟩
  · cases this
theorem up_not {h : Hd} {cn : Xn} {gl : List (Str × GK)} {up : List Str} (hu : upOk gl h = true) (hl : gl.lookup cn.x = some (.exc cn.fn up)) (hi : ¬ h.cs.any cn.is = true) : up.contains h.x = false := by
  unfold upOk at hu
  simp only [Bool.and_eq_true] at hu
  have : (!up.contains h.x || h.cs.any fun y => decide (y.x = cn.x) && decide (y.fn = cn.fn)) = true := List.all_eq_true.mp hu.2 _ (lk_mem hl)
  rw [Bool.or_eq_true] at this
  rcases this with q | q
  · simpa using q
  · exfalso
    refine hi ?_
    obtain ⟨y, hy, z⟩ := List.any_eq_true.mp q
    refine List.any_eq_true.mpr ⟨y, hy, ?_⟩
    simp only [Bool.and_eq_true, decide_eq_true_eq] at z
    unfold Xn.is
    simp [z.1, z.2]
theorem found {cn : Xn} {d : D} {Γ : En} {mg : Str → Option Value} {H : Hp} {f : Fp} {σ : L2.St} {ms : List Nat} {D : Ends} : ∀ {hs : List Hd} {ehs : List ExceptHandler}, chkHds c hs ehs = true → PSt mg W H f σ ms D (kHds cn d Γ hs) → ∃ up, c.gl.lookup cn.x = some (.exc cn.fn up)
  | [], _, _, p => p.elim
  | h :: hs, [], hc, _ => by simp [chkHds] at hc
  | h :: hs, e :: ehs, hc, p => by
    unfold chkHds at hc
    rw [Bool.and_eq_true] at hc
    unfold kHds at p
    split at p
    · rename_i hi
      obtain ⟨up, q, _⟩ := up_of (chkHd_up hc.1) hi
      exact ⟨up, q⟩
    · exact found hc.2 p
theorem hds_ok (C : CO T k c X) : ∀ {hs : List Hd} {ehs : List ExceptHandler}, chkHds c hs ehs = true → ∃ rs : List Cr, Cls X ehs rs ∧
    ∀ cn up d Γ σ σ0 H H0 f f0 D ms Ca dx, XcAt X.prog X.w X.K X.mg X.base cn.x cn.fn Ca → (∀ y g Cy, c.gl.lookup y = some g → g.isCl = true → X.mg y = some Cy → PySem.W.exmOne X.K (.ref Ca) Cy = some (up.contains y)) → c.gl.lookup cn.x = some (.exc cn.fn up) →
      REnv H Γ σ f → Good f → Step H0 f0 H f → Ag ms σ0 σ → (∀ i, (i ∈ hs.flatMap fun h => h.sl.toList ++ h.to.toList) → i ∈ ms) → H dx = some (.xd [(cn.fn, xv d)]) → flat d = true → PSt X.mg W H0 f0 σ0 ms D (kHds cn d Γ hs) → wCl X.K W D rs (.ref Ca) (some dx) σ H
  | [], ehs, hc => by
    have : ehs = [] := by simpa [chkHds] using hc
    subst this
    exact ⟨[], .nil, fun cn up d Γ σ σ0 H H0 f f0 D ms Ca dx _ _ _ _ _ _ _ _ _ _ p => p.elim⟩
  | h :: hs, [], hc => by simp [chkHds] at hc
  | h :: hs, e :: ehs, hc => by
    unfold chkHds at hc
    rw [Bool.and_eq_true] at hc
    obtain ⟨h1, h2⟩ := hc
    obtain ⟨r, r1, r2, r3, r4⟩ := hd_ok (W := W) C h1
    obtain ⟨rs, c1, c2⟩ := hds_ok C h2
    have hu := chkHd_up h1
    refine ⟨r :: rs, r3 c1, fun cn up d Γ σ σ0 H H0 f f0 D ms Ca dx xc hx hl en G St ag hms hdx hfl p => ?_⟩
    have hcl : ∃ g, c.gl.lookup h.x = some g ∧ g.isCl = true := by
      unfold upOk at hu
      simp only [Bool.and_eq_true] at hu
      obtain ⟨⟨w1, _⟩, _⟩ := hu
      split at w1
      · rename_i g hg
        exact ⟨g, hg, w1⟩
      · cases w1
    obtain ⟨g, g1, g2⟩ := hcl
    have ex := hx h.x g r.c g1 g2 r2
    unfold kHds at p
    split at p
    · rename_i hi
      obtain ⟨up2, q1, q2⟩ := up_of hu hi
      rw [hl] at q1
      cases q1
      rw [q2] at ex
      refine .inl ⟨ex, fun x _ => r4 x Ca dx cn d σ σ0 H H0 f0 f Γ D ms ⟨⟨xc.xf, ?_, xc.nof⟩, hdx, hfl⟩ en G St ag (fun i q => hms i (List.mem_flatMap.mpr ⟨h, List.mem_cons_self, q⟩)) p⟩
      obtain ⟨y, hy, z⟩ := List.any_eq_true.mp hi
      exact ⟨y, hy, (Xn.is_of z).2.symm⟩
    · rename_i hi
      rw [up_not hu hl hi] at ex
      refine .inr ⟨ex, c2 cn up d Γ σ σ0 H H0 f f0 D ms Ca dx xc hx hl en G St ag (fun i q => hms i ?_) hdx hfl p⟩
      obtain ⟨y, hy, z⟩ := List.mem_flatMap.mp q
      exact List.mem_flatMap.mpr ⟨y, List.mem_cons_of_mem _ hy, z⟩
theorem s_try (C : CO T k c X) (tp : Top X W) {b : List Stm} {bs : List Stmt} {hs : List Hd} {eh : ExceptHandler} {ehs : List ExceptHandler} {pos : Pos} (hb : ∀ W pn xe, Top (X.tr pn xe) W → VSs T k (X.tr pn xe) W b bs) (hc : chkHds c hs (eh :: ehs) = true) :
    VS T k X W (.tryX b hs) (.Try bs (eh :: ehs) [] [] pos) := by
  obtain ⟨tb, pb, sb⟩ := VSs.all hb
  obtain ⟨rs, cl, sc⟩ := hds_ok (W := W) C hc
  have nd : X.N.Nodup := by rw [C.N]; exact C.nd
  refine ⟨_, ps_tryCl tp.hs tp.hf nd tp.tk (fun W pn xe tk po => pb W pn xe ⟨tp.hs, tp.hf, tk, po⟩) cl, fun Γ σ H f D en G p => sb _ Γ σ H f D en G ?_⟩
  have p : PSt X.mg W H f σ (modSs b ++ hs.flatMap fun h => h.sl.toList ++ h.to.toList) D (kTry hs (exSs (run T k) b Γ)) := p
  have up : ∀ {σ'}, Ag (modSs b) σ σ' → Ag (modSs b ++ hs.flatMap fun h => h.sl.toList ++ h.to.toList) σ σ' := fun {σ'} a => ⟨a.len, fun i hi => a.out i fun q => hi (List.mem_append_left _ q)⟩
  cases e : exSs (run T k) b Γ with
  | nx Γ1 => rw [e] at p; exact fun σ' H' f' en' g s a => p σ' H' f' en' g s (up a)
  | bk Γ1 => rw [e] at p; exact fun σ' H' f' en' g s a => p σ' H' f' en' g s (up a)
  | ct Γ1 => rw [e] at p; exact fun σ' H' f' en' g s a => p σ' H' f' en' g s (up a)
  | rt d Γ1 => rw [e] at p; exact fun v σ' H' g f' r en' gg s a => p v σ' H' g f' r en' gg s (up a)
  | bad => rw [e] at p; exact p
  | ex cn ds Γ1 =>
    rw [e] at p
    match ds, p with
    | [d], p =>
      have p : PSt X.mg W H f σ (modSs b ++ hs.flatMap fun h => h.sl.toList ++ h.to.toList) D (if flat d = true then kHds cn d Γ1 hs else .bad) := p
      split at p
      · rename_i hfl
        obtain ⟨u, hl⟩ := found hc p
        obtain ⟨Ca, xc, hx⟩ := C.tab.exc _ _ _ hl
        intro Cv σ' H' f' dx hm en' g s a hdx
        have : Cv = .ref Ca := by
          have := xc.at_
          rw [hm] at this
          exact Option.some.inj this
        subst this
        exact sc cn u d Γ1 σ' σ H' H f' f D _ Ca dx xc hx hl en' g s (up a) (fun i q => List.mem_append_right _ q) hdx hfl p
      · exact p.elim
end
end VE

end
section
set_option maxHeartbeats 2000000
/-! VEx6: the own exceptions of this program, their __init__. -/
namespace VE
open PySem PySem.Spec PyProof.Rows L2
variable [TC]
/-- an own exception: its name, its field, its __init__ as it is written, the names of the classes that take it -/
structure CRow where
  x : Str
  fn : Str
  q : Str
  st : Stmt
  up : List Str
def hb : Str := "HandsError"
/-- the body of such an __init__ -/
def chkC (r : CRow) : Bool := C8.scC [("self" : Str), r.fn] [("self" : Str), r.fn] (defScope r.st) && decide ((defScope r.st).names.lookup ("self" : Str) = some .local) && decide ((defScope r.st).names.lookup r.fn = some .local) && decide ((defScope r.st).names.lookup hb = some .globalImplicit) &&
  !(r.fn == ("__debug__" : Str)) && !(r.fn == ("__classdict__" : Str)) &&
  match defBody r.st with
  | [.Expr (.Call (.Attribute (.Name b _) m p2) [.Name s1 _, .Constant (.str _) _ _] [] pos) _, .Assign [.Attribute (.Name s2 _) f _] (.Name y _) _] => decide (b = hb) && decide (m = "__init__") && decide (s1 = "self") && decide (s2 = "self") && decide (f = r.fn) && decide (y = r.fn) && p2.endLine == pos.line
  | _ => false
def CBind (r : CRow) : Prop := ∀ (kV doc pm : Value) (an : Option Addr) (cdv ct : Value) (us : List Value), us.length = 2 → bindArgs (PySem.W.fnOf "__init__" r.q (defArgs r.st) (defBody r.st) (defScope r.st) .none kV doc pm an cdv ct) ⟨us, []⟩ = pure ([("self" : Str), r.fn].zip us)
/-- the class at a fragment -/
structure CAt (K : PySem.W.Frag) (r : CRow) (C : Addr) : Prop where
  ns : PySem.W.nsIn K mainGlobals r.x = some (some (.ref C))
  cls : OexC K C
  xf : XfC K C
  nof : PySem.W.findIn K (.ref C) r.fn = some none
  ini : ∃ (fI : Addr) (oc : Value) (od : Option Addr) (kV doc pm : Value) (an : Option Addr) (cdv ct : Value) (osl : Array (Option Value)), PySem.W.findIn K (.ref C) "__init__" = some (some (.ref fI)) ∧ PySem.W.typeIn K (.ref fI) = some (.type "function") ∧
    K.lookup fI = some ⟨oc, od, .func (PySem.W.fnOf "__init__" r.q (defArgs r.st) (defBody r.st) (defScope r.st) .none kV doc pm an cdv ct), osl⟩ ∧ PySem.W.codeIn K cdv r.q = true ∧ PySem.W.keepIn K (.ref fI) = true
/-- the base at a fragment -/
structure HbAt (K : PySem.W.Frag) (B : Addr) : Prop where
  ns : PySem.W.nsIn K mainGlobals hb = some (some (.ref B))
  ty : PySem.W.typeIn K (.ref B) = some (.type "type")
  cl : PySem.W.isClsIn K B = true
  ini : PySem.W.findIn K (.ref B) "__init__" = some (some (.builtin "ValueError.__init__"))
  st : PySem.W.nsIn K cStatics "thirdparty.any" = some none
  ex : PySem.W.subIn K (.ref B) (.type "BaseException") = some true
theorem HbAt.base {K : PySem.W.Frag} {B : Addr} {mg : Str → Option Value} (h : HbAt K B) (hm : mg hb = some (.ref B)) : BaseAt K mg hb B := by
  refine ⟨hm, ?_, .type "type", ?_, ?_⟩
  · unfold PySem.W.specialIn
    rw [h.ty]
    kernel_rfl
  · unfold PySem.W.readsIn
    rw [h.st, h.ty]
    kernel_rfl
  · unfold PySem.W.findCls
    rw [h.ini]
    kernel_rfl
section
variable {K : PySem.W.Frag} {P : Program} {w : World} {mg : Str → Option Value} {base h : Heap}
theorem hb_call {e1 e2 : Expr} {q1 p2 pos : Pos} {env : Env} (h1 : noStar e1 = true) (h2 : noStar e2 = true) (hl : (p2.endLine == pos.line) = true) : eval (.Call (.Attribute (.Name hb q1) "__init__" p2) [e1, e2] [] pos) env = (do
      let cv ← eval (.Name hb q1) env
      standAt p2.atName
      let (g, fst) ← holding [cv] (getMethod cv "__init__" (do return (← importBound (.Name hb q1) env).getD true))
      callWith pos g fst (backTo pos (starEach [e1, e2] env)) (backToKw pos (keywordEach [] env))) := by
  have hpos : methodCallPos true (.Name hb q1) env p2 pos = pure pos := by
    unfold methodCallPos
    rw [hl]
    rfl
  have form : methodCallForm 2 (backTo pos (starEach [e1, e2] env)) (backToKw pos (keywordEach [] env)) = true := by
    rw [starEach_cons h1, starEach_cons h2]
    rfl
  show (do
    let ov ← eval (.Name hb q1) env
    standAt p2.atName
    methodCall (.Name hb q1) "__init__" p2 pos env ov 2 (backTo pos (starEach [e1, e2] env)) (backToKw pos (keywordEach [] env))) = _
  unfold methodCall calleeOf
  rw [form, hpos]
  rfl
theorem init_ok {r : CRow} {C B : Addr} (hc : chkC r = true) (A : CAt K r C) (Hb : HbAt K B) (hB : mg hb = some (.ref B)) {fI : Addr} {fd : FuncData} (F : Fun K "__init__" r.q r.st fI fd) : FnOk P w K mg base (L2.CX P w) 1 fI fd ["self", r.fn] (spI C r.fn) := by
  unfold chkC at hc
  simp only [Bool.and_eq_true, decide_eq_true_eq] at hc
  obtain ⟨⟨⟨⟨⟨⟨c1, c2⟩, c3⟩, c4⟩, c5⟩, c6⟩, c7⟩ := hc
  have S : FnScope ["self", r.fn] ["self", r.fn] (defScope r.st) := C8.fnScope_by c1
  refine F.okX S (fun vs H Q E sp => ?_) (fun cdv Ar outer s H vs Q E hr sp => ?_)
  · obtain ⟨a, y, rfl, _⟩ := sp
    rfl
  · split at c7
    · rename_i b q1 m p2 s1 q3 ms k1 k2 pos pe s2 q4 f q5 y q6 q7 eb
      simp only [Bool.and_eq_true, decide_eq_true_eq] at c7
      obtain ⟨⟨⟨⟨⟨⟨d1, d2⟩, d3⟩, d4⟩, d5⟩, d6⟩, d7⟩ := c7
      subst d1 d2 d3 d4 d5 d6
      rw [eb]
      have vs0 : PE (cxOf (L2.CX P w) P w K mg base ["self", r.fn] r.q (defScope r.st) fI cdv Ar outer s H E) (.Name "self" q3) (tVar 0) := pe_var rfl (.inl c2)
      have vs1 : PE (cxOf (L2.CX P w) P w K mg base ["self", r.fn] r.q (defScope r.st) fI cdv Ar outer s H E) (.Name "self" q4) (tVar 0) := pe_var rfl (.inl c2)
      have vf : PE (cxOf (L2.CX P w) P w K mg base ["self", r.fn] r.q (defScope r.st) fI cdv Ar outer s H E) (.Name r.fn q6) (tVar 1) := pe_var rfl (.inl c3) (by simpa using c5) (by simpa using c6)
      have pl := PEL.cons rfl vs0 (PEL.cons (e := .Constant (.str ms) k1 k2) rfl (pe_str (x := ms) (X := cxOf (L2.CX P w) P w K mg base ["self", r.fn] r.q (defScope r.st) fI cdv Ar outer s H E)) .nil)
      have hb1 : BaseAt (cxOf (L2.CX P w) P w K mg base ["self", r.fn] r.q (defScope r.st) fI cdv Ar outer s H E).K (cxOf (L2.CX P w) P w K mg base ["self", r.fn] r.q (defScope r.st) fI cdv Ar outer s H E).mg hb B := Hb.base hB
      refine ⟨_, pss_cons (ps_expr (pe_binit hb1 c4 (by decide) pl.pa rfl rfl (hb_call rfl rfl (by simpa using d7))) rfl) (pss_one (ps_ost vs1 vf)), ?_⟩
      obtain ⟨a, v, rfl, ea, q⟩ := sp
      exact ⟨.ref a, rfl, a, C, [_], rfl, (by show 1 ≤ 1000; decide), A.cls, ea, v, rfl, .ref a, rfl, a, C, rfl, A.cls, A.nof, .inl ⟨ea, q⟩⟩
    · cases c7
end
end VE

end
section
set_option maxHeartbeats 2000000
/-! VEx7: the table of the own exceptions; a fragment without one address. -/
namespace VE
open PySem PySem.Spec PyProof.Rows L2
variable [TC]

/-- a fragment without one address -/
def del (K : PySem.W.Frag) (a : Addr) : PySem.W.Frag := K.filter fun p => !(p.1 == a)
theorem del_lookup {a b : Addr} : ∀ {K : PySem.W.Frag}, (del K a).lookup b = if b = a then none else K.lookup b
  | [] => by
    show ([] : List (Addr × Obj)).lookup b = _
    split <;> rfl
  | (c, o) :: K => by
    have ih := @del_lookup a b K
    unfold del at ih ⊢
    by_cases hc : c = a
    · have : ((c, o) :: K).filter (fun p => !(p.1 == a)) = K.filter fun p => !(p.1 == a) := by rw [List.filter_cons_of_neg (by simp [hc])]
      rw [this, ih]
      by_cases hb : b = a
      · rw [if_pos hb, if_pos hb]
      · rw [if_neg hb, if_neg hb, List.lookup_cons]
        have : (b == c) = false := by simp [hc, hb]
        rw [this]
    · have : ((c, o) :: K).filter (fun p => !(p.1 == a)) = (c, o) :: K.filter fun p => !(p.1 == a) := by rw [List.filter_cons_of_pos (by simp [hc])]
      rw [this, List.lookup_cons, List.lookup_cons]
      by_cases hb : b = c
      · subst hb
        rw [if_neg hc]
        simp
      · have : (b == c) = false := by simp [hb]
        rw [this]
        exact ih
theorem del_other {K : PySem.W.Frag} {a b : Addr} (h : b ≠ a) : (del K a).lookup b = K.lookup b := by rw [del_lookup, if_neg h]
section
variable {K : PySem.W.Frag} {a : Addr} (hK : ∀ o, K.lookup a = some o → ∃ its n, o.data = .seq its n)
include hK
theorem del_nsG {N : Addr} {x : Str} {v : Option Value} (h : PySem.W.nsIn K N x = some v) : PySem.W.nsIn (del K a) N x = some v := by
  have ne : N ≠ a := fun e => by
    unfold PySem.W.nsIn at h
    split at h
    · rename_i cc dd es ep sl hl
      rw [e] at hl
      obtain ⟨its, n, q⟩ := hK _ hl
      cases q
    · cases h
  unfold PySem.W.nsIn at h ⊢
  rw [del_other ne]
  exact h

theorem del_ns {x : Str} {v : Option Value} (h : PySem.W.nsIn K mainGlobals x = some v) : PySem.W.nsIn (del K a) mainGlobals x = some v := del_nsG hK h
theorem del_at {b : Addr} {o : Obj} (h : K.lookup b = some o) (n : ∀ its m, o.data ≠ .seq its m) : (del K a).lookup b = some o := by
  have ne : b ≠ a := fun e => by
    rw [e] at h
    obtain ⟨its, m, q⟩ := hK _ h
    exact n its m q
  rw [del_other ne]
  exact h
theorem del_cls {C : Addr} {cd : ClassData} (h : PySem.W.clsIn K C = some cd) : PySem.W.clsIn (del K a) C = some cd := by
  unfold PySem.W.clsIn at h
  split at h
  · rename_i hl
    have := del_at hK hl (fun _ _ q => by cases q)
    unfold PySem.W.clsIn
    rw [this]
    exact h
  · cases h
theorem del_own {x : Str} {c : Value} {r : Option Value} (h : PySem.W.ownIn K x c = some r) : PySem.W.ownIn (del K a) x c = some r := by
  unfold PySem.W.ownIn at h ⊢
  split at h
  · exact h
  · split at h
    · rename_i hl
      rw [del_at hK hl (fun _ _ q => by cases q)]
      exact del_nsG hK h
    · cases h
  · exact h
theorem del_along {x : Str} : ∀ {l : List Value} {r : Option Value}, PySem.W.alongIn K x l = some r → PySem.W.alongIn (del K a) x l = some r
  | [], r, h => h
  | c :: l, r, h => by
    unfold PySem.W.alongIn at h ⊢
    split at h
    · rename_i v e
      rw [del_own hK e]
      exact h
    · rename_i e
      rw [del_own hK e]
      exact del_along h
    · cases h
theorem del_find {C : Addr} {x : Str} {r : Option Value} (h : PySem.W.findIn K (.ref C) x = some r) : PySem.W.findIn (del K a) (.ref C) x = some r := by
  unfold PySem.W.findIn at h ⊢
  dsimp only at h ⊢
  split at h
  · rename_i hl
    rw [del_at hK hl (fun _ _ q => by cases q)]
    exact del_along hK h
  · cases h
theorem del_sub {C : Addr} {b : Value} {r : Bool} (h : PySem.W.subIn K (.ref C) b = some r) : PySem.W.subIn (del K a) (.ref C) b = some r := by
  unfold PySem.W.subIn PySem.W.mroIn at h ⊢
  dsimp only at h ⊢
  obtain ⟨cd, e1, e2⟩ := Option.bind_eq_some_iff.mp h
  rw [del_cls hK e1]
  exact e2
theorem del_isCls {C : Addr} (h : PySem.W.isClsIn K C = true) : PySem.W.isClsIn (del K a) C = true := by
  unfold PySem.W.isClsIn at h ⊢
  obtain ⟨cd, e⟩ := Option.isSome_iff_exists.mp h
  rw [del_cls hK e]
  rfl
theorem del_type {C : Addr} {o : Obj} {t : Value} (hl : K.lookup C = some o) (n : ∀ its m, o.data ≠ .seq its m) (h : PySem.W.typeIn K (.ref C) = some t) : PySem.W.typeIn (del K a) (.ref C) = some t := by
  unfold PySem.W.typeIn at h ⊢
  dsimp only at h ⊢
  rw [del_at hK hl n, ← hl]
  exact h
theorem isCls_at {C : Addr} (h : PySem.W.isClsIn K C = true) : ∃ o, K.lookup C = some o ∧ ∀ its m, o.data ≠ .seq its m := by
  unfold PySem.W.isClsIn PySem.W.clsIn at h
  split at h
  · rename_i hl
    exact ⟨_, hl, fun _ _ q => by cases q⟩
  · cases h
theorem del_typeC {C : Addr} {t : Value} (hc : PySem.W.isClsIn K C = true) (h : PySem.W.typeIn K (.ref C) = some t) : PySem.W.typeIn (del K a) (.ref C) = some t := by
  obtain ⟨o, e1, e2⟩ := isCls_at hK hc
  exact del_type hK e1 e2 h
theorem del_hasDict {C : Addr} (h : PySem.W.hasDictIn K C = true) : PySem.W.hasDictIn (del K a) C = true := by
  unfold PySem.W.hasDictIn at h ⊢
  cases e1 : PySem.W.clsIn K C with
  | none => rw [e1] at h; cases h
  | some cd =>
    rw [e1] at h
    rw [del_cls hK e1]
    exact h
theorem del_code {cdv : Value} {q : Str} (h : PySem.W.codeIn K cdv q = true) : PySem.W.codeIn (del K a) cdv q = true := by
  unfold PySem.W.codeIn at h ⊢
  split at h
  · split at h
    · rename_i hl
      rw [del_at hK hl (fun _ _ q => by cases q)]
      exact h
    · cases h
  · cases h
theorem HbAt.del {B : Addr} (h : HbAt K B) : HbAt (VE.del K a) B := ⟨del_ns hK h.ns, del_typeC hK h.cl h.ty, del_isCls hK h.cl, del_find hK h.ini, del_nsG hK h.st, del_sub hK h.ex⟩
theorem CAt.del {r : CRow} {C : Addr} (h : CAt K r C) : CAt (VE.del K a) r C := by
  obtain ⟨ns, cls, xf, nof, fI, oc, od, kV, doc, pm, an, cdv, ct, osl, i1, i2, i3, i4, i5⟩ := h
  obtain ⟨⟨nm, q, N, bs, bm, sn, sub, ab, col, dd, k0, k1, k2, k3, k5, hC, hbm⟩, sa, exC, tyC, kC⟩ := cls
  have nC : ∀ its m, (excClassObj nm q C N bs bm true sn sub ab col dd k0 k1 k2 k3 k5 "ValueError.__new__").data ≠ .seq its m := fun _ _ q => by cases q
  have hC' := del_at hK hC nC
  have iC : PySem.W.isClsIn K C = true := by
    unfold PySem.W.isClsIn PySem.W.clsIn
    rw [hC]
    rfl
  have l3 := del_at hK i3 (fun _ _ q => by cases q)
  refine ⟨del_ns hK ns, ⟨⟨nm, q, N, bs, bm, sn, sub, ab, col, dd, k0, k1, k2, k3, k5, hC', hbm⟩, del_find hK sa, del_sub hK exC, del_typeC hK iC tyC, ?_⟩, ⟨del_find hK xf.ga, del_find hK xf.gg, del_sub hK xf.exC, del_hasDict hK xf.hdC⟩, del_find hK nof,
    fI, oc, od, kV, doc, pm, an, cdv, ct, osl, del_find hK i1, del_type hK i3 (fun _ _ q => by cases q) i2, l3, del_code hK i4, ?_⟩
  · unfold PySem.W.keepIn at kC ⊢
    dsimp only at kC ⊢
    rw [hC] at kC
    rw [hC']
    have t2 := del_typeC hK iC tyC
    show (PySem.W.specialIn (VE.del K a) (.ref C) "__call__" == some (some (.builtin "type.__call__"))) = true
    have k2 : (PySem.W.specialIn K (.ref C) "__call__" == some (some (.builtin "type.__call__"))) = true := kC
    unfold PySem.W.specialIn at k2 ⊢
    rw [tyC] at k2
    rw [t2]
    exact k2
  · unfold PySem.W.keepIn
    dsimp only
    rw [l3]
end
end VE

end
section
set_option maxHeartbeats 2000000
/-! VEx8: what a law's own exceptions give its table. -/
namespace VE
open PySem PySem.Spec PyProof.Rows L2
variable [TC]
def PairOk (K : PySem.W.Frag) (r : CRow) (C : Addr) : List CRow → List Addr → Prop
  | r' :: rs, C' :: as => PySem.W.subIn K (.ref C) (.ref C') = some (r.up.contains r'.x) ∧ PairOk K r C rs as
  | _, _ => True
structure COne (K : PySem.W.Frag) (B : Addr) (crs : List CRow) (ad : List Addr) (r : CRow) (C : Addr) : Prop where
  at_ : CAt K r C
  cl : PySem.W.isClsIn K C = true
  hb : PySem.W.subIn K (.ref C) (.ref B) = some (r.up.contains hb)
  pr : PairOk K r C crs ad
def AllC2 (P : CRow → Addr → Prop) : List CRow → List Addr → Prop
  | [], [] => True
  | r :: rs, a :: as => P r a ∧ AllC2 P rs as
  | _, _ => False
def ExAt (K : PySem.W.Frag) (crs : List CRow) : Prop := ∃ (B : Addr) (ad : List Addr), HbAt K B ∧ AllC2 (COne K B crs ad) crs ad
theorem pair_is {K : PySem.W.Frag} {C C' : Addr} {b : Bool} {l : List Str} {x : Str} (h : PySem.W.subIn K (.ref C) (.ref C') = some b) (e : l.contains x = b) : PySem.W.subIn K (.ref C) (.ref C') = some (l.contains x) := by rw [h, e]
theorem AllC2.get {P : CRow → Addr → Prop} : ∀ {rs : List CRow} {as : List Addr} {i : Nat} {r : CRow}, AllC2 P rs as → rs[i]? = some r → ∃ C, as[i]? = some C ∧ P r C
  | [], _, _, _, _, e => by simp at e
  | r :: rs, [], _, _, h, _ => h.elim
  | r :: rs, a :: as, 0, r', h, e => by
    have : r = r' := by simpa using e
    subst this
    exact ⟨a, rfl, h.1⟩
  | r :: rs, a :: as, i + 1, r', h, e => by
    obtain ⟨C, e1, e2⟩ := AllC2.get (i := i) h.2 (by simpa using e)
    exact ⟨C, by simpa using e1, e2⟩
theorem PairOk.get {K : PySem.W.Frag} {r : CRow} {C : Addr} : ∀ {rs : List CRow} {as : List Addr} {i : Nat} {r' : CRow} {C' : Addr}, PairOk K r C rs as → rs[i]? = some r' → as[i]? = some C' → PySem.W.subIn K (.ref C) (.ref C') = some (r.up.contains r'.x)
  | [], _, _, _, _, _, e, _ => by simp at e
  | r1 :: rs, [], _, _, _, _, _, e => by simp at e
  | r1 :: rs, a :: as, 0, r', C', h, e1, e2 => by
    have q1 : r1 = r' := by simpa using e1
    have q2 : a = C' := by simpa using e2
    subst q1 q2
    exact h.1
  | r1 :: rs, a :: as, i + 1, r', C', h, e1, e2 => PairOk.get (i := i) h.2 (by simpa using e1) (by simpa using e2)
theorem exm_mk {K : PySem.W.Frag} {C S : Addr} {b : Bool} (h1 : PySem.W.subIn K (.ref S) (.type "BaseException") = some true) (h2 : PySem.W.isClsIn K S = true) (h3 : PySem.W.typeIn K (.ref S) = some (.type "type")) (h4 : PySem.W.subIn K (.ref C) (.ref S) = some b) : PySem.W.exmOne K (.ref C) (.ref S) = some b := by
  unfold PySem.W.exmOne PySem.W.kitCls
  have h2' : (PySem.W.clsIn K S).isSome = true := h2
  dsimp only
  rw [h1, h2', h3, h4]
  rfl
section
variable {K : PySem.W.Frag} {a : Addr} (hK : ∀ o, K.lookup a = some o → ∃ its n, o.data = .seq its n)
include hK
theorem PairOk.del {r : CRow} {C : Addr} : ∀ {rs : List CRow} {as : List Addr}, PairOk K r C rs as → PairOk (VE.del K a) r C rs as
  | [], _, _ => trivial
  | _ :: _, [], _ => trivial
  | _ :: _, _ :: _, h => ⟨del_sub hK h.1, PairOk.del h.2⟩
theorem AllC2.del {B : Addr} {crs : List CRow} {ad : List Addr} : ∀ {rs : List CRow} {as : List Addr}, AllC2 (COne K B crs ad) rs as → AllC2 (COne (VE.del K a) B crs ad) rs as
  | [], [], _ => trivial
  | [], _ :: _, h => h.elim
  | _ :: _, [], h => h.elim
  | _ :: _, _ :: _, h => ⟨⟨h.1.at_.del hK, del_isCls hK h.1.cl, del_sub hK h.1.hb, h.1.pr.del hK⟩, AllC2.del h.2⟩
theorem ExAt.del {crs : List CRow} (h : ExAt K crs) : ExAt (VE.del K a) crs := by
  obtain ⟨B, ad, h1, h2⟩ := h
  exact ⟨B, ad, h1.del hK, h2.del hK⟩
end
def glX (crs : List CRow) (gl : List (Str × GK)) : Bool := gl.all fun p => match p.2 with
  | .exc fn up => crs.any fun r => decide (r.x = p.1) && decide (r.fn = fn) && decide (r.up = up)
  | .bas => decide (p.1 = hb) && !crs.isEmpty
  | _ => true
def AllCB : List CRow → Prop
  | [] => True
  | r :: rs => CBind r ∧ AllCB rs
theorem AllCB.get : ∀ {rs : List CRow} {i : Nat} {r : CRow}, AllCB rs → rs[i]? = some r → CBind r
  | [], _, _, _, e => by simp at e
  | r :: rs, 0, r', h, e => by
    have : r = r' := by simpa using e
    subst this
    exact h.1
  | r :: rs, i + 1, _, h, e => AllCB.get h.2 (by simpa using e)
theorem glX_exc {crs : List CRow} {gl : List (Str × GK)} {x fn : Str} {up : List Str} (hx : glX crs gl = true) (e : gl.lookup x = some (.exc fn up)) : ∃ (i : Nat) (r : CRow), crs[i]? = some r ∧ r.x = x ∧ r.fn = fn ∧ r.up = up := by
  have : (crs.any fun r => decide (r.x = x) && decide (r.fn = fn) && decide (r.up = up)) = true := List.all_eq_true.mp hx _ (lk_mem e)
  obtain ⟨r, hr, q⟩ := List.any_eq_true.mp this
  simp only [Bool.and_eq_true, decide_eq_true_eq] at q
  obtain ⟨i, hi⟩ := List.getElem?_of_mem hr
  exact ⟨i, r, hi, q.1.1, q.1.2, q.2⟩
theorem glX_bas {crs : List CRow} {gl : List (Str × GK)} {x : Str} (hx : glX crs gl = true) (e : gl.lookup x = some .bas) : x = hb ∧ crs ≠ [] := by
  have : (decide (x = hb) && !crs.isEmpty) = true := List.all_eq_true.mp hx _ (lk_mem e)
  simp only [Bool.and_eq_true, decide_eq_true_eq] at this
  refine ⟨this.1, fun z => ?_⟩
  rw [z] at this
  exact absurd this.2 (by simp)
theorem exc_ok {K : PySem.W.Frag} {P : Program} {w : World} {mg : Str → Option Value} {base h : Heap} {crs : List CRow} {gl : List (Str × GK)} (L : crs ≠ [] → ExAt K crs) (hx : glX crs gl = true) (hc : crs.all chkC = true) (hcb : AllCB crs) (X : K.In h) (G : h.Ns mainGlobals mg) :
    (∀ y g, gl.lookup y = some g → g.isCl = true → ∃ Cy, mg y = some Cy) ∧
    ∀ x fn up, gl.lookup x = some (.exc fn up) → ∃ C, XcAt P w K mg base x fn C ∧ ∀ y g Cy, gl.lookup y = some g → g.isCl = true → mg y = some Cy → PySem.W.exmOne K (.ref C) Cy = some (up.contains y) := by
  have ne_of : ∀ {i : Nat} {r : CRow}, crs[i]? = some r → crs ≠ [] := fun {i r} e z => by rw [z] at e; simp at e
  refine ⟨fun y g e hcl => ?_, fun x fn up e => ?_⟩
  · cases g with
    | fn i => cases hcl
    | cst u => cases hcl
    | tld _ => cases hcl
    | bas =>
      obtain ⟨rfl, ne⟩ := glX_bas hx e
      obtain ⟨B, ad, h1, _⟩ := L ne
      exact ⟨_, PySem.W.mg_of X G h1.ns⟩
    | exc fn up =>
      obtain ⟨i, r, hi, rfl, _, _⟩ := glX_exc hx e
      obtain ⟨B, ad, _, h2⟩ := L (ne_of hi)
      obtain ⟨C, _, o⟩ := h2.get hi
      exact ⟨_, PySem.W.mg_of X G o.at_.ns⟩
  · obtain ⟨i, r, hi, rfl, rfl, rfl⟩ := glX_exc hx e
    obtain ⟨B, ad, h1, h2⟩ := L (ne_of hi)
    obtain ⟨C, _, o⟩ := h2.get hi
    have cr : chkC r = true := List.all_eq_true.mp hc r (List.mem_of_getElem? hi)
    obtain ⟨fI, oc, od, kV, doc, pm, an, cdv, ct, osl, i1, i2, i3, i4, i5⟩ := o.at_.ini
    have F : Fun K "__init__" r.q r.st fI (PySem.W.fnOf "__init__" r.q (defArgs r.st) (defBody r.st) (defScope r.st) .none kV doc pm an cdv ct) := fun_mk i3 i4 i5
    refine ⟨C, ⟨PySem.W.mg_of X G o.at_.ns, o.at_.cls, o.at_.xf, o.at_.nof, fI, _, [("self" : Str), r.fn], i1, i2, F.binds (hcb.get hi), init_ok cr o.at_ h1 (PySem.W.mg_of X G h1.ns) F⟩, fun y g Cy e2 hcl my => ?_⟩
    cases g with
    | fn i => cases hcl
    | cst u => cases hcl
    | tld _ => cases hcl
    | bas =>
      obtain ⟨rfl, _⟩ := glX_bas hx e2
      have := PySem.W.mg_of X G h1.ns
      rw [my] at this
      cases this
      exact exm_mk h1.ex h1.cl h1.ty o.hb
    | exc fn up =>
      obtain ⟨j, r2, hj, rfl, _, _⟩ := glX_exc hx e2
      obtain ⟨C2, hC2, o2⟩ := h2.get hj
      have := PySem.W.mg_of X G o2.at_.ns
      rw [my] at this
      cases this
      exact exm_mk o2.at_.cls.exC o2.cl o2.at_.cls.tyC (o.pr.get hj hC2)
end VE

end
section
set_option maxHeartbeats 2000000
/-! VEy1: a lambda handed to a def that calls it. -/
namespace VE
open PySem PySem.Spec PyProof.Rows L2
variable [TC]
section
variable {T : Nat → Option Def} {k : Nat} {c : Ctx} {X : Cx} {W : WX}
theorem takesLen (t : Takes X W) : Takes X (fun cl d σ H => σ.length = X.N.length → W cl d σ H) := fun u s' e => by
  obtain ⟨a, B, sI, pins, σ, H, cl, d, e1, I, nb, up, sky, na, os, ag, w⟩ := e
  exact t u s' ⟨a, B, sI, pins, σ, H, cl, d, e1, I, nb, up, sky, na, os, ag, w I.len⟩
def noPar : Arguments → Bool
  | ⟨[], [], none, [], [], none, []⟩ => true
  | _ => false
theorem noPar_of {a : Arguments} (h : noPar a = true) : a = ⟨[], [], none, [], [], none, []⟩ := by
  unfold noPar at h
  split at h
  · rfl
  · cases h
/-- the context within the lambda -/
def Ctx.lm (c : Ctx) (scope : Scope) : Ctx := { c with sc := scope, lam := false }
theorem CO.lamS (C : CO T k c X) {scope : Scope} (h : LamX.lamSB c.sc scope = true) : LamX.LamS X.env.scope scope := by
  have L := LamX.lamS_by h
  refine ⟨L.kind, L.co, L.gen, L.own, fun y hy e => ?_⟩
  exact C.cf _ (L.free y hy e)
theorem CO.lamb (C : CO T k c X) {scope : Scope} (h : LamX.lamSB c.sc scope = true) (A : Around) (outer : List Env) (s : Shared) (H : Hp) (E : XK) (f c' : Addr) (hr : Room (3 * k + 24) (A.deeper (LamX.lamEnv X scope s.heap.objs.size f c'))) :
    CO T k (c.lm scope) (LamX.lamCx X A outer s H E scope f c') := by
  have L := LamX.lamS_by h
  refine ⟨C.N, C.nd, fun x hx => hx, fun x hx => hx, fun x hx => ?_, fun x hx => hx, fun x hx => hx, L.kind, rfl, hr, (fun z => absurd z (by simp [Ctx.lm])), C.tab⟩
  exact absurd rfl (L.own _ (PySem.mem_of_lookup hx)).2
/-- a call within the lambda, for all contexts at once -/
theorem lam_all {scope : Scope} {body : Expr} {P : XK → L2.St → Hp → VK → Prop} {n : Nat}
    (h : ∀ (A : Around) (outer : List Env) (s : Shared) (H : Hp) (E : XK) (f c' : Addr), Room n (A.deeper (LamX.lamEnv X scope s.heap.objs.size f c')) → ∃ te, PE (LamX.lamCx X A outer s H E scope f c') body te ∧ ∀ σ H Q, P E σ H Q → te σ H Q) :
    ∃ t : XK → TE, (∀ (A : Around) (outer : List Env) (s : Shared) (H : Hp) (E : XK) (f c' : Addr), Room n (A.deeper (LamX.lamEnv X scope s.heap.objs.size f c')) → PE (LamX.lamCx X A outer s H E scope f c') body (t E)) ∧ ∀ E σ H Q, P E σ H Q → t E σ H Q := by
  refine ⟨fun E σ H Q => ∀ A outer s H0 f c' (hr : Room n (A.deeper (LamX.lamEnv X scope s.heap.objs.size f c'))), (h A outer s H0 E f c' hr).choose σ H Q, fun A outer s H E f c' hr => ⟨fun pins s' σ H' Q I q => (h A outer s H E f c' hr).choose_spec.1.run pins s' σ H' Q I (q A outer s H f c' hr)⟩,
    fun E σ H Q p A outer s H0 f c' hr => (h A outer s H0 E f c' hr).choose_spec.2 σ H Q p⟩
theorem lam_takes {A : Around} {outer : List Env} {s : Shared} {H : Hp} {E : XK} {scope : Scope} {f c' : Addr} : Takes (LamX.lamCx X A outer s H E scope f c') (fun cls d _ H' => E cls d H') := takes_of rfl rfl rfl rfl
/-- what the lambda's call gives, handed to the def -/
theorem told_fin {p : Def} {mg : Str → Option Value} {H H' : Hp} {f0 f' g : Fp} {σ : L2.St} {Q : VK} {d2 : D} {fs : List D} {d : D} {v : V} {Γ : En} (q : PV H f0 σ Q (.ok d2 Γ)) (en : REnv H' Γ σ f') (G : Good (g.add f')) (S : Step H f0 H' (g.add f')) :
    FPn H' g Q (.ok d2 fs) := fun v2 H2 g2 r2 G2 S2 => by
  have G' : Good (f'.add g) := by rw [Fp.add_comm]; exact G
  have S' : Step H f0 H' (f'.add g) := by rw [Fp.add_comm]; exact S
  have en2 : REnv H2 Γ σ f' := en.mono (S2.keeps G' en.dom) S2.tab
  have G3 := S2.good G' G2 en.dom
  have S3 := S'.trans (S2.beside en.dom)
  rw [Fp.add_comm] at G3 S3
  exact q v2 H2 g2 f' r2 en2 G3 S3
theorem run_told {T : Nat → Option Def} {k f : Nat} {p : Def} {ds : List D} {d : D} {fs : List D} (e : T f = some p) (ht : p.kd.isTold = true) (h : run T k f ds = .ok d fs) : toldRun p ds = .ok d fs := by
  cases k with
  | zero => cases h
  | succ k =>
    have q : run T (k + 1) f ds = (match T f with
      | some p => if ds.length = p.np then runK p (leave p (exSs (run T k) p.body (enter p ds))) ds else .bad
      | none => .bad) := rfl
    rw [q, e] at h
    dsimp only at h
    split at h
    · unfold runK at h
      cases hk : p.kd with
      | plain => rw [hk] at ht; cases ht
      | told => rw [hk] at h; exact h
      | out o => rw [hk] at ht; cases ht
    · cases h
theorem flat_clean {d : D} (h : flat d = true) : clean d = true := by
  cases d <;> first | rfl | cases h
theorem l_told (C : CO T k c X) (hlam : c.lam = true) {f g : Nat} {x y : Str} {exs : List Ex} {es : List Expr} {params : Arguments} {scope : Scope} {lpos p pos p2 pos2 : Pos} (hx : gln c x = true) (hxl : c.gl.lookup x = some (.tld f)) (hy : gln (c.lm scope) y = true) (hyl : c.gl.lookup y = some (.fn g)) (he : es.isEmpty = false)
    (hsc : LamX.lamSB c.sc scope = true) (hpar : noPar params = true) (ha : ∀ X', CO T k (c.lm scope) X' → VAs T k X' exs es) :
    VEx T k X (.told f g exs) (.Call (.Name x p) [.Lambda params (.Call (.Name y p2) es [] pos2) scope lpos] [] pos) := by
  obtain ⟨h3, h4⟩ := gln_of hx
  obtain ⟨pd, ga, oc, od, osl, pg, bg, sg, dV, kV, doc, pm, cdv, ct, an, Ng, a, e1, e2, e3, e4, e5, e6, e7, e8, e9, e10, e11, e12, e13, e14⟩ := (C.tab.tld x f hxl).is
  obtain ⟨hroom, cA, P, tb, hcode, hm, hu⟩ := C.lam hlam
  have hpar := noPar_of hpar
  subst hpar
  -- the lambda's own reading
  obtain ⟨t, pt, st⟩ := lam_all (X := X) (scope := scope) (n := 3 * k + 24) (body := .Call (.Name y p2) es [] pos2) (P := fun E σ H Q => ∃ Γ f0, REnv H Γ σ f0 ∧ Good f0 ∧ (match evAs (run T k) exs Γ with
      | .ok os Γ1 => PVX X.mg H f0 σ Q E (match take Γ1 exs os with
        | some t => (run T k g t.ds).r exs t
        | none => .bad)
      | _ => False)) fun A outer s H E f c' hr => by
    have C' := C.lamb hsc A outer s H E f c' hr
    obtain ⟨te, p1, s1⟩ := callX_pe (p := p2) (pos := pos2) C' lam_takes hy hyl he (ha _ C')
    exact ⟨te, p1, fun σ H Q ⟨Γ, f0, en, G, q⟩ => s1 Γ σ H f0 Q en G q⟩
  have pe := LamX.pe_lamcall (X := X) (T := TC.T) (TT := TTv pd X.mg) (t := t) (k := 3 * k + 24) (params := ⟨[], [], none, [], [], none, []⟩) (p := p) (lpos := lpos) (pos := pos) (C.glo x h3) e4 e5 e6 e7 e8 e9 e10 e11 (e14 X _ rfl rfl rfl rfl rfl (hroom.mono (by omega))) tb hcode hm hu hroom (C.lamS hsc) (by rfl) (fun q cl pm cv ctv => by rfl) pt h4 e12 e13
  refine ⟨_, pe, fun Γ σ H f0 Q en G q => ⟨en.tabs, fun H1 eN T1 => ?_⟩⟩
  -- .. at the heap in which the lambda was made
  have en1 : REnv H1 Γ σ f0 := en.mono (fun b u hu hp => eN b u hu (by
    obtain ⟨u2, h2, nt⟩ := en.dom b hp
    rw [hu] at h2
    cases h2
    exact nt)) fun _ => T1
  have S01 : Step H f0 H1 f0 := ⟨fun b u hu _ nt => eN b u hu nt, fun _ => T1, fun _ z => .inl z, fun _ z => .inl (by omega), fun _ z => .inl (by omega)⟩
  have q1 : PV H1 f0 σ Q (kTold (run T k) f g exs (evAs (run T k) exs Γ)) := PV.later (r := evE (run T k) (.told f g exs) Γ) q S01
  unfold kTold at q1
  refine ⟨fun Cl dx H' => ∃ (c : Xn) (d : D) (x : Addr), X.mg c.x = some Cl ∧ dx = some x ∧ H' x = some (.xd [(c.fn, xv d)]) ∧ flat d = true ∧ LamX.Tabs TC.T H' ∧ FPn H' Fp.zero Q (toldRun pd [.tup [.str c.x, .str c.fn, d]]),
    fun v H' => ∃ d gd, Rep H' d v gd ∧ Good gd ∧ LamX.Tabs TC.T H' ∧ FPn H' gd Q (toldRun pd [.tup [d]]), st _ σ H1 _ ⟨Γ, f0, en1, G, ?_⟩, fun v H' z => z, fun Cl dx H' z => z⟩
  cases e15 : evAs (run T k) exs Γ with
  | bad => rw [e15] at q1; exact q1.elim
  | ex _ _ _ => rw [e15] at q1; exact q1.elim
  | ok os Γ1 =>
    rw [e15] at q1
    have q1 : PV H1 f0 σ Q (match take Γ1 exs os with
      | some t => kToldO (run T k) f exs t (run T k g t.ds)
      | none => .bad) := q1
    dsimp only
    cases e16 : take Γ1 exs os with
    | none => rw [e16] at q1; exact q1.elim
    | some tk =>
      rw [e16] at q1
      dsimp only at q1 ⊢
      cases e17 : run T k g tk.ds with
      | bad => rw [e17] at q1; exact q1.elim
      | ok d fs =>
        rw [e17] at q1
        unfold kToldO at q1
        unfold F.r
        dsimp only at q1 ⊢
        by_cases hc : (!tk.nc || (clean d && cleanB exs fs)) = true
        · rw [if_pos hc] at q1 ⊢
          cases e18 : run T k f [.tup [d]] with
          | bad => rw [e18] at q1; exact q1.elim
          | ex _ _ _ => rw [e18] at q1; exact q1.elim
          | ok d2 fs2 =>
            rw [e18] at q1
            intro v H' gd f' rd en' G' S'
            refine ⟨d, gd, rd, G'.le (Fp.le_addL _ _), en'.tabs, ?_⟩
            rw [run_told e1 e2 e18]
            exact told_fin (p := pd) (mg := X.mg) (d := d) (v := v) q1 en' G' S'
        · rw [if_neg hc] at q1
          exact q1.elim
      | ex cx ds fs =>
        rw [e17] at q1
        match ds, q1 with
        | [], q1 => exact q1.elim
        | _ :: _ :: _, q1 => exact q1.elim
        | [d], q1 =>
          unfold kToldO at q1
          unfold F.r
          dsimp only at q1 ⊢
          by_cases hc : ((!tk.nc || cleanB exs fs) && flat d) = true
          · rw [if_pos hc] at q1
            rw [Bool.and_eq_true] at hc
            obtain ⟨hc1, hfl⟩ := hc
            have hc2 : (!tk.nc || (cleanL [d] && cleanB exs fs)) = true := by
              have : cleanL [d] = true := by
                show (clean d && true) = true
                rw [flat_clean hfl]
                rfl
              rw [this, Bool.true_and]
              exact hc1
            rw [if_pos hc2]
            cases e18 : run T k f [.tup [.str cx.x, .str cx.fn, d]] with
            | bad => rw [e18] at q1; exact q1.elim
            | ex _ _ _ => rw [e18] at q1; exact q1.elim
            | ok d2 fs2 =>
              rw [e18] at q1
              intro Cl H' f' dx hm en' G' S' hdx
              refine ⟨cx, d, dx, hm, rfl, hdx, hfl, en'.tabs, ?_⟩
              rw [run_told e1 e2 e18]
              exact told_fin (p := pd) (mg := X.mg) (d := d) (v := V.non) q1 en' (by rw [Fp.zero_add]; exact G') (by rw [Fp.zero_add]; exact S')
          · rw [if_neg hc] at q1
            exact q1.elim
end
end VE

end
section
set_option maxHeartbeats 2000000
/-! VEy7: a comprehension over a list just made, its items moved out. -/
namespace VE
open PySem PySem.Spec PyProof.Rows L2
variable [TC]
section
variable {T : Nat → Option Def} {k : Nat} {c : Ctx} {X : Cx}
def lcTR (cf : CF) (own : List Nat) (tg : Tg) (t : Tx) (ex : Ex) (Γ1 : En) : VE.D → R VE.D
  | .lst .own xs => match loopC (lcF cf own tg t ex) xs (wipeE Γ1 own) with
    | .ok ys Γ9 => if ys.length ≤ line then .ok (.lst .own ys) Γ9 else .bad
    | _ => .bad
  | _ => .bad
theorem evE_lcT {cf : CF} {own : List Nat} {tg : Tg} {s : Ex} {t : Tx} {ex : Ex} {Γ : En} : evE cf (.lcT own tg s t ex) Γ = (evE cf s Γ).bind fun d Γ1 => lcTR cf own tg t ex Γ1 d := rfl
theorem own2_dom {H : Hp} {a D : Addr} {xs acc : List VE.D} {ws vs accV : List V} {gR ga : Fp} (rr : RepL H xs ws gR) (ra : H a = some (.lst vs)) (rl : RepL H acc accV ga) (hD : H D = some (.lst accV)) : ∀ b, 0 < ((gR.own a).add (ga.own D)).at b → Dm H b := fun b q => by
  by_cases e : b = a
  · subst e; exact ⟨_, ra, fun ps e => by cases e⟩
  · by_cases e2 : b = D
    · subst e2; exact ⟨_, hD, fun ps e => by cases e⟩
    · unfold Fp.at Fp.add Fp.own one at q
      simp only [if_neg e, if_neg e2] at q
      by_cases z : 0 < gR.at b
      · exact RepL.dom _ rr b z
      · exact RepL.dom _ rl b (by unfold Fp.at at *; omega)
theorem lcT_ok {t0 te : TE} {tt : TT} {own : List Nat} {tg : Tg} {src : Ex} {t : Tx} {ex : Ex} {K : PySem.W.Frag}
    (h0 : ∀ Γ σ H f Q, REnv H Γ σ f → Good f → PV H f σ Q (evE (run T k) src Γ) → t0 σ H Q) (hT : ∀ Γ σ H f Q, REnv H Γ σ f → Good f → PB H f σ Q (evT (run T k) t Γ) → tt σ H Q)
    (hE : ∀ Γ σ H f Q, REnv H Γ σ f → Good f → PV H f σ Q (evE (run T k) ex Γ) → te σ H Q) (hs : ∀ i, i ∈ tgS tg → i ∈ own) (Γ : En) (σ : L2.St) (H : Hp) (f : Fp) (Q : VK) (en : REnv H Γ σ f) (G : Good f)
    (p : PV H f σ Q ((evE (run T k) src Γ).bind fun d Γ1 => lcTR (run T k) own tg t ex Γ1 d)) : tLc (iSeq K t0) (gTg K tg) tt te own σ H Q := by
  refine h0 Γ σ H f _ en G ?_
  obtain ⟨d, Γ1, e1, p⟩ := p.bind
  rw [e1]
  intro v H1 g f1 rv en1 G1 S1
  match d, p, rv with
  | .lst .lent xs, p, rv => exact p.elim
  | .lst .shr xs, p, rv => exact p.elim
  | .int _, p, rv => exact p.elim
  | .bl _, p, rv => exact p.elim
  | .str _, p, rv => exact p.elim
  | .non, p, rv => exact p.elim
  | .gone, p, rv => exact p.elim
  | .tup _, p, rv => exact p.elim
  | .lst .own xs, p, rv =>
    unfold Rep at rv
    obtain ⟨a, vs, gi, rfl, rl0, hr, rfl⟩ := rv
    have hlv : xs.length = vs.length := rl0.length
    refine .inl ⟨a, rfl, ⟨vs, .inl (.inl hr)⟩, fun D hD => ?_⟩
    unfold lcTR at p
    dsimp only at p
    cases e2 : loopC (lcF (run T k) own tg t ex) xs (wipeE Γ1 own) with
    | bad => rw [e2] at p; exact p.elim
    | ex _ _ _ => rw [e2] at p; exact p.elim
    | ok ys Γ9 =>
      rw [e2] at p
      dsimp only at p
      by_cases hlen : ys.length ≤ line
      · rw [if_pos hlen] at p
        have hH : 0 < f.o D ∨ Fr H D := S1.gone (.inl hD)
        have neA : a ≠ D := ne_of_none hr hD
        have kp : ∀ b u, H1 b = some u → upd H1 D (.lst []) b = some u := fun b u hu => by rw [upd_ne (ne_of_none hu hD)]; exact hu
        have zD : ((gi.own a).add f1).at D = 0 := by
          by_cases q : 0 < ((gi.own a).add f1).at D
          · have : Dm H1 D := by
              by_cases q2 : 0 < f1.at D
              · exact en1.dom D q2
              · refine RepL.dom _ rl0 D ?_
                unfold Fp.at Fp.add Fp.own one at q
                simp only [if_neg (Ne.symm neA)] at q
                unfold Fp.at at *
                omega
            obtain ⟨u, hu, _⟩ := this
            rw [hD] at hu; cases hu
          · omega
        obtain ⟨fw, enw, lw⟩ := en1.wipe own
        refine ⟨fun i m Hc => m = xs.length - i ∧ i ≤ xs.length ∧ ∃ Γc acc zs fc ga gR accV, REnv Hc Γc σ fc ∧ RepL Hc acc accV ga ∧ Hc D = some (.lst accV) ∧ RepL Hc (xs.drop i) (vs.drop i) gR ∧ Hc a = some (.lst vs) ∧ Good (((gR.own a).add (ga.own D)).add fc) ∧ Step H f Hc (((gR.own a).add (ga.own D)).add fc) ∧ wipeE Γc own = Γc ∧
            loopC (lcF (run T k) own tg t ex) (xs.drop i) Γc = .ok zs Γ9 ∧ ys = acc ++ zs,
          ⟨xs.length, rfl, Nat.zero_le _, wipeE Γ1 own, [], ys, fw, Fp.zero, gi, [], enw.mono (fun b u hu _ => kp b u hu) (fun t => t.ext kp), RepL.nil, upd_same, RepL.mono _ rl0 fun b u hu _ => kp b u hu, kp _ _ hr, ⟨fun b => ?_⟩, ⟨fun b u hu h0 nt => kp b u (S1.frame b u hu h0 nt), fun t => (S1.tab t).ext kp, fun b q => ?_, fun b q => ?_, fun b q => ?_⟩, wipeE_idem _ _, e2, rfl⟩, ?_⟩
        · have q := G1.g b
          have l := lw b
          unfold Fp.at at zD
          simp only [Fp.add, Fp.own, Fp.zero] at q zD ⊢
          by_cases e : b = D
          · subst e
            rw [one_self]
            omega
          · have : one D b = 0 := by unfold one; rw [if_neg e]
            rw [this]
            refine ⟨by omega, fun z => ?_⟩
            have := q.2 (by omega)
            omega
        · by_cases hb : b = D
          · subst hb; exact hH
          · have l := lw b
            have : one D b = 0 := by unfold one; rw [if_neg hb]
            simp only [Fp.add, Fp.own, Fp.zero, this] at q
            exact S1.own b (by simp only [Fp.add, Fp.own]; omega)
        · have l := lw b
          simp only [Fp.add, Fp.own, Fp.zero] at q
          exact S1.lent b (by simp only [Fp.add, Fp.own]; omega)
        · have l := lw b
          simp only [Fp.add, Fp.own, Fp.zero] at q
          exact S1.shr b (by simp only [Fp.add, Fp.own]; omega)
        · rintro i m Hc ⟨rfl, hi, Γc, acc, zs, fc, ga, gR, accV, enc, rl, hDc, rc, ra, Gc, Sc, hwi, e3, rfl⟩
          have fa0 : fc.o a = 0 := by
            have := (Gc.g a).1
            simp only [Fp.add, Fp.own, one] at this
            simp at this
            omega
          have sc' : Src K Hc fc (Itl K a) vs := .lst (.inl ra) fa0
          by_cases hlt : i < xs.length
          · refine .inr ⟨sc'.go (by omega), fun Hc => i + 1 ≤ xs.length ∧ ∃ Γc acc' zs' fc ga gR accV, REnv Hc Γc σ fc ∧ RepL Hc acc' accV ga ∧ Hc D = some (.lst accV) ∧ RepL Hc (xs.drop (i + 1)) (vs.drop (i + 1)) gR ∧ Hc a = some (.lst vs) ∧ Good (((gR.own a).add (ga.own D)).add fc) ∧ Step H f Hc (((gR.own a).add (ga.own D)).add fc) ∧ wipeE Γc own = Γc ∧
              loopC (lcF (run T k) own tg t ex) (xs.drop (i + 1)) Γc = .ok zs' Γ9 ∧ acc ++ zs = acc' ++ zs',
              fun H' ⟨q1, q2⟩ => ⟨xs.length - (i + 1), by omega, rfl, q1, q2⟩, fun x H' y => ?_⟩
            obtain ⟨rfl, hx⟩ := sc'.yld y (by omega)
            have hdr : xs.drop i = xs[i] :: xs.drop (i + 1) := List.drop_eq_getElem_cons hlt
            have hdv : vs.drop i = vs[i]'(by omega) :: vs.drop (i + 1) := List.drop_eq_getElem_cons (by omega)
            have hxv : vs[i]'(by omega) = x := by
              have := List.getElem?_eq_getElem (l := vs) (i := i) (by omega)
              rw [hx] at this
              exact (Option.some.inj this).symm
            rw [hxv] at hdv
            rw [hdr] at e3
            rw [hdr, hdv] at rc
            obtain ⟨o, Γn, zs', e4, e5, rfl⟩ := loopC_cons e3
            obtain ⟨v', r', gd, gr, e', rd, rr, rfl⟩ := rc.inv
            cases e'
            unfold lcF at e4
            rw [hwi] at e4
            cases e6 : setG Γc tg xs[i] with
            | none => rw [e6] at e4; cases e4
            | some Γ4 =>
              rw [e6] at e4
              dsimp only at e4
              have encw : REnv H' Γc (L2.wipe σ own) fc := by
                rw [← hwi] at enc ⊢
                exact enc.wipeS
              refine setG_ok encw rd e6 fun σ2 f4 en4 l4 hl2 ho2 => ?_
              have hag : ∀ j, j ∉ own → σ2[j]? = σ[j]? := fun j hj => by
                rw [ho2 j fun q => hj (hs j q), wipe_out hj]
              have hln : σ2.length = σ.length := by rw [hl2, wipe_length]
              refine ⟨wipe_same hln hag, ?_⟩
              have l5 : (((gr.own a).add (ga.own D)).add f4).le ((((gd.add gr).own a).add (ga.own D)).add fc) := fun b => by
                have := l4 b
                simp only [Fp.add, Fp.own] at *
                omega
              have G4' := Gc.le l5
              have S4 := Sc.less l5
              have G4 : Good f4 := G4'.le (Fp.le_addR _ _)
              have wiped : ∀ {H6 : Hp} {Γ6 : En} {f6 : Fp}, REnv H6 Γ6 σ2 f6 → ∃ f7, REnv H6 (wipeE Γ6 own) σ f7 ∧ f7.le f6 := fun {H6 Γ6 f6} e6 => by
                obtain ⟨f7, q, l⟩ := e6.wipe own
                exact ⟨f7, q.congr hln.symm fun j d hj => (hag j (wipeE_in hj).1).symm, l⟩
              -- what is held beside stays
              have side : ∀ {Ha Hb : Hp} {fa fb : Fp}, RepL Ha (xs.drop (i + 1)) (vs.drop (i + 1)) gr → Ha a = some (.lst vs) → RepL Ha acc accV ga → Ha D = some (.lst accV) → Good (((gr.own a).add (ga.own D)).add fa) → Step H f Ha (((gr.own a).add (ga.own D)).add fa) → Step Ha fa Hb fb → Good fb →
                  RepL Hb (xs.drop (i + 1)) (vs.drop (i + 1)) gr ∧ Hb a = some (.lst vs) ∧ RepL Hb acc accV ga ∧ Hb D = some (.lst accV) ∧ Good (((gr.own a).add (ga.own D)).add fb) ∧ Step H f Hb (((gr.own a).add (ga.own D)).add fb) := fun {Ha Hb fa fb} b1 b2 b3 b4 b5 b6 S5 G5 => by
                have dm := own2_dom b1 b2 b3 b4
                have kk := S5.keeps b5 dm
                refine ⟨RepL.mono _ b1 fun b u hu q => kk b u hu ?_, kk _ _ b2 ?_, RepL.mono _ b3 fun b u hu q => kk b u hu ?_, kk _ _ b4 ?_, S5.good b5 G5 dm, b6.trans (S5.beside dm)⟩
                · unfold Fp.at Fp.add Fp.own at *; simp only at *; omega
                · unfold Fp.at Fp.add Fp.own; simp only [one_self]; omega
                · unfold Fp.at Fp.add Fp.own at *; simp only at *; omega
                · unfold Fp.at Fp.add Fp.own; simp only [one_self]; omega
              cases e7 : evT (run T k) t Γ4 with
              | bad => rw [e7] at e4; cases e4
              | ex _ _ _ => rw [e7] at e4; cases e4
              | ok b Γ5 =>
                rw [e7] at e4
                refine hT Γ4 σ2 H' f4 _ en4 G4 ?_
                rw [e7]
                intro H5 f5 en5 G5 S5
                obtain ⟨a1, a2, a3, a4, a5, a6⟩ := side rr ra rl hDc G4' S4 S5 G5
                cases b with
                | false =>
                  have e4 : R.ok (none : Option VE.D) (wipeE Γ5 own) = .ok o Γn := e4
                  cases e4
                  obtain ⟨f7, en7, l7⟩ := wiped en5
                  have l8 := add_mono (Fp.le.refl ((gr.own a).add (ga.own D))) l7
                  exact ⟨hlt, _, acc, zs', f7, ga, gr, accV, en7, a3, a4, a1, a2, a5.le l8, a6.less l8, wipeE_idem _ _, e5, rfl⟩
                | true =>
                  have e4 : ((evE (run T k) ex Γ5).bind fun y Γ6 => R.ok (some y) (wipeE Γ6 own)) = .ok o Γn := e4
                  cases e8 : evE (run T k) ex Γ5 with
                  | bad => rw [e8] at e4; cases e4
                  | ex _ _ _ => rw [e8] at e4; cases e4
                  | ok y Γ6 =>
                    rw [e8] at e4
                    cases e4
                    show te σ2 H5 _
                    refine hE Γ5 σ2 H5 f5 _ en5 G5 ?_
                    rw [e8]
                    intro v H6 g6 f6 r6 en6 G6 S6
                    obtain ⟨c1, c2, c3, c4, c5, c6⟩ := side a1 a2 a3 a4 a5 a6 S6 G6
                    have hal : accV.length < sizeLine := by
                      rw [← c3.length, sizeLine_eq]
                      unfold line at hlen
                      rw [List.length_append, List.length_append] at hlen
                      have : 1 ≤ (some y).toList.length := Nat.le_refl 1
                      omega
                    have zz : gr.at D = 0 ∧ ga.at D = 0 ∧ g6.at D = 0 ∧ f6.at D = 0 := by
                      have q := c5.g D
                      simp only [Fp.add, Fp.own, one_self] at q
                      have := q.2 (by omega)
                      unfold Fp.at
                      omega
                    have kq : ∀ b u, H6 b = some u → b ≠ D → upd H6 D (.lst (accV ++ [v])) b = some u := fun b u hu hb => by
                      rw [upd_ne hb]; exact hu
                    obtain ⟨f7, en7, l7⟩ := wiped en6
                    have rl7 : RepL H6 (acc ++ [y]) (accV ++ [v]) (ga.add g6) := by
                      have := c3.append (RepL.cons r6 RepL.nil)
                      rw [Fp.add_zero] at this
                      exact this
                    have l8 : (((gr.own a).add ((ga.add g6).own D)).add f7).le (((gr.own a).add (ga.own D)).add (g6.add f6)) := fun b => by
                      have := l7 b
                      simp only [Fp.add, Fp.own] at *
                      omega
                    have S8 := c6.less l8
                    refine ⟨accV, c4, hal, hlt, wipeE Γ6 own, acc ++ [y], zs', f7, ga.add g6, gr, accV ++ [v], en7.mono (fun b u hu q => kq b u hu fun e => ?_) (tabs_upd c4), RepL.mono _ rl7 fun b u hu q => kq b u hu fun e => ?_, upd_same, RepL.mono _ c1 fun b u hu q => kq b u hu fun e => ?_, kq _ _ c2 neA, c5.le l8,
                      ⟨fun b u hu h0 nt => kq b u (S8.frame b u hu h0 nt) fun e => ?_, fun t => tabs_upd c4 (S8.tab t), S8.own, S8.lent, S8.shr⟩, wipeE_idem _ _, e5, by simp⟩
                    · subst e
                      have := l7 b
                      unfold Fp.at at *
                      omega
                    · subst e
                      unfold Fp.at Fp.add at *
                      simp only at *
                      omega
                    · subst e; omega
                    · subst e
                      rcases hH with z2 | z2
                      · omega
                      · exact z2.no ⟨u, hu, nt⟩
          · have hie : i = xs.length := by omega
            subst hie
            refine .inl ⟨sc'.stop (by omega), ?_⟩
            rw [List.drop_length] at e3
            have e3 : R.ok [] Γc = .ok zs Γ9 := e3
            cases e3
            rw [List.append_nil] at p
            have l8 : ((ga.own D).add fc).le (((gR.own a).add (ga.own D)).add fc) := fun b => by simp only [Fp.add, Fp.own]; omega
            refine p (.ref D) Hc (ga.own D) fc ?_ enc (Gc.le l8) (Sc.less l8)
            unfold Rep
            exact ⟨D, accV, ga, rfl, rl, hDc, rfl⟩
      · rw [if_neg hlen] at p
        exact p.elim
end
end VE

end
section
set_option maxHeartbeats 2000000
/-! VEy9: a comprehension over an own local, its items moved out and laid back; sorted of own rows, moved. -/
namespace VE
open PySem PySem.Spec PyProof.Rows L2
variable [TC]
section
variable {T : Nat → Option Def} {k : Nat} {c : Ctx} {X : Cx} {W : WX}
theorem set_mid {α : Type} (ys ds : List α) (d e : α) : (ys ++ d :: ds).set ys.length e = ys ++ e :: ds := by
  rw [List.set_append_right _ _ (Nat.le_refl _), Nat.sub_self]
  rfl
theorem get_mid {α : Type} (ys ds : List α) (d : α) : (ys ++ d :: ds)[ys.length]? = some d := by
  rw [List.getElem?_append_right (Nat.le_refl _), Nat.sub_self]
  rfl
/-- the list is one's own again, its items as told -/
theorem finB_ok {H0 H9 : Hp} {Γ9 : En} {σ9 : L2.St} {f0 f9 gA gt' : Fp} {j : Nat} {a : Addr} {vs : List V} {ys zs : List D} (h9 : REnv H9 Γ9 σ9 f9) (ej : gt Γ9 j = some (.lst .lent zs)) (hs : σ9[j]? = some (some (.ref a))) (rl : RepL H9 ys vs gA) (hr : Rd H9 a (.lst vs))
    (G : Good (gt'.add (gA.add f9))) (S : Step H0 f0 H9 (gt'.add (gA.add f9))) (ha : 0 < f0.o a) :
    ∃ f', REnv H9 (Γ9.set j (some (.lst .own ys))) σ9 f' ∧ Good (gt'.add f') ∧ Step H0 f0 H9 (gt'.add f') := by
  obtain ⟨v, g, h, e1, r, rfl, _, put⟩ := h9.put (gt_some ej)
  rw [hs] at e1
  cases e1
  unfold Rep at r
  obtain ⟨a', ws, g1, ea, rz, hz, rfl⟩ := r
  cases ea
  have hr2 : H9 a = some (.lst vs) := by
    rcases hr with q | ⟨o, q⟩
    · exact q
    · rw [q] at hz; cases hz
  have rep' : Rep H9 (.lst .own ys) (.ref a) (gA.own a) := by
    unfold Rep
    exact ⟨a, vs, _, rfl, rl, hr2, rfl⟩
  refine ⟨_, put _ _ rep', ⟨fun b => ?_⟩, ⟨S.frame, S.tab, fun b p => ?_, fun b p => ?_, fun b p => ?_⟩⟩
  · have q := G.g b
    simp only [Fp.add, Fp.lent, Fp.own] at q ⊢
    refine ⟨by omega, fun p => ?_⟩
    have := q.2 (by omega)
    omega
  · by_cases hb : b = a
    · subst hb
      exact .inl ha
    · refine S.own b ?_
      unfold Fp.add Fp.own one at p
      unfold Fp.add Fp.lent
      simp only [if_neg hb] at p ⊢
      omega
  · refine S.lent b ?_
    simp only [Fp.add, Fp.lent, Fp.own] at p ⊢
    omega
  · refine S.shr b ?_
    simp only [Fp.add, Fp.lent, Fp.own] at p ⊢
    omega
/-- what a slot held, taken out -/
theorem take_x {H : Hp} {Γ : En} {σ : L2.St} {f : Fp} {x : Nat} {xv : V} (h : REnv H Γ σ f) (hx : ∀ v, σ[x]? = some (some v) → v = xv) : ∃ g h' : Fp, Rep H (tkX Γ x) xv g ∧ f = g.add h' ∧ REnv H (Γ.set x none) σ h' := by
  unfold tkX
  cases e : gt Γ x with
  | none =>
    obtain ⟨g, h', e1, e2⟩ := h.none x
    have : Γ.set x none = Γ := by
      unfold gt at e
      cases q : Γ[x]? with
      | none => rw [List.set_eq_of_length_le (List.getElem?_eq_none_iff.mp q)]
      | some o =>
        rw [q] at e
        cases o with
        | none => exact set_self q
        | some d => cases e
    rw [this]
    exact ⟨Fp.zero, f, by show Rep H .gone xv Fp.zero; unfold Rep; rfl, (Fp.zero_add _).symm, h⟩
  | some d =>
    obtain ⟨v, g, h', e1, r, e2, e3, _⟩ := h.get (gt_some e)
    have := hx v e1
    subst this
    exact ⟨g, h', r, e2, e3⟩
theorem rep_gones {H : Hp} : ∀ {xs : List D} {vs : List V}, xs.length = vs.length → RepL H (xs.map fun _ => VE.D.gone) vs Fp.zero
  | [], [], _ => RepL.nil
  | x :: xs, v :: vs, h => by
    have := RepL.cons (show Rep H .gone v Fp.zero by unfold Rep; rfl) (rep_gones (H := H) (xs := xs) (vs := vs) (by simpa using h))
    rw [Fp.zero_add] at this
    exact this
  | [], _ :: _, h => by cases h
  | _ :: _, [], h => by cases h
theorem lst_step {H H' : Hp} {f f' : Fp} {a : Addr} {vs : List V} (r : Rd H a (.lst vs)) (z : f.o a = 0) (S : Step H f H' f') : Rd H' a (.lst vs) ∧ f'.o a = 0 := by
  have dm : Dm H a := by
    rcases r with r | ⟨o, r⟩
    · exact ⟨_, r, fun ps e => by cases e⟩
    · exact ⟨_, r, fun ps e => by cases e⟩
  refine ⟨?_, ?_⟩
  · rcases r with r | ⟨o, r⟩
    · exact .inl (S.frame _ _ r z fun ps e => by cases e)
    · exact .inr ⟨o, S.frame _ _ r z fun ps e => by cases e⟩
  · by_cases p : 0 < f'.o a
    · rcases S.own a p with q | q
      · omega
      · exact q.no dm
    · omega

theorem wipe_set_any {Γ : En} {x : Nat} : ∀ {is : List Nat}, wipeE (Γ.set x none) is = (wipeE Γ is).set x none
  | [] => rfl
  | i :: is => by
    unfold wipeE
    rw [wipe_set_any (is := is)]
    by_cases e : i = x
    · subst e
      rfl
    · rw [List.set_comm _ _ e]
theorem wipe_set_in {Γ : En} {x : Nat} : ∀ {is : List Nat}, x ∈ is → wipeE (Γ.set x none) is = wipeE Γ is
  | i :: is, h => by
    unfold wipeE
    rw [wipe_set_any (is := is)]
    by_cases e : i = x
    · subst e
      rw [List.set_set]
    · rw [← wipe_set_any, wipe_set_in (List.mem_of_ne_of_mem (fun z => e z.symm) h)]
theorem hold_dom {H : Hp} {D : Addr} {xs acc : List VE.D} {ws accV : List V} {gR ga : Fp} (rr : RepL H xs ws gR) (rl : RepL H acc accV ga) (hD : H D = some (.lst accV)) : ∀ b, 0 < (gR.add (ga.own D)).at b → Dm H b := fun b q => by
  by_cases e2 : b = D
  · subst e2; exact ⟨_, hD, fun ps e => by cases e⟩
  · unfold Fp.at Fp.add Fp.own one at q
    simp only [if_neg e2] at q
    by_cases z : 0 < gR.at b
    · exact RepL.dom _ rr b z
    · exact RepL.dom _ rl b (by unfold Fp.at at *; omega)
theorem lcB_ok {te : TE} {tt : TT} {own : List Nat} {x j : Nat} {t : Tx} {ex : Ex} {K : PySem.W.Frag}
    (hT : ∀ Γ σ H f Q, REnv H Γ σ f → Good f → PB H f σ Q (evT (run T k) t Γ) → tt σ H Q) (hE : ∀ Γ σ H f Q, REnv H Γ σ f → Good f → PV H f σ Q (evE (run T k) ex Γ) → te σ H Q) (hx : x ∈ own) (hj : j ∉ own) (Γ : En) (σ : L2.St) (H : Hp) (f : Fp) (Q : VK) (en : REnv H Γ σ f) (G : Good f)
    (p : PV H f σ Q (kLcB own x j (evT (run T k) t) (evE (run T k) ex) Γ)) : tLc (iSeq K (tVar j)) (gTg K (.nm x)) tt te own σ H Q := by
  unfold kLcB at p
  split at p
  · rename_i xs hg
    obtain ⟨v, g0, h0, ev, r0, rfl, _, put⟩ := en.put (gt_some hg)
    unfold Rep at r0
    obtain ⟨a, vs, gi, rfl, rl0, hr, rfl⟩ := r0
    have hlv : xs.length = vs.length := rl0.length
    have en1 := put (.lst .lent (xs.map fun _ => VE.D.gone)) (Fp.zero.lent a) (by unfold Rep; exact ⟨a, vs, Fp.zero, rfl, rep_gones hlv, hr, rfl⟩)
    have G1 : Good (gi.add ((Fp.zero.lent a).add h0)) := ⟨fun b => by
      have := G.g b
      simp only [Fp.add, Fp.own, Fp.lent, Fp.zero] at *
      refine ⟨by omega, fun y => ?_⟩
      have := this.2 (by omega)
      omega⟩
    have S1 : Step H ((gi.own a).add h0) H (gi.add ((Fp.zero.lent a).add h0)) := ⟨fun _ _ x _ _ => x, fun x => x, fun b y => .inl (by simp only [Fp.add, Fp.own, Fp.lent, Fp.zero] at *; omega), fun b y => .inl (by simp only [Fp.add, Fp.own, Fp.lent, Fp.zero] at *; omega), fun b y => .inl (by simp only [Fp.add, Fp.own, Fp.lent, Fp.zero] at *; omega)⟩
    have ga0 : gi.o a = 0 := by
      have := G.g a
      simp only [Fp.add, Fp.own, one] at this
      have := this.1
      simp at this
      omega
    have fa0 : ((Fp.zero.lent a).add h0).o a = 0 := by
      have := G.g a
      simp only [Fp.add, Fp.own, Fp.lent, Fp.zero, one] at *
      have := this.1
      simp at this
      omega
    have ha0 : 0 < ((gi.own a).add h0).o a := by
      simp only [Fp.add, Fp.own, one_self]
      omega
    refine ⟨.ref a, ev, .inl ⟨a, rfl, ⟨vs, .inl (.inl hr)⟩, fun D hD => ?_⟩⟩
    have hH : 0 < ((gi.own a).add h0).o D ∨ Fr H D := S1.gone (.inl hD)
    have neA : a ≠ D := ne_of_none hr hD
    have kp : ∀ b u, H b = some u → upd H D (.lst []) b = some u := fun b u hu => by rw [upd_ne (ne_of_none hu hD)]; exact hu
    have zD : (gi.add ((Fp.zero.lent a).add h0)).at D = 0 := by
      by_cases q : 0 < (gi.add ((Fp.zero.lent a).add h0)).at D
      · have : Dm H D := by
          by_cases q2 : 0 < ((Fp.zero.lent a).add h0).at D
          · exact en1.dom D q2
          · refine RepL.dom _ rl0 D ?_
            unfold Fp.at Fp.add at *
            simp only at *
            omega
        obtain ⟨u, hu, _⟩ := this
        rw [hD] at hu; cases hu
      · omega
    obtain ⟨fw, enw, lw⟩ := en1.wipe own
    refine ⟨fun i m Hc => m = xs.length - i ∧ i ≤ xs.length ∧ ∃ Γc ys acc fc ga gS accV, REnv Hc Γc σ fc ∧ ys.length = i ∧ RepL Hc (ys ++ xs.drop i) vs gS ∧ (gS.o a = 0 ∧ ga.o a = 0) ∧ RepL Hc acc accV ga ∧ Hc D = some (.lst accV) ∧ Good ((gS.add (ga.own D)).add fc) ∧ (Rd Hc a (.lst vs) ∧ fc.o a = 0) ∧ Step H ((gi.own a).add h0) Hc ((gS.add (ga.own D)).add fc) ∧ wipeE Γc own = Γc ∧
        loopLB own x j (evT (run T k) t) (evE (run T k) ex) xs [] [] (wipeE (Γ.set j (some (.lst .lent (xs.map fun _ => VE.D.gone)))) own) = loopLB own x j (evT (run T k) t) (evE (run T k) ex) (xs.drop i) ys acc Γc,
      ⟨xs.length, rfl, Nat.zero_le _, wipeE (Γ.set j (some (.lst .lent (xs.map fun _ => VE.D.gone)))) own, [], [], fw, Fp.zero, gi, [], enw.mono (fun b u hu _ => kp b u hu) (fun t => t.ext kp), rfl, RepL.mono _ rl0 fun b u hu _ => kp b u hu, ⟨ga0, rfl⟩, RepL.nil, upd_same, ⟨fun b => ?_⟩, ⟨.inl (kp _ _ hr), by have := (lw a).1; omega⟩, ⟨fun b u hu h0 nt => kp b u (S1.frame b u hu h0 nt), fun t => (S1.tab t).ext kp, fun b q => ?_, fun b q => ?_, fun b q => ?_⟩, wipeE_idem _ _, rfl⟩, ?_⟩
    · have q := G1.g b
      have l := lw b
      unfold Fp.at at zD
      simp only [Fp.add, Fp.own, Fp.lent, Fp.zero] at q zD l ⊢
      by_cases e : b = D
      · subst e
        rw [one_self]
        omega
      · have : one D b = 0 := by unfold one; rw [if_neg e]
        rw [this]
        refine ⟨by omega, fun z => ?_⟩
        have := q.2 (by omega)
        omega
    · by_cases hb : b = D
      · subst hb; exact hH
      · have l := lw b
        have : one D b = 0 := by unfold one; rw [if_neg hb]
        simp only [Fp.add, Fp.own, Fp.lent, Fp.zero, this] at q l
        exact S1.own b (by simp only [Fp.add, Fp.own, Fp.lent, Fp.zero]; omega)
    · have l := lw b
      simp only [Fp.add, Fp.own, Fp.lent, Fp.zero] at q l
      exact S1.lent b (by simp only [Fp.add, Fp.own, Fp.lent, Fp.zero]; omega)
    · have l := lw b
      simp only [Fp.add, Fp.own, Fp.lent, Fp.zero] at q l
      exact S1.shr b (by simp only [Fp.add, Fp.own, Fp.lent, Fp.zero]; omega)
    · rintro i m Hc ⟨rfl, hi, Γc, ys, acc, fc, ga, gS, accV, enc, ly, rc, ⟨ra, rga⟩, rl, hDc, Gc, sc, Sc, hwi, eq⟩
      have sc' : Src K Hc fc (Itl K a) vs := .lst sc.1 sc.2
      rw [eq] at p
      by_cases hlt : i < xs.length
      · refine .inr ⟨sc'.go (by omega), fun Hc => i + 1 ≤ xs.length ∧ ∃ Γc ys acc fc ga gS accV, REnv Hc Γc σ fc ∧ ys.length = i + 1 ∧ RepL Hc (ys ++ xs.drop (i + 1)) vs gS ∧ (gS.o a = 0 ∧ ga.o a = 0) ∧ RepL Hc acc accV ga ∧ Hc D = some (.lst accV) ∧ Good ((gS.add (ga.own D)).add fc) ∧ (Rd Hc a (.lst vs) ∧ fc.o a = 0) ∧ Step H ((gi.own a).add h0) Hc ((gS.add (ga.own D)).add fc) ∧ wipeE Γc own = Γc ∧
            loopLB own x j (evT (run T k) t) (evE (run T k) ex) xs [] [] (wipeE (Γ.set j (some (.lst .lent (xs.map fun _ => VE.D.gone)))) own) = loopLB own x j (evT (run T k) t) (evE (run T k) ex) (xs.drop (i + 1)) ys acc Γc,
          fun H' ⟨q1, q2⟩ => ⟨xs.length - (i + 1), by omega, rfl, q1, q2⟩, fun xv H' y => ?_⟩
        obtain ⟨rfl, hxv⟩ := sc'.yld y (by omega)
        have hdr : xs.drop i = xs[i] :: xs.drop (i + 1) := List.drop_eq_getElem_cons hlt
        rw [hdr] at rc eq p
        obtain ⟨v', gd, gr, e', rd, egs, _, putL⟩ := rc.get (get_mid ys (xs.drop (i + 1)) xs[i])
        rw [ly, hxv] at e'
        cases e'
        subst egs
        have rh : RepL H' (ys ++ VE.D.gone :: xs.drop (i + 1)) vs gr := by
          have := putL .gone xv Fp.zero (by unfold Rep; rfl)
          rw [set_mid, Fp.zero_add, set_self (by rw [ly]; exact hxv)] at this
          exact this
        have encw : REnv H' Γc (L2.wipe σ own) fc := by
          rw [← hwi] at enc ⊢
          exact enc.wipeS
        obtain ⟨f4, en4, l4⟩ := encw.put1 (i := x) rd
        have hln : ((L2.wipe σ own).set x (some xv)).length = σ.length := by rw [List.length_set, wipe_length]
        have hag : ∀ i, i ∉ own → ((L2.wipe σ own).set x (some xv))[i]? = σ[i]? := fun i hi => by
          rw [List.getElem?_set_ne (fun e => hi (by rw [← e]; exact hx)), wipe_out hi]
        show L2.wipe ((L2.wipe σ own).set x (some xv)) own = L2.wipe σ own ∧ tt ((L2.wipe σ own).set x (some xv)) H' _
        refine ⟨wipe_same hln hag, ?_⟩
        generalize hσ : (L2.wipe σ own).set x (some xv) = σ2 at *
        have l5 : ((gr.add (ga.own D)).add f4).le (((gd.add gr).add (ga.own D)).add fc) := fun b => by
          have := l4 b
          simp only [Fp.add, Fp.own] at *
          omega
        have G4' := Gc.le l5
        have S4 := Sc.less l5
        have G4 : Good f4 := G4'.le (Fp.le_addR _ _)
        have gr0 : gr.o a = 0 := by
          simp only [Fp.add] at ra
          omega
        have fa4 : f4.o a = 0 := by
          have := (l4 a).1
          have z := sc.2
          simp only [Fp.add] at *
          omega
        have wiped : ∀ {H6 : Hp} {Γ6 : En} {f6 : Fp}, REnv H6 Γ6 σ2 f6 → ∃ f7, REnv H6 (wipeE Γ6 own) σ f7 ∧ f7.le f6 := fun {H6 Γ6 f6} e6 => by
          obtain ⟨f7, q, l⟩ := e6.wipe own
          exact ⟨f7, q.congr hln.symm fun j d hj => (hag j (wipeE_in hj).1).symm, l⟩
        -- what is held beside stays
        have side : ∀ {Ha Hb : Hp} {fa fb : Fp}, RepL Ha (ys ++ VE.D.gone :: xs.drop (i + 1)) vs gr → (Rd Ha a (.lst vs) ∧ fa.o a = 0) → RepL Ha acc accV ga → Ha D = some (.lst accV) → Good ((gr.add (ga.own D)).add fa) → Step H ((gi.own a).add h0) Ha ((gr.add (ga.own D)).add fa) → Step Ha fa Hb fb → Good fb →
            RepL Hb (ys ++ VE.D.gone :: xs.drop (i + 1)) vs gr ∧ (Rd Hb a (.lst vs) ∧ fb.o a = 0) ∧ RepL Hb acc accV ga ∧ Hb D = some (.lst accV) ∧ Good ((gr.add (ga.own D)).add fb) ∧ Step H ((gi.own a).add h0) Hb ((gr.add (ga.own D)).add fb) := fun {Ha Hb fa fb} b1 b2 b3 b4 b5 b6 S5 G5 => by
          have dm := hold_dom b1 b3 b4
          have kk := S5.keeps b5 dm
          refine ⟨RepL.mono _ b1 fun b u hu q => kk b u hu ?_, lst_step b2.1 b2.2 S5, RepL.mono _ b3 fun b u hu q => kk b u hu ?_, kk _ _ b4 ?_, S5.good b5 G5 dm, b6.trans (S5.beside dm)⟩
          · unfold Fp.at Fp.add Fp.own at *; simp only at *; omega
          · unfold Fp.at Fp.add Fp.own at *; simp only at *; omega
          · unfold Fp.at Fp.add Fp.own; simp only [one_self]; omega
        -- the item laid back
        have lay : ∀ {H5 : Hp} {Γ5 : En} {f5 : Fp}, REnv H5 Γ5 σ2 f5 → RepL H5 (ys ++ VE.D.gone :: xs.drop (i + 1)) vs gr →
            ∃ gy f7 : Fp, REnv H5 (wipeE Γ5 own) σ f7 ∧ (gy.add f7).le f5 ∧ RepL H5 ((ys ++ [tkX Γ5 x]) ++ xs.drop (i + 1)) vs (gy.add gr) := fun {H5 Γ5 f5} en5 r5 => by
          obtain ⟨gy, h5, ry, e5, en6⟩ := take_x (x := x) (xv := xv) en5 fun v hv => by
            subst hσ
            by_cases q : x < (L2.wipe σ own).length
            · rw [List.getElem?_set_self q] at hv
              exact (Option.some.inj (Option.some.inj hv)).symm
            · rw [List.getElem?_eq_none_iff.mpr (by rw [List.length_set]; omega)] at hv
              cases hv
          obtain ⟨f7, en7, l7⟩ := wiped en6
          have ew : wipeE (Γ5.set x none) own = wipeE Γ5 own := by
            refine wipe_set_in hx
          rw [ew] at en7
          refine ⟨gy, f7, en7, by rw [e5]; exact add_mono (Fp.le.refl _) l7, ?_⟩
          obtain ⟨w, g6, h6, e7, rg, eg, _, put6⟩ := r5.get (get_mid ys (xs.drop (i + 1)) VE.D.gone)
          rw [ly, hxv] at e7
          cases e7
          unfold Rep at rg
          subst rg
          rw [Fp.zero_add] at eg
          subst eg
          have := put6 (tkX Γ5 x) xv gy ry
          rw [set_mid, set_self (by rw [ly]; exact hxv)] at this
          rw [List.append_assoc]
          exact this
        have el : loopLB own x j (evT (run T k) t) (evE (run T k) ex) (xs[i] :: xs.drop (i + 1)) ys acc Γc = (match evT (run T k) t (Γc.set x (some xs[i])) with
          | .ok true Γ5 => match evE (run T k) ex Γ5 with
            | .ok y Γ6 => if acc.length < line then loopLB own x j (evT (run T k) t) (evE (run T k) ex) (xs.drop (i + 1)) (ys ++ [tkX Γ6 x]) (acc ++ [y]) (wipeE Γ6 own) else .bad
            | _ => .bad
          | .ok false Γ5 => loopLB own x j (evT (run T k) t) (evE (run T k) ex) (xs.drop (i + 1)) (ys ++ [tkX Γ5 x]) acc (wipeE Γ5 own)
          | _ => .bad) := rfl
        cases e7 : evT (run T k) t (Γc.set x (some xs[i])) with
        | bad => rw [el, e7] at p; exact p.elim
        | ex _ _ _ => rw [el, e7] at p; exact p.elim
        | ok b Γ5 =>
          rw [e7] at el
          refine hT _ σ2 H' f4 _ en4 G4 ?_
          rw [e7]
          intro H5 f5 en5 G5 S5
          obtain ⟨a1, a2, a3, a4, a5, a6⟩ := side rh ⟨sc.1, fa4⟩ rl hDc G4' S4 S5 G5
          cases b with
          | false =>
            obtain ⟨gy, f7, en7, l7, r7⟩ := lay en5 a1
            have l8 : (((gy.add gr).add (ga.own D)).add f7).le ((gr.add (ga.own D)).add f5) := fun b => by
              have := l7 b
              simp only [Fp.add, Fp.own] at *
              omega
            have z3 := a2.2
            have z4 := (l7 a).1
            simp only [Fp.add] at z4
            refine ⟨hlt, wipeE Γ5 own, ys ++ [tkX Γ5 x], acc, f7, ga, gy.add gr, accV, en7, by rw [List.length_append, ly]; rfl, r7, ⟨by simp only [Fp.add]; omega, rga⟩, a3, a4, a5.le l8, ⟨a2.1, by omega⟩, a6.less l8, wipeE_idem _ _, eq.trans el⟩
          | true =>
            dsimp only at el
            cases e8 : evE (run T k) ex Γ5 with
            | bad => rw [el, e8] at p; exact p.elim
            | ex _ _ _ => rw [el, e8] at p; exact p.elim
            | ok y Γ6 =>
              rw [e8] at el
              dsimp only at el
              by_cases hal : acc.length < line
              · rw [if_pos hal] at el
                show te σ2 H5 _
                refine hE Γ5 σ2 H5 f5 _ en5 G5 ?_
                rw [e8]
                intro v H6 g6 f6 r6 en6 G6 S6
                obtain ⟨c1, c2, c3, c4, c5, c6⟩ := side a1 a2 a3 a4 a5 a6 S6 G6
                obtain ⟨gy, f7, en7, l7, r7⟩ := lay en6 c1
                have hal' : accV.length < sizeLine := by
                  rw [← c3.length, sizeLine_eq]
                  unfold line at hal
                  omega
                have l8 : (((gy.add gr).add ((ga.add g6).own D)).add f7).le ((gr.add (ga.own D)).add (g6.add f6)) := fun b => by
                  have := l7 b
                  simp only [Fp.add, Fp.own] at *
                  omega
                have c5' := c5.le l8
                have zz : (gy.add gr).at D = 0 ∧ (ga.add g6).at D = 0 ∧ f7.at D = 0 := by
                  have q := c5'.g D
                  simp only [Fp.add, Fp.own, one_self] at q
                  have := q.2 (by omega)
                  unfold Fp.at
                  simp only [Fp.add]
                  omega
                have kq : ∀ b u, H6 b = some u → b ≠ D → upd H6 D (.lst (accV ++ [v])) b = some u := fun b u hu hb => by
                  rw [upd_ne hb]; exact hu
                have rl7 : RepL H6 (acc ++ [y]) (accV ++ [v]) (ga.add g6) := by
                  have := c3.append (RepL.cons r6 RepL.nil)
                  rw [Fp.add_zero] at this
                  exact this
                have S8 := c6.less l8
                have z3 := c2.2
                have z4 := (l7 a).1
                simp only [Fp.add] at z3 z4
                refine ⟨accV, c4, hal', hlt, wipeE Γ6 own, ys ++ [tkX Γ6 x], acc ++ [y], f7, ga.add g6, gy.add gr, accV ++ [v], en7.mono (fun b u hu q => kq b u hu fun e => ?_) (tabs_upd c4), by rw [List.length_append, ly]; rfl, RepL.mono _ r7 fun b u hu q => kq b u hu fun e => ?_, ⟨by simp only [Fp.add]; omega, by simp only [Fp.add]; omega⟩, RepL.mono _ rl7 fun b u hu q => kq b u hu fun e => ?_, upd_same, c5', ⟨?_, by omega⟩,
                  ⟨fun b u hu h0 nt => kq b u (S8.frame b u hu h0 nt) fun e => ?_, fun t => tabs_upd c4 (S8.tab t), S8.own, S8.lent, S8.shr⟩, wipeE_idem _ _, eq.trans el⟩
                · subst e
                  unfold Fp.at at *
                  omega
                · subst e
                  unfold Fp.at at *
                  omega
                · subst e
                  unfold Fp.at at *
                  omega
                · rcases c2.1 with q | ⟨o, q⟩
                  · exact .inl (kq _ _ q neA)
                  · exact .inr ⟨o, kq _ _ q neA⟩
                · subst e
                  rcases hH with z2 | z2
                  · omega
                  · exact z2.no ⟨u, hu, nt⟩
              · rw [if_neg hal] at el
                rw [el] at p
                exact p.elim
      · have hie : i = xs.length := by omega
        refine .inl ⟨sc'.stop (by omega), ?_⟩
        rw [List.drop_eq_nil_of_le (by omega)] at p rc
        rw [List.append_nil] at rc
        have p : PV H ((gi.own a).add h0) σ Q (finLB Γc j ys acc) := p
        unfold finLB at p
        split at p
        · rename_i zs ej
          obtain ⟨f8, q1, q2, q3⟩ := finB_ok (gt' := ga.own D) (gA := gS) enc ej ev rc sc.1 (Gc.le fun b => by simp only [Fp.add]; omega) (Sc.less fun b => by simp only [Fp.add]; omega) ha0
          refine p (.ref D) Hc (ga.own D) f8 ?_ q1 q2 q3
          unfold Rep
          exact ⟨D, accV, ga, rfl, rl, hDc, rfl⟩
        · exact p.elim
  · exact p.elim
theorem orows_of : ∀ {ds : List VE.D} {rs : List (List Int)}, orows? ds = some rs → ds = rs.map rowO
  | [], rs, h => by
    cases h
    rfl
  | d :: ds, rs, h => by
    unfold orows? at h
    split at h
    · rename_i e; cases e
    · rename_i ys ds' e
      cases e
      obtain ⟨r, h1, h2⟩ := Option.bind_eq_some_iff.mp h
      obtain ⟨rs', h3, rfl⟩ := Option.map_eq_some_iff.mp h2
      rw [orows_of h3, ints_of h1]
      rfl
    · cases h
theorem orow_dp {H : Hp} {K : PySem.W.Frag} {r : List Int} {v : V} {g : Fp} (h : Rep H (rowO r) v g) : ∃ t, v = .ref t ∧ Dp K H v (.list (r.map PyData.int)) := by
  unfold rowO Rep at h
  obtain ⟨a, vs, f, rfl, rl, hr, _⟩ := h
  rw [rl.of_ints] at hr
  refine ⟨a, rfl, .lst (.inl (.inl hr)) ?_⟩
  clear hr rl
  induction r with
  | nil => exact .nil
  | cons i r ih => exact .cons (.int i) ih
theorem orow_inj {H : Hp} {v : V} {r r' : List Int} {g g' : Fp} (h : Rep H (rowO r) v g) (h' : Rep H (rowO r') v g') : r = r' := by
  unfold rowO Rep at h h'
  obtain ⟨a, vs, f, rfl, rl, hr, _⟩ := h
  obtain ⟨a', vs', f', e, rl', hr', _⟩ := h'
  cases e
  rw [rl.of_ints] at hr
  rw [rl'.of_ints] at hr'
  rw [hr] at hr'
  have e := HO.lst.inj (Option.some.inj hr')
  have := congrArg (List.map fun v => match v with | V.int i => i | _ => 0) e
  simpa [Function.comp_def] using this
def unrowO : VE.D → List Int
  | .lst _ xs => (ints? xs).getD []
  | _ => []
theorem unrowO_row (r : List Int) : unrowO (rowO r) = r := by
  show (ints? (r.map VE.D.int)).getD [] = r
  rw [ints_map]
  rfl
open Classical in
noncomputable def rowOOf (H : Hp) (x : V) : List Int := if h : ∃ r g, Rep H (rowO r) x g then h.choose else []
theorem rowOOf_is {H : Hp} {x : V} {r : List Int} {g : Fp} (h : Rep H (rowO r) x g) : rowOOf H x = r := by
  have e : ∃ r g, Rep H (rowO r) x g := ⟨r, g, h⟩
  unfold rowOOf
  rw [dif_pos e]
  obtain ⟨g', h'⟩ := e.choose_spec
  exact orow_inj h' h
theorem orows_read {H : Hp} : ∀ {es : List VE.D} {ys : List V} {f : Fp}, RepL H es ys f → (∀ e ∈ es, ∃ r, e = rowO r) → es = (ys.map (rowOOf H)).map rowO
  | [], ys, f, r, _ => by
    rw [r.inv0.1]
    rfl
  | e :: es, ys, f, r, k => by
    obtain ⟨v, vs, g, h, rfl, r1, r2, _⟩ := r.inv
    obtain ⟨q, rfl⟩ := k e List.mem_cons_self
    rw [List.map_cons, List.map_cons, rowOOf_is r1, ← orows_read r2 fun e he => k e (List.mem_cons_of_mem _ he)]
/-- sorted(..) of a list just made -/
theorem l_srt (C : CO T k c X) {ex : Ex} {e : Expr} {p pos : Pos} (hb : bin c "sorted" = true) (hn : noStar e = true) (h : VEx T k X ex e) : VEx T k X (.srt ex) (.Call (.Name "sorted" p) [e] [] pos) := by
  obtain ⟨te, pe, s⟩ := h
  have q := pe_bcall (o := .sorted) (t := false) (p := p) (pos := pos) C hb rfl (.cons hn pe .nil)
  refine ⟨_, q, fun Γ σ H f Q en G p => ?_⟩
  show te σ H _
  refine s Γ σ H f _ en G ?_
  have p : PV H f σ Q (kSrt (evE (run T k) ex Γ)) := p
  unfold kSrt at p
  obtain ⟨d, Γ1, e1, p⟩ := p.bind
  rw [e1]
  intro v H1 g1 f1 r1 en1 G1 S1
  show callR X.K .sorted [v] H1 Q
  match d, p, r1 with
  | .lst .own xs, p, r1 =>
    dsimp only at p
    split at p
    · rename_i rs eo
      unfold Rep at r1
      obtain ⟨a, vs, g, rfl, r, hr, rfl⟩ := r1
      rw [orows_of eo] at r
      have hm : ∀ e ∈ rs.map rowO, ∃ r, e = rowO r := fun e he => by
        obtain ⟨q, _, rfl⟩ := List.mem_map.mp he
        exact ⟨q, rfl⟩
      refine .inr ⟨false, a, vs, rowOOf H1, rfl, .inl (.inl hr), fun x hx => ⟨?_, fun z => by cases z⟩, fun ys b hs hp hb => ?_⟩
      · obtain ⟨i, hi⟩ := List.getElem?_of_mem hx
        have hi' := (List.getElem?_eq_some_iff.mp hi).1
        rw [← r.length] at hi'
        obtain ⟨w, g', ew, rw', _⟩ := r.get' (List.getElem?_eq_getElem hi')
        rw [hi] at ew
        cases ew
        obtain ⟨q, eq⟩ := hm _ (List.getElem_mem hi')
        rw [eq] at rw'
        obtain ⟨t, e, dp⟩ := orow_dp (K := X.K) rw'
        rw [rowOOf_is rw']
        exact ⟨t, e, dp⟩
      · obtain ⟨es, r2, p2⟩ := RepL.perm' hp.symm r
        have e3 := orows_read r2 fun e he => hm e (p2.mem_iff.mpr he)
        have e4 : ys.map (rowOOf H1) = sortRows rs := by
          refine sortRows_is ?_ (List.pairwise_map.mpr hs)
          have := (p2.symm.map unrowO)
          rw [e3, List.map_map, List.map_map] at this
          simpa [Function.comp_def, unrowO_row] using this
        rw [e3, e4] at r2
        have hne : ∀ c u, H1 c = some u → upd H1 b (.lst ys) c = some u := fun c u hu => by rw [upd_ne (ne_of_none hu hb)]; exact hu
        have zb : ((g.own a).add f1).at b = 0 := by
          by_cases q : 0 < ((g.own a).add f1).at b
          · have : Dm H1 b := by
              by_cases q2 : 0 < f1.at b
              · exact en1.dom b q2
              · by_cases e : b = a
                · subst e; rw [hb] at hr; cases hr
                · refine RepL.dom _ r b ?_
                  unfold Fp.at Fp.add Fp.own one at q
                  simp only [if_neg e] at q
                  unfold Fp.at at *
                  omega
            obtain ⟨u, hu, _⟩ := this
            rw [hb] at hu; cases hu
          · omega
        have ab : a ≠ b := ne_of_none hr hb
        have hH : 0 < f.o b ∨ Fr H b := S1.gone (.inl hb)
        refine p (.ref b) _ (g.own b) f1 ?_ (en1.mono (fun c u hu _ => hne c u hu) (fun t => t.ext hne)) ⟨fun c => ?_⟩ ⟨fun c u hu h0 nt => hne c u (S1.frame c u hu h0 nt), fun t => (S1.tab t).ext hne, fun c q => ?_, fun c q => ?_, fun c q => ?_⟩
        · unfold Rep
          exact ⟨b, ys, g, rfl, RepL.mono _ r2 fun c u hu _ => hne c u hu, upd_same, rfl⟩
        · have q := G1.g c
          unfold Fp.at at zb
          simp only [Fp.add, Fp.own] at q zb ⊢
          by_cases e : c = b
          · subst e
            rw [one_self]
            omega
          · have : one b c = 0 := by unfold one; rw [if_neg e]
            rw [this]
            refine ⟨by omega, fun z => ?_⟩
            have := q.2 (by omega)
            omega
        · by_cases e : c = b
          · subst e; exact hH
          · have : one b c = 0 := by unfold one; rw [if_neg e]
            simp only [Fp.add, Fp.own, this] at q
            exact S1.own c (by simp only [Fp.add, Fp.own]; omega)
        · simp only [Fp.add, Fp.own] at q
          exact S1.lent c (by simp only [Fp.add, Fp.own]; omega)
        · simp only [Fp.add, Fp.own] at q
          exact S1.shr c (by simp only [Fp.add, Fp.own]; omega)
    · exact p.elim
  | .lst .lent xs, p, _ => exact p.elim
  | .lst .shr xs, p, _ => exact p.elim
  | .int _, p, _ => exact p.elim
  | .bl _, p, _ => exact p.elim
  | .str _, p, _ => exact p.elim
  | .non, p, _ => exact p.elim
  | .gone, p, _ => exact p.elim
  | .tup _, p, _ => exact p.elim
end
end VE

end
section
set_option maxHeartbeats 2000000
/-! VSK: a key function (-y[x], x), called: all that was there stays. -/
namespace SK
open PySem PySem.Spec PyProof.Rows L2
variable {prog : Program} {w : World} {A : Around}
def kBody (y x : Str) (k : Nat) (p1 p2 p3 p4 p5 p6 : Pos) : Expr := .Tuple [.UnaryOp .USub (.Subscript (.Name y p1) (.Name x p2) p3) p4, .Name x p5] k p6
theorem body_ok {env : Env} {s : Shared} {y x : Str} {k : Nat} {p1 p2 p3 p4 p5 p6 : Pos} {m : Str → Option Value} {c a : Addr} {its : Array Value} {i z : Int} {t u : Tok} {E : Value → Shared → Prop}
    (hk : env.scope.kind = .function) (hx : env.kindOf x = some .local) (hy : env.kindOf y = some .free) (hc : env.cells.lookup y = some c) (hn : s.heap.Ns env.locals m) (hm : m x = some (.int i t)) (hcell : s.heap.IsCell c (some (.ref a))) (hl : s.heap.IsList a its)
    (h0 : 0 ≤ i) (hfit : i < 2 ^ 63) (hi : its[i.toNat]? = some (.int z u)) (dx : (x == ("__debug__" : Str)) = false) (dy : (y == ("__debug__" : Str)) = false) (cy : (y == ("__classdict__" : Str)) = false) :
    wpAny (model prog w) A (eval (kBody y x k p1 p2 p3 p4 p5 p6) env) (PySem.W.KeyPure (.tuple [.int (-z), .int i]) s) E s := by
  refine wpAny_Tuple_spliced ?_
  refine spliced_more ?_
  refine wpAny_UnaryOp ?_
  refine Subscript_ ?_
  refine wpAny_Name (wpAny_loadName_free hk hy hc hcell ?_ cy) dy
  refine wpAny_Name (wpAny_loadName_local hk hx hn hm ?_) dx
  refine item_listR hl h0 hfit hi ?_
  refine neg_int ?_
  refine spliced_more ?_
  refine wpAny_Name (wpAny_loadName_local (m := m) hk hx hn hm ?_) dx
  refine spliced_none ?_
  refine ⟨show 2 ≤ sizeLine by rw [sizeLine_eq]; decide, _, _, rfl, fun b o q => Heap.get?_push_of_some _ q, ?_⟩
  exact .tuple (Heap.get?_push_size _ rfl) rfl rfl (.cons (.int _ _) (.cons (.int _ _) .nil))
theorem lookup_one {x : Str} {v : Value} : ([(x, v)] : List (Str × Value)).reverse.lookup x = some v := by
  simp
theorem turn_ok {s : Shared} {y x : Str} {k : Nat} {p1 p2 p3 p4 p5 p6 : Pos} {qual : Str} {params : Arguments} {scope : Scope} {cl : List (Str × Addr)} {pm ctv : Value} {f c' c a : Addr} {its : Array Value} {i z : Int} {t u : Tok} {E : Value → Shared → Prop}
    (hf : s.heap.get? f = some (PySem.W.kla_obj "<lambda>" qual params (kBody y x k p1 p2 p3 p4 p5 p6) scope cl pm c' ctv)) (hcd : s.heap.CodeRec (.ref c') qual) (lim : s.heap.NoLimit) (hroom : A.depth < recursionLimit)
    (hbind : bindArgs (PySem.W.kla_fn "<lambda>" qual params (kBody y x k p1 p2 p3 p4 p5 p6) scope cl pm (.ref c') ctv) ⟨[.int i t], []⟩ = pure [(x, .int i t)])
    (hk : scope.kind = .function) (hco : scope.isCoroutine = false) (hgen : scope.isGenerator = false) (hcel : ∀ y ∈ scope.names, y.2 ≠ .cell) (hx : scope.names.lookup x = some .local) (hy : scope.names.lookup y = some .free) (hc : cl.lookup y = some c)
    (hcell : s.heap.IsCell c (some (.ref a))) (hl : s.heap.IsList a its) (h0 : 0 ≤ i) (hfit : i < 2 ^ 63) (hi : its[i.toNat]? = some (.int z u)) (dx : (x == ("__debug__" : Str)) = false) (dy : (y == ("__debug__" : Str)) = false) (cy : (y == ("__classdict__" : Str)) = false) :
    wpAny (model prog w) A (call (.ref f) [.int i t]) (PySem.W.KeyPure (.tuple [.int (-z), .int i]) s) E s := by
  refine wpAny_call ?_
  refine PySem.W.kla_callFunE hroom hf rfl hco hgen rfl hcd ?_
  rw [hbind]
  refine wpAny_pure (wpAny_newFunctionEnv hcel (fun y hy => by rw [List.mem_singleton] at hy; rw [hy]; exact hx) (fun h₁ hns hsb => ⟨lim.fresh _ hsb, ?_⟩) hk)
  have kp : ∀ b o, s.heap.get? b = some o → h₁.get? b = some o := fun b o e => hsb.extBut b o (Nat.ne_of_lt (Heap.lt_size e)) (Heap.get?_push_of_some _ e)
  refine PySem.W.kla_codeExpr ?_
  refine wpAny_mono (body_ok (a := a) (m := fun y => ([(x, Value.int i t)] : List (Str × Value)).reverse.lookup y) hk hx hy hc hns lookup_one ?_ ?_ h0 hfit hi dx dy cy) (fun v s' hq => ?_) fun e s' hq => hq
  · obtain ⟨o, ho, hd⟩ := hcell
    exact ⟨o, kp _ _ ho, hd⟩
  · obtain ⟨o, ho, hd⟩ := hl
    exact ⟨o, kp _ _ ho, hd⟩
  · obtain ⟨h', tk, rfl, k2, r⟩ := hq
    exact ⟨h', tk, rfl, fun b o e => k2 b o (kp b o e), r⟩
open VE (kOf leK insK sortK)
theorem leK_iff {ns : List Int} {p q : Int} : leK ns p q = true ↔ kOf ns p < kOf ns q ∨ (kOf ns p = kOf ns q ∧ p ≤ q) := decide_eq_true_iff
theorem leK_tr {ns : List Int} (a b c : Int) (h1 : leK ns a b = true) (h2 : leK ns b c = true) : leK ns a c = true := by
  rw [leK_iff] at *
  omega
theorem leK_tot {ns : List Int} (a b : Int) : (leK ns a b || leK ns b a) = true := by
  rw [Bool.or_eq_true, leK_iff, leK_iff]
  omega
theorem leK_anti {ns : List Int} {a b : Int} (h1 : leK ns a b = true) (h2 : leK ns b a = true) : a = b := by
  rw [leK_iff] at *
  omega
theorem insK_perm (ns : List Int) (x : Int) : ∀ l, (insK ns x l).Perm (x :: l)
  | [] => List.Perm.refl _
  | y :: ys => by
    unfold insK
    split
    · exact List.Perm.refl _
    · exact ((insK_perm ns x ys).cons y).trans (List.Perm.swap x y ys)
theorem sortK_perm (ns : List Int) : ∀ l, (sortK ns l).Perm l
  | [] => List.Perm.refl _
  | x :: xs => (insK_perm ns x _).trans ((sortK_perm ns xs).cons x)
theorem insK_ord (ns : List Int) (x : Int) : ∀ l : List Int, l.Pairwise (fun a b => leK ns a b = true) → (insK ns x l).Pairwise (fun a b => leK ns a b = true)
  | [], _ => by
    unfold insK
    exact List.pairwise_singleton _ _
  | y :: ys, h => by
    rw [List.pairwise_cons] at h
    unfold insK
    split
    · rename_i c
      refine List.pairwise_cons.mpr ⟨fun z hz => ?_, List.pairwise_cons.mpr h⟩
      rcases List.mem_cons.mp hz with rfl | hz
      · exact c
      · exact leK_tr _ _ _ c (h.1 z hz)
    · rename_i c
      refine List.pairwise_cons.mpr ⟨fun z hz => ?_, insK_ord ns x ys h.2⟩
      rcases List.mem_cons.mp ((insK_perm ns x ys).mem_iff.mp hz) with rfl | hz
      · have := leK_tot (ns := ns) z y
        rw [Bool.or_eq_true] at this
        exact this.resolve_left c
      · exact h.1 z hz
theorem sortK_ord (ns : List Int) : ∀ l, (sortK ns l).Pairwise (fun a b => leK ns a b = true)
  | [] => List.Pairwise.nil
  | x :: xs => insK_ord ns x _ (sortK_ord ns xs)
theorem merge_is (ns xs : List Int) : xs.mergeSort (leK ns) = sortK ns xs := by
  refine List.Perm.eq_of_pairwise (le := fun a b => leK ns a b = true) (fun a b _ _ h1 h2 => leK_anti h1 h2) ?_ (sortK_ord ns xs) ((List.mergeSort_perm xs _).trans (sortK_perm ns xs).symm)
  exact List.pairwise_mergeSort (fun a b c => leK_tr a b c) (fun a b => leK_tot a b) xs
abbrev RI : Value → Int → Prop := fun v x => ∃ t, v = .int x t
theorem each_ints : ∀ {vs : List Value} {ns : List Int}, IntsAre vs ns → PySem.W.EachIs RI vs ns
  | _, _, .nil => .nil
  | _, _, .cons n t h => .cons ⟨t, rfl⟩ (each_ints h)
theorem ints_each : ∀ {vs : List Value} {ns : List Int}, PySem.W.EachIs RI vs ns → IntsAre vs ns
  | _, _, .nil => .nil
  | _, _, .cons ⟨t, e⟩ h => by subst e; exact .cons _ t (ints_each h)
section
variable {X : Cx} {pins : List (Addr × Obj)} {σ : L2.St} {H : Hp} {s : Shared}
theorem sorted_run {y x : Str} {k k5 : Nat} {p1 p2 p3 p4 p5 p6 : Pos} {qual : Str} {params : Arguments} {scope : Scope} {cl : List (Str × Addr)} {pm ctv : Value} {f c' c a la : Addr} {ns xs : List Int} {Q : VK} (I : Inv X pins σ H s) (hr : Room k5 X.A)
    (hf : s.heap.get? f = some (PySem.W.kla_obj "<lambda>" qual params (kBody y x k p1 p2 p3 p4 p5 p6) scope cl pm c' ctv)) (hcd : s.heap.CodeRec (.ref c') qual)
    (hbind : ∀ v : Value, bindArgs (PySem.W.kla_fn "<lambda>" qual params (kBody y x k p1 p2 p3 p4 p5 p6) scope cl pm (.ref c') ctv) ⟨[v], []⟩ = pure [(x, v)])
    (hk : scope.kind = .function) (hco : scope.isCoroutine = false) (hgen : scope.isGenerator = false) (hcel : ∀ y ∈ scope.names, y.2 ≠ .cell) (hx : scope.names.lookup x = some .local) (hy : scope.names.lookup y = some .free) (hc : cl.lookup y = some c)
    (hcell : s.heap.IsCell c (some (.ref a))) (ha : SqL X.K H a (ns.map V.int)) (hl : SqL X.K H la (xs.map V.int)) (hi : ∀ i ∈ xs, 0 ≤ i ∧ i < ns.length) (dx : (x == ("__debug__" : Str)) = false) (dy : (y == ("__debug__" : Str)) = false) (cy : (y == ("__classdict__" : Str)) = false)
    (q : ∀ p, H p = none → Q (.ref p) (upd H p (.lst ((sortK ns xs).map V.int)))) : wpAny (model X.prog X.w) X.A (call (.builtin "sorted") [.ref la] [(Str.ofString "key", .ref f)]) (EP X pins σ Q) X.xe s := by
  obtain ⟨its, rv, hpl, hz⟩ := I.list hl
  obtain ⟨jts, rw, hpl2, hz2⟩ := I.list ha
  have ei := rv.ints
  have ej := rw.ints
  have hlx : xs.length ≤ sizeLine := by rw [List.length_map] at hz; exact hz
  have hln : ns.length ≤ sizeLine := by rw [List.length_map] at hz2; exact hz2
  have un := hr.un
  have dp := hr.dp
  refine PySem.W.sorted_key_data (b := false) (R := RI) (bs := xs) (fun i : Int => .tuple [.int (kOf ns i), .int i]) hpl.isList (each_ints ei) (PySem.W.AllAlike.of fun _ _ => by simp [PySem.W.alike, PySem.W.alikeAll]) (PySem.W.Sortable.tuples fun _ => ⟨_, _, rfl⟩) hlx (fun i _ => ?_) (ksk_s1 _ _) (fun _ => ksk_l1 _ _) (fun _ => ksk_t1 _ _)
    (fun v i hv him h tk kp => ?_) fun out cc h' tk kp fr hD len eo => ?_
  · have hd : (PyData.tuple [.int (kOf ns i), .int i]).depth = 1 := by simp [PyData.depth, PyData.depthAll]
    omega
  · obtain ⟨t, rfl⟩ := hv
    obtain ⟨i0, i1⟩ := hi i him
    obtain ⟨u, hu⟩ := ej.get i.toNat (ns.getD i.toNat 0) (by
      rw [List.getD_eq_getElem?_getD, List.getElem?_eq_getElem (by omega)]
      rfl)
    refine turn_ok (y := y) (x := x) (c := c) (a := a) (its := jts.toArray) (z := ns.getD i.toNat 0) (u := u) (kp _ _ hf) ?_ ?_ ?_ (hbind _) hk hco hgen hcel hx hy hc ?_ ?_ i0 ?_ ?_ dx dy cy
    · obtain ⟨c0, oc, vs, t0, e, ho, hd, hv⟩ := hcd
      exact ⟨c0, oc, vs, t0, e, kp _ _ ho, hd, hv⟩
    · exact I.ok.mod.nolimit.keeps fun b o e => kp b o (I.bk b o e)
    · show X.A.depth < recursionLimit
      omega
    · obtain ⟨o, ho, hd⟩ := hcell
      exact ⟨o, kp _ _ ho, hd⟩
    · obtain ⟨o, ho, hd⟩ := hpl2.isList
      exact ⟨o, kp _ _ ho, hd⟩
    · rw [sizeLine_eq] at hln
      omega
    · simpa using hu
  · rw [PySem.W.dataLe_ii (β := Int) (kOf ns) fun i => i] at eo
    have eo : PySem.W.EachIs RI out (xs.mergeSort (leK ns)) := eo
    rw [merge_is] at eo
    have es := ints_each eo
    have hlen : ((sortK ns xs).map V.int).length ≤ sizeLine := by
      rw [List.length_map, (sortK_perm ns xs).length_eq]
      exact hlx
    exact ⟨.ref _, upd H (s.heap.objs.size + 1) (.lst ((sortK ns xs).map V.int)), I.laid (t' := tk) kp (Nat.le_succ _) ⟨hlen, _, _, vals_of_ints es, hD⟩, rfl, q _ (I.hok.fresh (Nat.le_succ _))⟩
end
/-- sorted(e, key=lambda x: (-y[x], x)): y a captured local -/
def tSK (K : PySem.W.Frag) (T : List (Addr × Str)) (j : Nat) (te : TE) : TE := fun σ H Q => te σ H fun l H1 => ∃ (a la : Addr) (ns xs : List Int), l = .ref la ∧ σ[j]? = some (some (.ref a)) ∧ SqL K H1 a (ns.map V.int) ∧ SqL K H1 la (xs.map V.int) ∧ (∀ i ∈ xs, 0 ≤ i ∧ i < ns.length) ∧ LamX.Tabs T H1 ∧
  ∀ H2, LamX.ExtN H1 H2 → LamX.Tabs T H2 → ∀ p, H2 p = none → Q (.ref p) (upd H2 p (.lst ((sortK ns xs).map V.int)))
theorem sq_ext {K : PySem.W.Frag} {H H1 : Hp} {a : Addr} {vs : List V} (e : LamX.ExtN H H1) (h : SqL K H a vs) : SqL K H1 a vs := by
  rcases h with (r | ⟨o, r⟩) | q
  · exact .inl (.inl (e _ _ r fun ps z => by cases z))
  · exact .inl (.inr ⟨o, e _ _ r fun ps z => by cases z⟩)
  · exact .inr q
theorem pe_sortKey {X : Cx} {T : List (Addr × Str)} {c P : Addr} {e : Expr} {te : TE} {x y : Str} {j k k5 : Nat} {p p1 p2 p3 p4 p5 p6 lp kp pos : Pos} {params : Arguments} {scope : Scope} (hg : Gl X "sorted") (hm : X.mg "sorted" = none) (he : PE X e te)
    (hst : starEach [e] X.env = (false, eval e X.env) :: starEach [] X.env) (TB : LamX.TabB X.base X.mg c P) (hcode : X.env.code = .ref c) (hmT : (P, X.env.qual ++ "<lambda>") ∈ T) (hu : ∀ p ∈ T, p.1 = P → p.2 = X.env.qual ++ "<lambda>") (hr : Room k5 X.A)
    (hdef : defaultsOf params X.env = ([], [])) (hbind : ∀ (q : Str) (cl : List (Str × Addr)) (pm cv ctv : Value) (v : Value), bindArgs (PySem.W.kla_fn "<lambda>" q params (kBody y x k p1 p2 p3 p4 p5 p6) scope cl pm cv ctv) ⟨[v], []⟩ = pure [(x, v)])
    (hk : scope.kind = .function) (hco : scope.isCoroutine = false) (hgen : scope.isGenerator = false) (hcel : ∀ y ∈ scope.names, y.2 ≠ .cell) (hfr : ∀ z ∈ scope.names, z.2 = .free → X.env.scope.names.lookup z.1 = some .cell)
    (hx : scope.names.lookup x = some .local) (hy : scope.names.lookup y = some .free) (hN : X.N[j]? = some y) (dx : (x == ("__debug__" : Str)) = false) (dy : (y == ("__debug__" : Str)) = false) (cy : (y == ("__classdict__" : Str)) = false) :
    PE X (.Call (.Name "sorted" p) [e] [⟨some "key", .Lambda params (kBody y x k p1 p2 p3 p4 p5 p6) scope lp, kp⟩] pos) (tSK X.K T j te) := by
  refine ⟨fun pins s σ H Q I h => ?_⟩
  refine wpAny_Call_Name_kw (ld_blt I hg hm (by decide +kernel : bootBuiltins "sorted" = some (.builtin "sorted")) ?_ (by decide) (by decide))
  have hs2 : ∀ pos, backTo pos (starEach [e] X.env) = (false, eval e X.env) :: backTo pos (starEach [] X.env) := fun pos => by rw [hst]; rfl
  refine PyProof.Rows.callWith_kw ?_ (hs2 pos) (by rw [hs2]; rfl) (by rfl) (by rfl)
  rw [hs2]
  refine Calls.spliced_cons (thn (he.run pins s σ H _ I h) fun u s1 ⟨l, H1, I1, r1, a, la, ns, xs, el, ej, sa, sl, hi, hT, q⟩ => ?_)
  refine Calls.spliced_nil ?_
  subst el
  obtain rfl : u = Value.ref la := r1
  show wpAny _ _ (evalAll ((do let v ← eval (.Lambda params (kBody y x k p1 p2 p3 p4 p5 p6) scope lp) X.env; standAt pos; pure v) :: (backToKw pos (keywordEach [] X.env)).map (·.2))) _ _ s1
  have hfree : ∀ z ∈ scope.names, z.2 = .free → ∃ c, X.env.cells.lookup z.1 = some c := fun z hz hz2 => I1.ok.has _ (.inl (hfr z hz hz2))
  refine wpAny_evalAll_cons (wpAny_bind (LamX.lam_make2 I1 TB hcode hmT hu hT hdef hfree fun f c' pm' ctv H2 s2 I2 eN T2 hf hfn hfrs hcoO => wpAny_bind (wpAny_standAt (wpAny_pure ?_))))
  refine wpAny_evalAll_nil ?_
  -- the captured cell
  obtain ⟨m, hn, hlk⟩ := I2.loc
  have hyc : X.env.scope.names.lookup y = some .cell := hfr (y, .free) (PySem.mem_of_lookup hy) rfl
  obtain ⟨w', rw', look⟩ := hlk j y _ hN ej (.inr (.inl hyc))
  obtain rfl : w' = Value.ref a := rw'
  have hcl : ∃ c2, (cloFrom X.env.cells scope.names []).lookup y = some c2 ∧ s2.heap.IsCell c2 (some (.ref a)) := by
    have hy2 : (y, NameKind.free) ∈ scope.names := PySem.mem_of_lookup hy
    obtain ⟨c1, h1⟩ := mem_lookup (cloFrom_has (cells := X.env.cells) (acc := []) hy2)
    refine ⟨c1, h1, ?_⟩
    have c3 : X.env.cells.lookup y = some c1 := by
      rcases cloFrom_mem (PySem.mem_of_lookup h1) with hm | ⟨h3, h4⟩
      · cases hm
      · obtain ⟨c4, h5⟩ := hfree _ h3 rfl
        have h5 : X.env.cells.lookup y = some c4 := h5
        rw [h4, h5]
        rfl
    rcases look with ⟨k', _⟩ | ⟨_, c4, e', z⟩
    · have k' : X.env.scope.names.lookup y = some .local := k'
      rw [hyc] at k'
      cases k'
    · rw [c3] at e'
      cases e'
      exact z
  obtain ⟨c2, hc2, hcell⟩ := hcl
  obtain ⟨⟨oc, vs, t, hoc, hdc, hvc⟩, _, _⟩ := I2.hok c' _ hcoO
  exact sorted_run I2 hr hf ⟨c', oc, vs, t, rfl, hoc, hdc, hvc⟩ (hbind _ _ _ _ _) hk hco hgen hcel hx hy hc2 hcell (sq_ext eN sa) (sq_ext eN sl) hi dx dy cy (q H2 eN T2)
end SK

end
section
set_option maxHeartbeats 2000000
/-! VSL: sorted(e, key=lambda x: (-y[x], x)). -/
namespace VE
open PySem PySem.Spec PyProof.Rows L2
variable [TC]
section
variable {T : Nat → Option Def} {k : Nat} {c : Ctx} {X : Cx}
def onePar (x : Str) : Arguments → Bool
  | ⟨[], [⟨y, none, _⟩], none, [], [], none, []⟩ => decide (y = x) && decide (x = "place")
  | _ => false
theorem l_sortK (C : CO T k c X) (hlam : c.lam = true) {j : Nat} {ex : Ex} {e : Expr} {x y : Str} {kk : Nat} {p p1 p2 p3 p4 p5 p6 lp kp pos : Pos} {params : Arguments} {scope : Scope} (hb : bin c "sorted" = true) (hn : noStar e = true) (h : VEx T k X ex e)
    (hpar : onePar x params = true) (hk : scope.kind = .function) (hco : scope.isCoroutine = false) (hgen : scope.isGenerator = false) (hcel : ∀ y ∈ scope.names, y.2 ≠ .cell) (hfr : ∀ z ∈ scope.names, z.2 = .free → c.sc.names.lookup z.1 = some .cell)
    (hx : scope.names.lookup x = some .local) (hy : scope.names.lookup y = some .free) (hN : c.N[j]? = some y) (dx : (x == ("__debug__" : Str)) = false) (dy : (y == ("__debug__" : Str)) = false) (cy : (y == ("__classdict__" : Str)) = false) :
    VEx T k X (.sortK j ex) (.Call (.Name "sorted" p) [e] [⟨some "key", .Lambda params (SK.kBody y x kk p1 p2 p3 p4 p5 p6) scope lp, kp⟩] pos) := by
  obtain ⟨te, pe, s⟩ := h
  obtain ⟨g1, g2, _⟩ := C.bin hb
  obtain ⟨hroom, cA, P, tb, hcode, hm, hu⟩ := C.lam hlam
  have hdef : defaultsOf params X.env = ([], []) ∧ ∀ (q : Str) (cl : List (Str × Addr)) (pm cv ctv : Value) (v : Value), bindArgs (PySem.W.kla_fn "<lambda>" q params (SK.kBody y x kk p1 p2 p3 p4 p5 p6) scope cl pm cv ctv) ⟨[v], []⟩ = pure [(x, v)] := by
    unfold onePar at hpar
    split at hpar
    · rw [Bool.and_eq_true] at hpar
      have h1 := of_decide_eq_true hpar.1
      have h2 := of_decide_eq_true hpar.2
      subst h1 h2
      exact ⟨rfl, fun q cl pm cv ctv v => rfl⟩
    · cases hpar
  have q := SK.pe_sortKey (X := X) (T := TC.T) (j := j) (p := p) (lp := lp) (kp := kp) (pos := pos) g1 g2 pe (starEach_cons hn) tb hcode hm hu hroom hdef.1 hdef.2 hk hco hgen hcel (fun z hz e => (C.cel _ (hfr z hz e)).1) hx hy (by rw [C.N]; exact hN) dx dy cy
  refine ⟨_, q, fun Γ σ H f Q en G p => ?_⟩
  refine s Γ σ H f _ en G ?_
  have p : PV H f σ Q (kSortK j (evE (run T k) ex Γ)) := p
  unfold kSortK at p
  obtain ⟨d, Γ1, e1, p⟩ := p.bind
  rw [e1]
  intro v H1 g1' f1 r1 en1 G1 S1
  split at p
  · rename_i _ _ xs o ns ej
    split at p
    · rename_i _ _ xs' ns' hxs hns
      split at p
      · rename_i hall
        obtain ⟨v2, g0, h0, ev, r0, e6, _⟩ := en1.put (gt_some ej)
        obtain ⟨la, el, sl⟩ := (show Obs H1 (g1'.add f1) _ _ from ⟨g1', r1, Fp.le_addL _ _⟩).ints (K := X.K) hxs
        obtain ⟨a, ea, sa⟩ := (show Obs H1 (g1'.add f1) _ _ from ⟨g0, r0, by rw [e6]; exact (Fp.le_addL _ _).trans (Fp.le_addR _ _)⟩).ints (K := X.K) hns
        subst el ea
        refine ⟨a, la, ns', xs', rfl, ev, sa, sl, fun i hi => ?_, en1.tabs, fun H2 eN T2 b hb2 => ?_⟩
        · have := List.all_eq_true.mp hall i hi
          simpa using this
        · have S12 : Step H1 (g1'.add f1) H2 (g1'.add f1) := ⟨fun b u hu _ nt => eN b u hu nt, fun _ => T2, fun _ z => .inl z, fun _ z => .inl (by omega), fun _ z => .inl (by omega)⟩
          have en2 : REnv H2 Γ1 σ f1 := en1.mono (fun b u hu hp => eN b u hu (by
            obtain ⟨u2, h2, nt⟩ := en1.dom b hp
            rw [hu] at h2
            cases h2
            exact nt)) fun _ => T2
          have dm : ∀ b, 0 < g1'.at b → Dm H2 b := fun b hp => by
            obtain ⟨u2, h2, nt⟩ := Rep.dom _ r1 b hp
            exact ⟨u2, eN b u2 h2 nt, nt⟩
          exact (p.res en2 dm G1 (S1.trans S12)).lst (RepL.ints _) (fun _ => ⟨rfl, rfl⟩) (fun _ z => absurd z (Nat.lt_irrefl 0)) b hb2
      · exact p.elim
    · exact p.elim
  · exact p.elim
def keyS (sc scope : Scope) (x y : Str) : Bool :=
  decide (scope.kind = .function) && !scope.isCoroutine && !scope.isGenerator && (scope.names.all fun z => !decide (z.2 = .cell) && (!decide (z.2 = .free) || decide (sc.names.lookup z.1 = some .cell))) && decide (scope.names.lookup x = some .local) && decide (scope.names.lookup y = some .free) &&
  !(x == ("__debug__" : Str)) && !(y == ("__debug__" : Str)) && !(y == ("__classdict__" : Str))
theorem l_sortK2 (C : CO T k c X) (hlam : c.lam = true) {j : Nat} {ex : Ex} {e : Expr} {x y : Str} {kk : Nat} {p p1 p2 p3 p4 p5 p6 lp kp pos : Pos} {params : Arguments} {scope : Scope} (hb : bin c "sorted" = true) (hn : noStar e = true) (h : VEx T k X ex e)
    (hpar : onePar x params = true) (hs : keyS c.sc scope x y = true) (hN : c.N[j]? = some y) :
    VEx T k X (.sortK j ex) (.Call (.Name "sorted" p) [e] [⟨some "key", .Lambda params (.Tuple [.UnaryOp .USub (.Subscript (.Name y p1) (.Name x p2) p3) p4, .Name x p5] kk p6) scope lp, kp⟩] pos) := by
  unfold keyS at hs
  simp only [Bool.and_eq_true, Bool.not_eq_true', decide_eq_true_eq, List.all_eq_true, Bool.or_eq_true, decide_eq_false_iff_not] at hs
  obtain ⟨⟨⟨⟨⟨⟨⟨⟨h1, h2⟩, h3⟩, h4⟩, h5⟩, h6⟩, h7⟩, h8⟩, h9⟩ := hs
  exact l_sortK C hlam hb hn h hpar h1 h2 h3 (fun z hz => (h4 z hz).1) (fun z hz e => ((h4 z hz).2).resolve_left fun q => q e) h5 h6 hN h7 h8 h9
end
end VE

end
section
set_option maxHeartbeats 2000000
/-! VEo: the look at a text, and that it is enough. -/
namespace VE
open PySem PySem.Spec PyProof.Rows L2
variable [TC]
section
variable {T : Nat → Option Def} {k : Nat} {c : Ctx} {X : Cx} {W : WX}
def ownP (N : List Str) (own : List Nat) : List (Str × Nat) := own.map fun i => ((N[i]?).getD ("" : Str), i)
theorem own_map {N : List Str} (own : List Nat) : (ownP N own).map (·.2) = own := by
  unfold ownP
  rw [List.map_map]
  exact List.map_id _
def notSet : Expr → Bool
  | .Set _ _ _ => false
  | _ => true
theorem fold_set {e : Expr} {env : Env} (h : notSet e = true) : ∀ x, foldedSetIterable e env x = pure x := by
  intro x
  cases e <;> first | rfl | (simp [notSet] at h)
structure LcOk (T : Nat → Option Def) (k : Nat) (c : Ctx) (X : Cx) (own : List Nat) (tg : Tg) (it : It) (t : Tx) (ex : Ex) (elt tge ie : Expr) (ifs : List Expr) (scope : Scope) : Prop where
  ok : BlkOk X.N X.env.scope scope (ownP c.N own)
  gg : chkG { c with sc := scope } tg tge = true
  sub : ∀ i, i ∈ tgS tg → i ∈ own
  it : VIx T k X it tge ie
  ifs : VIfs T k X scope t ifs
  el : ∀ b : Blk, VEx T k (Cx.bl X scope b) ex elt
  ns : notSet ie = true
theorem l_lc (C : CO T k c X) {own : List Nat} {tg : Tg} {it : It} {t : Tx} {ex : Ex} {elt tge ie : Expr} {ifs : List Expr} {scope : Scope} {pos : Pos} (L : LcOk T k c X own tg it t ex elt tge ie ifs scope) :
    VEx T k X (.lc own tg it t ex) (.ListComp elt [⟨tge, ie, ifs, 0⟩] scope pos) := by
  obtain ⟨wi, pi, si⟩ := L.it
  obtain ⟨tt, pt, st⟩ := L.ifs
  obtain ⟨te, pe, se⟩ := VEx.all L.el
  have nd : X.N.Nodup := by rw [C.N]; exact C.nd
  have h := pe_lc (pos := pos) C.calm nd pi L.ok (g := gTg X.K tg) (fun s H A cl fp => (C.blk L.ok s H A cl fp).tg L.gg) (fun s H A cl fp => pt ⟨s, H, A, cl, fp⟩) (fun s H A cl fp => pe ⟨s, H, A, cl, fp⟩) (fold_set L.ns)
  rw [own_map] at h
  exact ⟨_, h, fun Γ σ H f Q en G p => lc_ok (K := X.K) si st se L.sub Γ σ H f Q en G p⟩
theorem l_lcT (C : CO T k c X) {own : List Nat} {tg : Tg} {src : Ex} {t : Tx} {ex : Ex} {elt tge ie : Expr} {ifs : List Expr} {scope : Scope} {pos : Pos} (ok : BlkOk X.N X.env.scope scope (ownP c.N own)) (gg : chkG { c with sc := scope } tg tge = true) (sub : ∀ i, i ∈ tgS tg → i ∈ own)
    (hs : VEx T k X src ie) (hi : VIfs T k X scope t ifs) (el : ∀ b : Blk, VEx T k (Cx.bl X scope b) ex elt) (ns : notSet ie = true) : VEx T k X (.lcT own tg src t ex) (.ListComp elt [⟨tge, ie, ifs, 0⟩] scope pos) := by
  obtain ⟨t0, p0, s0⟩ := hs
  obtain ⟨tt, pt, st⟩ := hi
  obtain ⟨te, pe, se⟩ := VEx.all el
  have nd : X.N.Nodup := by rw [C.N]; exact C.nd
  have h := pe_lc (pos := pos) C.calm nd (pi_seq p0) ok (g := gTg X.K tg) (fun s H A cl fp => (C.blk ok s H A cl fp).tg gg) (fun s H A cl fp => pt ⟨s, H, A, cl, fp⟩) (fun s H A cl fp => pe ⟨s, H, A, cl, fp⟩) (fold_set ns)
  rw [own_map] at h
  exact ⟨_, h, fun Γ σ H f Q en G p => lcT_ok (K := X.K) s0 st se sub Γ σ H f Q en G (by rw [evE_lcT] at p; exact p)⟩
structure LcBOk (T : Nat → Option Def) (k : Nat) (c : Ctx) (X : Cx) (own : List Nat) (x j : Nat) (t : Tx) (ex : Ex) (elt tge : Expr) (y : Str) (ifs : List Expr) (scope : Scope) : Prop where
  ok : BlkOk X.N X.env.scope scope (ownP c.N own)
  gg : chkG { c with sc := scope } (.nm x) tge = true
  hx : x ∈ own
  hj : j ∉ own
  hv : vis c j y = true
  ifs : VIfs T k X scope t ifs
  el : ∀ b : Blk, VEx T k (Cx.bl X scope b) ex elt
theorem l_lcB (C : CO T k c X) {own : List Nat} {x j : Nat} {t : Tx} {ex : Ex} {elt tge : Expr} {y : Str} {py : Pos} {ifs : List Expr} {scope : Scope} {pos : Pos} (L : LcBOk T k c X own x j t ex elt tge y ifs scope) : VEx T k X (.lcB own x j t ex) (.ListComp elt [⟨tge, .Name y py, ifs, 0⟩] scope pos) := by
  obtain ⟨tt, pt, st⟩ := L.ifs
  obtain ⟨te, pe, se⟩ := VEx.all L.el
  have nd : X.N.Nodup := by rw [C.N]; exact C.nd
  have h := pe_lc (pos := pos) C.calm nd (pi_seq (tg := tge) (C.pv (pos := py) L.hv)) L.ok (g := gTg X.K (.nm x)) (fun s H A cl fp => (C.blk L.ok s H A cl fp).tg L.gg) (fun s H A cl fp => pt ⟨s, H, A, cl, fp⟩) (fun s H A cl fp => pe ⟨s, H, A, cl, fp⟩) (fold_set rfl)
  rw [own_map] at h
  exact ⟨_, h, fun Γ σ H f Q en G p => lcB_ok (K := X.K) st se L.hx L.hj Γ σ H f Q en G p⟩
theorem s_setLcB (C : CO T k c X) {i : Nat} {z : Str} {pz spos : Pos} {own : List Nat} {x j : Nat} {t : Tx} {ex : Ex} {elt tge : Expr} {y : Str} {py : Pos} {ifs : List Expr} {scope : Scope} {pos : Pos} (hy : c.N[i]? = some z) (hl : c.sc.names.lookup z = some .local) (hp : (pz.line == pos.line) = true)
    (ha : (scope.names.any fun (n, k) => n == z && (k == .local || k == .cell)) = false) (L : LcBOk T k c X own x j t ex elt tge y ifs scope) :
    VS T k X W (.asg (.nm i) (.lcB own x j t ex)) (.Assign [.Name z pz] (.ListComp elt [⟨tge, .Name y py, ifs, 0⟩] scope pos) spos) := by
  obtain ⟨tt, pt, st⟩ := L.ifs
  obtain ⟨te, pe, se⟩ := VEx.all L.el
  have nd : X.N.Nodup := by rw [C.N]; exact C.nd
  have h := ps_setLc (i := i) (y := z) (py := pz) (pos := pos) (spos := spos) C.calm nd (by rw [C.N]; exact hy) (C.loc z hl) (sw_true C.kind (C.loc z hl) hp ha) (pi_seq (tg := tge) (C.pv (pos := py) L.hv)) L.ok (g := gTg X.K (.nm x)) (fun s H A cl fp => (C.blk L.ok s H A cl fp).tg L.gg) (fun s H A cl fp => pt ⟨s, H, A, cl, fp⟩) (fun s H A cl fp => pe ⟨s, H, A, cl, fp⟩) (fold_set rfl)
  rw [own_map] at h
  refine ⟨_, h, fun Γ σ H f D en G p => lcB_ok (K := X.K) st se L.hx L.hj Γ σ H f _ en G ?_⟩
  obtain ⟨d, Γ1, e1, p⟩ := PSt.bind (r := evE (run T k) (.lcB own x j t ex) Γ) p
  have e1' : kLcB own x j (evT (run T k) t) (evE (run T k) ex) Γ = .ok d Γ1 := e1
  rw [e1']
  intro v H1 g1 f1 r1 en1 G1 S1
  have p : PSt X.mg W H f σ [i] D (.nx (Γ1.set i (some d))) := p
  obtain ⟨f2, q, l⟩ := en1.put1 (i := i) r1
  exact p _ H1 f2 q (G1.le l) (S1.less l) ⟨List.length_set .., fun j hj => by rw [List.getElem?_set_ne]; rintro rfl; exact hj (List.mem_singleton_self _)⟩
theorem s_setLc (C : CO T k c X) {i : Nat} {y : Str} {py spos : Pos} {own : List Nat} {tg : Tg} {it : It} {t : Tx} {ex : Ex} {elt tge ie : Expr} {ifs : List Expr} {scope : Scope} {pos : Pos} (hy : c.N[i]? = some y) (hl : c.sc.names.lookup y = some .local) (hp : (py.line == pos.line) = true)
    (ha : (scope.names.any fun (n, k) => n == y && (k == .local || k == .cell)) = false) (L : LcOk T k c X own tg it t ex elt tge ie ifs scope) :
    VS T k X W (.asg (.nm i) (.lc own tg it t ex)) (.Assign [.Name y py] (.ListComp elt [⟨tge, ie, ifs, 0⟩] scope pos) spos) := by
  obtain ⟨wi, pi, si⟩ := L.it
  obtain ⟨tt, pt, st⟩ := L.ifs
  obtain ⟨te, pe, se⟩ := VEx.all L.el
  have nd : X.N.Nodup := by rw [C.N]; exact C.nd
  have h := ps_setLc (i := i) (y := y) (py := py) (pos := pos) (spos := spos) C.calm nd (by rw [C.N]; exact hy) (C.loc y hl) (sw_true C.kind (C.loc y hl) hp ha) pi L.ok (g := gTg X.K tg) (fun s H A cl fp => (C.blk L.ok s H A cl fp).tg L.gg) (fun s H A cl fp => pt ⟨s, H, A, cl, fp⟩) (fun s H A cl fp => pe ⟨s, H, A, cl, fp⟩) (fold_set L.ns)
  rw [own_map] at h
  refine ⟨_, h, fun Γ σ H f D en G p => lc_ok (K := X.K) si st se L.sub Γ σ H f _ en G ?_⟩
  obtain ⟨d, Γ1, e1, p⟩ := PSt.bind (r := evE (run T k) (.lc own tg it t ex) Γ) p
  rw [e1]
  intro v H1 g1 f1 r1 en1 G1 S1
  have p : PSt X.mg W H f σ [i] D (.nx (Γ1.set i (some d))) := p
  obtain ⟨f2, q, l⟩ := en1.put1 (i := i) r1
  exact p _ H1 f2 q (G1.le l) (S1.less l) ⟨List.length_set .., fun j hj => by rw [List.getElem?_set_ne]; rintro rfl; exact hj (List.mem_singleton_self _)⟩
end

theorem isCst_of {o : Option GK} {q : Cst} (h : isCst o q = true) : o = some (.cst q) := by
  cases o with
  | none => exact absurd (show false = true from h) Bool.false_ne_true
  | some g =>
    cases g with
    | fn i => exact absurd (show false = true from h) Bool.false_ne_true
    | exc _ _ => exact absurd (show false = true from h) Bool.false_ne_true
    | bas => exact absurd (show false = true from h) Bool.false_ne_true
    | tld _ => exact absurd (show false = true from h) Bool.false_ne_true
    | cst u =>
      cases u <;> cases q <;> first
        | exact absurd (show false = true from h) Bool.false_ne_true
        | skip
      · rename_i a b
        have e : a = b := by simpa [isCst] using h
        rw [e]
      · rename_i a b
        have e : a = b := by simpa [isCst] using h
        rw [e]
def isFn : Option GK → Nat → Bool
  | some (.fn i), j => i == j
  | _, _ => false
theorem isFn_of {o : Option GK} {f : Nat} (h : isFn o f = true) : o = some (.fn f) := by
  unfold isFn at h
  split at h
  · rename_i i
    have : i = f := by simpa using h
    rw [this]
  · cases h
def isTld : Option GK → Nat → Bool
  | some (.tld i), f => decide (i = f)
  | _, _ => false
theorem isTld_of {o : Option GK} {f : Nat} (h : isTld o f = true) : o = some (.tld f) := by
  unfold isTld at h
  split at h
  · rename_i i
    have : i = f := by simpa using h
    rw [this]
  · cases h
def onLine (a b : Pos) : Bool := a.endLine == b.line

mutual
def chkE (c : Ctx) : Ex → Expr → Bool
  | .pk _, _ => false
  | .ob _, _ => false
  | .pki _ _, _ => false
  | .var i, e => match e with
    | .Name x _ => vis c i x
    | _ => false
  | .cst q, e => match e with
    | .Constant u _ _ => eqCst u q
    | _ => false
  | .glb _ q, e => match e with
    | .Name x _ => gln c x && isCst (c.gl.lookup x) q
    | _ => false
  | .tup es, e => match e with
    | .Tuple xs _ _ => decide (xs.length ≤ 1000) && chkAs c es xs
    | _ => false
  | .lst es, e => match e with
    | .List xs _ => decide (xs.length ≤ 1000) && chkAs c es xs
    | _ => false
  | .op m o es, e => match opArgs c m o e with
    | some xs => chkAs c es xs
    | none => false
  | .tst t, e => chkB c t e
  | .ite t a b, e => match e with
    | .IfExp x y z _ => chkT c t x && chkE c a y && chkE c b z
    | _ => false
  | .frz ex, e => chkE c ex e
  | .call f es, e => match e with
    | .Call (.Name x _) xs [] _ => gln c x && isFn (c.gl.lookup x) f && chkAs c es xs
    | _ => false
  | .told f g es, e => match e with
    | .Call (.Name x _) [.Lambda params (.Call (.Name y _) xs [] _) scope _] [] _ => c.lam && gln c x && isTld (c.gl.lookup x) f && gln (c.lm scope) y && isFn (c.gl.lookup y) g && !xs.isEmpty && LamX.lamSB c.sc scope && noPar params && chkAs (c.lm scope) es xs
    | _ => false
  | .idxF j i, e => match e with
    | .Subscript (.Name x _) s _ => vis c j x && noSlice s && chkE c i s
    | _ => false
  | .mv j, e => match e with
    | .Name x _ => vis c j x
    | _ => false
  | .mvI j i, e => match e with
    | .Subscript (.Name x _) s _ => vis c j x && noSlice s && chkE c i s
    | _ => false
  | .pop j, e => match e with
    | .Call (.Attribute (.Name x _) nm ap) [] [] cp => vis c j x && decide (nm = "pop") && onLine ap cp
    | _ => false
  | .popAt j i, e => match e with
    | .Call (.Attribute (.Name x _) nm ap) [s] [] cp => vis c j x && decide (nm = "pop") && onLine ap cp && noStar s && chkE c i s
    | _ => false
  | .index j i, e => match e with
    | .Call (.Attribute (.Name x _) nm ap) [s] [] cp => vis c j x && decide (nm = "index") && onLine ap cp && noStar s && chkE c i s
    | _ => false
  | .lcT own tg src t ex, e => match e with
    | .ListComp elt [⟨tge, ie, ifs, 0⟩] scope _ => blkC c.N c.sc scope (ownP c.N own) && (tgS tg).all own.contains && chkG { c with sc := scope } tg tge && notSet ie && chkE c src ie &&
      (match ifs with
        | [] => isYes t
        | [u] => chkT { c with sc := scope } t u
        | _ => false) && chkE { c with sc := scope } ex elt
    | _ => false
  | .srt ex, e => match e with
    | .Call (.Name id _) [a] [] _ => decide (id = "sorted") && bin c "sorted" && noStar a && chkE c ex a
    | _ => false
  | .sortK j ex, e => match e with
    | .Call (.Name id _) [a] [⟨some kw, .Lambda params (.Tuple [.UnaryOp .USub (.Subscript (.Name y _) (.Name x _) _) _, .Name x2 _] _ _) scope _, _⟩] _ => decide (id = "sorted") && decide (kw = "key") && decide (x2 = x) && c.lam && bin c "sorted" && noStar a && onePar x params && keyS c.sc scope x y && decide (c.N[j]? = some y) && chkE c ex a
    | _ => false
  | .lcB own x j t ex, e => match e with
    | .ListComp elt [⟨tge, .Name y _, ifs, 0⟩] scope _ => blkC c.N c.sc scope (ownP c.N own) && own.contains x && !own.contains j && chkG { c with sc := scope } (.nm x) tge && vis c j y &&
      (match ifs with
        | [] => isYes t
        | [u] => chkT { c with sc := scope } t u
        | _ => false) && chkE { c with sc := scope } ex elt
    | _ => false
  | .lc own tg it t ex, e => match e with
    | .ListComp elt [⟨tge, ie, ifs, 0⟩] scope _ => blkC c.N c.sc scope (ownP c.N own) && (tgS tg).all own.contains && chkG { c with sc := scope } tg tge && notSet ie && chkI c it ie &&
      (match ifs with
        | [] => isYes t
        | [u] => chkT { c with sc := scope } t u
        | _ => false) && chkE { c with sc := scope } ex elt
    | _ => false
def chkAs (c : Ctx) : List Ex → List Expr → Bool
  | [], xs => xs.isEmpty
  | .pk i :: es, xs => match xs with
    | .Name x _ :: xs => vis c i x && chkAs c es xs
    | _ => false
  | .ob i :: es, xs => match xs with
    | .Name x _ :: xs => vis c i x && chkAs c es xs
    | _ => false
  | .pki j i :: es, xs => match xs with
    | .Subscript (.Name x _) s _ :: xs => vis c j x && noSlice s && chkE c i s && chkAs c es xs
    | _ => false
  | e :: es, xs => match xs with
    | x :: xs => isVal e && noStar x && chkE c e x && chkAs c es xs
    | _ => false
def chkI (c : Ctx) : It → Expr → Bool
  | .seq (.pk j), e => match e with
    | .Name x _ => vis c j x
    | _ => false
  | .seq ex, e => isVal ex && chkE c ex e
  | .rng1 a, e => match e with
    | .Call (.Name r _) [x] [] _ => decide (r = "range") && bin c "range" && noStar x && chkE c a x
    | _ => false
  | .rng2 a b, e => match e with
    | .Call (.Name r _) [x, y] [] _ => decide (r = "range") && bin c "range" && noStar x && noStar y && chkE c a x && chkE c b y
    | _ => false
  | .rngD a b, e => match e with
    | .Call (.Name r _) [x, y, .UnaryOp .USub (.Constant (.int 1) _ _) _] [] _ => decide (r = "range") && bin c "range" && noStar x && noStar y && chkE c a x && chkE c b y
    | _ => false
def isYes : Tx → Bool
  | .yes => true
  | _ => false
def chkT (c : Ctx) : Tx → Expr → Bool
  | .yes, _ => false
  | .cmp p es, e => match e with
    | .Compare a [o] [b] _ => decide (opOfCmp o = some p) && !behindInMarks o b && chkAs c es [a, b]
    | _ => false
  | .chn p p' es ex, e => match e with
    | .Compare a [o, o'] [b, d] _ => decide (opOfCmp o = some p) && decide (opOfCmp o' = some p') && !lastMarks [o, o'] [b, d] && chkAs c es [a, b] && chkE c ex d
    | _ => false
  | .and ts, e => match e with
    | .BoolOp .And xs _ => !ts.isEmpty && chkTs c ts xs
    | _ => false
  | .or ts, e => match e with
    | .BoolOp .Or xs _ => !ts.isEmpty && chkTs c ts xs
    | _ => false
  | .not t, e => match e with
    | .UnaryOp .Not x _ => chkT c t x
    | _ => false
  | .tr es, e => plainT e && chkAs c es [e]
def chkTs (c : Ctx) : List Tx → List Expr → Bool
  | [], xs => xs.isEmpty
  | t :: ts, xs => match xs with
    | x :: xs => chkT c t x && chkTs c ts xs
    | _ => false
def chkB (c : Ctx) : Tx → Expr → Bool
  | .yes, _ => false
  | .cmp p es, e => match e with
    | .Compare a [o] [b] _ => decide (opOfCmp o = some p) && !behindInMarks o b && chkAs c es [a, b]
    | _ => false
  | .chn p p' es ex, e => match e with
    | .Compare a [o, o'] [b, d] _ => decide (opOfCmp o = some p) && decide (opOfCmp o' = some p') && !lastMarks [o, o'] [b, d] && chkAs c es [a, b] && chkE c ex d
    | _ => false
  | .and ts, e => match e with
    | .BoolOp .And xs _ => !ts.isEmpty && chkBs c ts xs
    | _ => false
  | .or ts, e => match e with
    | .BoolOp .Or xs _ => !ts.isEmpty && chkBs c ts xs
    | _ => false
  | .not t, e => match e with
    | .UnaryOp .Not x _ => chkB c t x
    | _ => false
  | .tr es, e => chkAs c es [e]
def chkBs (c : Ctx) : List Tx → List Expr → Bool
  | [], xs => xs.isEmpty
  | t :: ts, xs => match xs with
    | x :: xs => chkB c t x && chkBs c ts xs
    | _ => false
end
theorem chkAs_len : ∀ {c : Ctx} {es : List Ex} {xs : List Expr}, chkAs c es xs = true → xs.length = es.length
  | c, [], xs, h => by
    unfold chkAs at h
    simpa using h
  | c, e :: es, xs, h => by
    have : ∃ y ys, xs = y :: ys ∧ chkAs c es ys = true := by
      cases e <;> unfold chkAs at h <;> split at h <;> first
        | (simp only [Bool.and_eq_true] at h; exact ⟨_, _, rfl, h.2⟩)
        | (cases h; done)
    obtain ⟨y, ys, rfl, h2⟩ := this
    exact congrArg (· + 1) (chkAs_len h2)
theorem isYes_of {t : Tx} (h : isYes t = true) : t = .yes := by
  cases t <;> first | rfl | (simp [isYes] at h)
section
variable {T : Nat → Option Def} {k : Nat}
theorem chkAs_t : ∀ {es : List Ex} {c : Ctx} {X : Cx} {xs : List Expr}, CO T k c X → chkAs c es xs = true → es.all triv = true → VAt T k X es xs
  | [], c, X, xs, C, h, _ => by
    have := chkAs_len h
    have e : xs = [] := by simpa using this
    subst e
    exact t_nil
  | e :: es, c, X, xs, C, h, ht => by
    rw [List.all_cons, Bool.and_eq_true] at ht
    cases e with
    | pk i =>
      unfold chkAs at h
      split at h
      · simp only [Bool.and_eq_true] at h
        exact t_ref C _ (.inl rfl) h.1 (chkAs_t C h.2 ht.2)
      · cases h
    | pki j ei =>
      cases ei with
      | var i =>
        unfold chkAs at h
        split at h
        · simp only [Bool.and_eq_true] at h
          obtain ⟨⟨⟨h1, h2⟩, h3⟩, h4⟩ := h
          unfold chkE at h3
          split at h3
          · exact t_pki C h1 h3 (chkAs_t C h4 ht.2)
          · cases h3
        · cases h
      | _ => exact absurd ht.1 Bool.false_ne_true
    | ob i =>
      unfold chkAs at h
      split at h
      · simp only [Bool.and_eq_true] at h
        exact t_ref C _ (.inr rfl) h.1 (chkAs_t C h.2 ht.2)
      · cases h
    | cst q =>
      cases xs with
      | nil => exact absurd (show false = true from h) Bool.false_ne_true
      | cons x xs =>
        have h : (isVal (.cst q) && noStar x && chkE c (.cst q) x && chkAs c es xs) = true := h
        simp only [Bool.and_eq_true] at h
        obtain ⟨⟨⟨_, h1⟩, h2⟩, h3⟩ := h
        cases x with
        | Constant u n p =>
          have h2 : eqCst u q = true := h2
          have hp : PE X (.Constant u n p) (tC q.v) := by
            cases u <;> cases q <;> simp [eqCst] at h2
            · exact pe_non
            · subst h2; exact pe_bl
            · subst h2; exact pe_int
            · subst h2; exact pe_str
          exact t_sc (.cst q) rfl (fun _ => rfl) h1 hp (chkAs_t C h3 ht.2)
        | _ => exact absurd (show false = true from h2) Bool.false_ne_true
    | glb g q =>
      cases xs with
      | nil => exact absurd (show false = true from h) Bool.false_ne_true
      | cons x xs =>
        have h : (isVal (.glb g q) && noStar x && chkE c (.glb g q) x && chkAs c es xs) = true := h
        simp only [Bool.and_eq_true] at h
        obtain ⟨⟨⟨_, h1⟩, h2⟩, h3⟩ := h
        cases x with
        | Name y p =>
          have h2 : (gln c y && isCst (c.gl.lookup y) q) = true := h2
          rw [Bool.and_eq_true] at h2
          obtain ⟨q3, q4⟩ := gln_of h2.1
          have e : c.gl.lookup y = some (.cst q) := isCst_of h2.2
          obtain ⟨u, hm, hr⟩ := C.tab.cst y q e
          exact t_sc (.glb g q) rfl (fun _ => rfl) h1 (pe_glob (C.glo y q3) hm hr q4) (chkAs_t C h3 ht.2)
        | _ => exact absurd (show false = true from h2) Bool.false_ne_true
    | _ => exact absurd ht.1 Bool.false_ne_true
mutual
theorem chkE_ok : ∀ (ex : Ex) {c : Ctx} {X : Cx} {e : Expr}, CO T k c X → chkE c ex e = true → VEx T k X ex e
  | .pk _, c, X, e, C, h => by unfold chkE at h; cases h
  | .ob _, c, X, e, C, h => by unfold chkE at h; cases h
  | .pki _ _, c, X, e, C, h => by unfold chkE at h; cases h
  | .var i, c, X, e, C, h => by
    unfold chkE at h
    split at h
    · exact l_var C h
    · cases h
  | .cst q, c, X, e, C, h => by
    unfold chkE at h
    split at h
    · exact l_cst h
    · cases h
  | .glb g q, c, X, e, C, h => by
    unfold chkE at h
    split at h
    · rw [Bool.and_eq_true] at h
      exact l_glb C h.1 h.2
    · cases h
  | .tup es, c, X, e, C, h => by
    unfold chkE at h
    split at h
    · rw [Bool.and_eq_true] at h
      exact l_tup (of_decide_eq_true h.1) (chkAs_len h.2) (chkAs_ok es C h.2)
    · cases h
  | .lst es, c, X, e, C, h => by
    unfold chkE at h
    split at h
    · rw [Bool.and_eq_true] at h
      exact l_lst (of_decide_eq_true h.1) (chkAs_len h.2) (chkAs_ok es C h.2)
    · cases h
  | .op m o es, c, X, e, C, h => by
    unfold chkE at h
    split at h
    · rename_i xs e1
      exact l_op C e1 (chkAs_ok es C h)
    · cases h
  | .tst t, c, X, e, C, h => by
    unfold chkE at h
    exact l_tst (chkB_ok t C h)
  | .ite t a b, c, X, e, C, h => by
    unfold chkE at h
    split at h
    · simp only [Bool.and_eq_true] at h
      exact l_ite (chkT_ok t C h.1.1) (chkE_ok a C h.1.2) (chkE_ok b C h.2)
    · cases h
  | .frz ex, c, X, e, C, h => by
    unfold chkE at h
    exact l_frz (chkE_ok ex C h)
  | .told f g es, c, X, e, C, h => by
    unfold chkE at h
    split at h
    · simp only [Bool.and_eq_true, Bool.not_eq_true'] at h
      obtain ⟨⟨⟨⟨⟨⟨⟨⟨h1, h2⟩, h3⟩, h4⟩, h5⟩, h6⟩, h7⟩, h8⟩, h9⟩ := h
      exact l_told C h1 h2 (isTld_of h3) h4 (isFn_of h5) h6 h7 h8 fun X' C' => chkAs_ok es C' h9
    · cases h
  | .call f es, c, X, e, C, h => by
    unfold chkE at h
    split at h
    · simp only [Bool.and_eq_true] at h
      exact l_call C h.1.1 (isFn_of h.1.2) (chkAs_ok es C h.2)
    · cases h
  | .idxF j i, c, X, e, C, h => by
    unfold chkE at h
    split at h
    · simp only [Bool.and_eq_true] at h
      exact l_idxF C h.1.1 h.1.2 (chkE_ok i C h.2)
    · cases h
  | .mv j, c, X, e, C, h => by
    unfold chkE at h
    split at h
    · exact l_mv C h
    · cases h
  | .mvI j i, c, X, e, C, h => by
    unfold chkE at h
    split at h
    · simp only [Bool.and_eq_true] at h
      exact l_mvI C h.1.1 h.1.2 (chkE_ok i C h.2)
    · cases h
  | .pop j, c, X, e, C, h => by
    unfold chkE at h
    split at h
    · simp only [Bool.and_eq_true] at h
      obtain ⟨⟨h1, h2⟩, h3⟩ := h
      have h2 := of_decide_eq_true h2
      subst h2
      exact l_pop C h1 h3
    · cases h
  | .popAt j i, c, X, e, C, h => by
    unfold chkE at h
    split at h
    · simp only [Bool.and_eq_true] at h
      obtain ⟨⟨⟨⟨h1, h2⟩, h3⟩, h4⟩, h5⟩ := h
      have h2 := of_decide_eq_true h2
      subst h2
      exact l_popAt C h1 h3 h4 (chkE_ok i C h5)
    · cases h
  | .index j i, c, X, e, C, h => by
    unfold chkE at h
    split at h
    · simp only [Bool.and_eq_true] at h
      obtain ⟨⟨⟨⟨h1, h2⟩, h3⟩, h4⟩, h5⟩ := h
      have h2 := of_decide_eq_true h2
      subst h2
      exact l_index C h1 h3 h4 (chkE_ok i C h5)
    · cases h
  | .lcT own tg src t ex, c, X, e, C, h => by
    unfold chkE at h
    split at h
    · rename_i elt tge ie ifs scope p
      simp only [Bool.and_eq_true] at h
      obtain ⟨⟨⟨⟨⟨⟨h1, h2⟩, h3⟩, h4⟩, h5⟩, h6⟩, h7⟩ := h
      have ok := C.blkOk h1
      refine l_lcT C ok h3 (fun i hi => ?_) (chkE_ok src C h5) ?_ (fun b => chkE_ok ex (C.blk ok b.s b.H b.A b.cl b.fp) h7) h4
      · have := List.all_eq_true.mp h2 i hi
        simpa using this
      · split at h6
        · rw [isYes_of h6]
          exact ifs_nil
        · exact ifs_one fun b => chkT_ok t (C.blk ok b.s b.H b.A b.cl b.fp) h6
        · cases h6
    · cases h
  | .srt ex, c, X, e, C, h => by
    unfold chkE at h
    split at h
    · simp only [Bool.and_eq_true] at h
      obtain ⟨⟨⟨h1, h2⟩, h3⟩, h4⟩ := h
      have h1 := of_decide_eq_true h1
      subst h1
      exact l_srt C h2 h3 (chkE_ok ex C h4)
    · cases h
  | .sortK j ex, c, X, e, C, h => by
    unfold chkE at h
    split at h
    · simp only [Bool.and_eq_true] at h
      obtain ⟨⟨⟨⟨⟨⟨⟨⟨⟨h1, h2⟩, h3⟩, h4⟩, h5⟩, h6⟩, h7⟩, h8⟩, h9⟩, h10⟩ := h
      have h1 := of_decide_eq_true h1
      have h2 := of_decide_eq_true h2
      have h3 := of_decide_eq_true h3
      subst h1 h2 h3
      exact l_sortK2 C h4 h5 h6 (chkE_ok ex C h10) h7 h8 (of_decide_eq_true h9)
    · cases h
  | .lcB own x j t ex, c, X, e, C, h => by
    unfold chkE at h
    split at h
    · rename_i elt tge y py ifs scope p
      simp only [Bool.and_eq_true, Bool.not_eq_true'] at h
      obtain ⟨⟨⟨⟨⟨⟨h1, h2⟩, h3⟩, h4⟩, h5⟩, h6⟩, h7⟩ := h
      have ok := C.blkOk h1
      refine l_lcB C ⟨ok, h4, by simpa using h2, by simpa using h3, h5, ?_, fun b => chkE_ok ex (C.blk ok b.s b.H b.A b.cl b.fp) h7⟩
      · split at h6
        · rw [isYes_of h6]
          exact ifs_nil
        · exact ifs_one fun b => chkT_ok t (C.blk ok b.s b.H b.A b.cl b.fp) h6
        · cases h6
    · cases h
  | .lc own tg it t ex, c, X, e, C, h => by
    unfold chkE at h
    split at h
    · rename_i elt tge ie ifs scope p
      simp only [Bool.and_eq_true] at h
      obtain ⟨⟨⟨⟨⟨⟨h1, h2⟩, h3⟩, h4⟩, h5⟩, h6⟩, h7⟩ := h
      have ok := C.blkOk h1
      refine l_lc C ⟨ok, h3, fun i hi => ?_, chkI_ok it C h5, ?_, fun b => chkE_ok ex (C.blk ok b.s b.H b.A b.cl b.fp) h7, h4⟩
      · have := List.all_eq_true.mp h2 i hi
        simpa using this
      · split at h6
        · rw [isYes_of h6]
          exact ifs_nil
        · exact ifs_one fun b => chkT_ok t (C.blk ok b.s b.H b.A b.cl b.fp) h6
        · cases h6
    · cases h
theorem chkAs_ok : ∀ (exs : List Ex) {c : Ctx} {X : Cx} {es : List Expr}, CO T k c X → chkAs c exs es = true → VAs T k X exs es
  | [], c, X, es, C, h => by
    unfold chkAs at h
    have e : es = [] := by simpa using h
    subst e
    exact a_nil
  | .pk i :: exs, c, X, es, C, h => by
    unfold chkAs at h
    split at h
    · simp only [Bool.and_eq_true] at h
      exact a_ref C _ (.inl rfl) h.1 (chkAs_ok exs C h.2)
    · cases h
  | .ob i :: exs, c, X, es, C, h => by
    unfold chkAs at h
    split at h
    · simp only [Bool.and_eq_true] at h
      exact a_ref C _ (.inr rfl) h.1 (chkAs_ok exs C h.2)
    · cases h
  | .pki j i :: exs, c, X, es, C, h => by
    unfold chkAs at h
    split at h
    · simp only [Bool.and_eq_true] at h
      obtain ⟨⟨⟨h1, h2⟩, h3⟩, h4⟩ := h
      refine a_pki C h1 h2 (chkE_ok i C h3) ?_ (chkAs_ok exs C h4)
      by_cases ht : exs.all triv = true
      · exact .inl (chkAs_t C h4 ht)
      · exact .inr (by simpa using ht)
    · cases h
  | .var i :: exs, c, X, es, C, h => by
    unfold chkAs at h
    split at h
    · simp only [Bool.and_eq_true] at h
      exact a_val h.1.1.1 h.1.1.2 (chkE_ok (.var i) C h.1.2) (chkAs_ok exs C h.2)
    · cases h
  | .cst q :: exs, c, X, es, C, h => by
    unfold chkAs at h
    split at h
    · simp only [Bool.and_eq_true] at h
      exact a_val h.1.1.1 h.1.1.2 (chkE_ok (.cst q) C h.1.2) (chkAs_ok exs C h.2)
    · cases h
  | .glb g q :: exs, c, X, es, C, h => by
    unfold chkAs at h
    split at h
    · simp only [Bool.and_eq_true] at h
      exact a_val h.1.1.1 h.1.1.2 (chkE_ok (.glb g q) C h.1.2) (chkAs_ok exs C h.2)
    · cases h
  | .tup fs :: exs, c, X, es, C, h => by
    unfold chkAs at h
    split at h
    · simp only [Bool.and_eq_true] at h
      exact a_val h.1.1.1 h.1.1.2 (chkE_ok (.tup fs) C h.1.2) (chkAs_ok exs C h.2)
    · cases h
  | .lst fs :: exs, c, X, es, C, h => by
    unfold chkAs at h
    split at h
    · simp only [Bool.and_eq_true] at h
      exact a_val h.1.1.1 h.1.1.2 (chkE_ok (.lst fs) C h.1.2) (chkAs_ok exs C h.2)
    · cases h
  | .op m o fs :: exs, c, X, es, C, h => by
    unfold chkAs at h
    split at h
    · simp only [Bool.and_eq_true] at h
      exact a_val h.1.1.1 h.1.1.2 (chkE_ok (.op m o fs) C h.1.2) (chkAs_ok exs C h.2)
    · cases h
  | .tst t :: exs, c, X, es, C, h => by
    unfold chkAs at h
    split at h
    · simp only [Bool.and_eq_true] at h
      exact a_val h.1.1.1 h.1.1.2 (chkE_ok (.tst t) C h.1.2) (chkAs_ok exs C h.2)
    · cases h
  | .ite t a b :: exs, c, X, es, C, h => by
    unfold chkAs at h
    split at h
    · simp only [Bool.and_eq_true] at h
      exact a_val h.1.1.1 h.1.1.2 (chkE_ok (.ite t a b) C h.1.2) (chkAs_ok exs C h.2)
    · cases h
  | .frz e1 :: exs, c, X, es, C, h => by
    unfold chkAs at h
    split at h
    · simp only [Bool.and_eq_true] at h
      exact a_val h.1.1.1 h.1.1.2 (chkE_ok (.frz e1) C h.1.2) (chkAs_ok exs C h.2)
    · cases h
  | .told f g fs :: exs, c, X, es, C, h => by
    unfold chkAs at h
    split at h
    · simp only [Bool.and_eq_true] at h
      exact a_val h.1.1.1 h.1.1.2 (chkE_ok (.told f g fs) C h.1.2) (chkAs_ok exs C h.2)
    · cases h
  | .call f fs :: exs, c, X, es, C, h => by
    unfold chkAs at h
    split at h
    · simp only [Bool.and_eq_true] at h
      exact a_val h.1.1.1 h.1.1.2 (chkE_ok (.call f fs) C h.1.2) (chkAs_ok exs C h.2)
    · cases h
  | .idxF j i :: exs, c, X, es, C, h => by
    unfold chkAs at h
    split at h
    · simp only [Bool.and_eq_true] at h
      exact a_val h.1.1.1 h.1.1.2 (chkE_ok (.idxF j i) C h.1.2) (chkAs_ok exs C h.2)
    · cases h
  | .mv j :: exs, c, X, es, C, h => by
    unfold chkAs at h
    split at h
    · simp only [Bool.and_eq_true] at h
      exact a_val h.1.1.1 h.1.1.2 (chkE_ok (.mv j) C h.1.2) (chkAs_ok exs C h.2)
    · cases h
  | .mvI j i :: exs, c, X, es, C, h => by
    unfold chkAs at h
    split at h
    · simp only [Bool.and_eq_true] at h
      exact a_val h.1.1.1 h.1.1.2 (chkE_ok (.mvI j i) C h.1.2) (chkAs_ok exs C h.2)
    · cases h
  | .pop j :: exs, c, X, es, C, h => by
    unfold chkAs at h
    split at h
    · simp only [Bool.and_eq_true] at h
      exact a_val h.1.1.1 h.1.1.2 (chkE_ok (.pop j) C h.1.2) (chkAs_ok exs C h.2)
    · cases h
  | .popAt j i :: exs, c, X, es, C, h => by
    unfold chkAs at h
    split at h
    · simp only [Bool.and_eq_true] at h
      exact a_val h.1.1.1 h.1.1.2 (chkE_ok (.popAt j i) C h.1.2) (chkAs_ok exs C h.2)
    · cases h
  | .index j i :: exs, c, X, es, C, h => by
    unfold chkAs at h
    split at h
    · simp only [Bool.and_eq_true] at h
      exact a_val h.1.1.1 h.1.1.2 (chkE_ok (.index j i) C h.1.2) (chkAs_ok exs C h.2)
    · cases h
  | .lcT own tg src t ex :: exs, c, X, es, C, h => by
    unfold chkAs at h
    split at h
    · simp only [Bool.and_eq_true] at h
      exact a_val h.1.1.1 h.1.1.2 (chkE_ok (.lcT own tg src t ex) C h.1.2) (chkAs_ok exs C h.2)
    · cases h
  | .srt ex :: exs, c, X, es, C, h => by
    unfold chkAs at h
    split at h
    · simp only [Bool.and_eq_true] at h
      exact a_val h.1.1.1 h.1.1.2 (chkE_ok (.srt ex) C h.1.2) (chkAs_ok exs C h.2)
    · cases h
  | .sortK j ex :: exs, c, X, es, C, h => by
    unfold chkAs at h
    split at h
    · simp only [Bool.and_eq_true] at h
      exact a_val h.1.1.1 h.1.1.2 (chkE_ok (.sortK j ex) C h.1.2) (chkAs_ok exs C h.2)
    · cases h
  | .lcB own x j t ex :: exs, c, X, es, C, h => by
    unfold chkAs at h
    split at h
    · simp only [Bool.and_eq_true] at h
      exact a_val h.1.1.1 h.1.1.2 (chkE_ok (.lcB own x j t ex) C h.1.2) (chkAs_ok exs C h.2)
    · cases h
  | .lc own tg it t ex :: exs, c, X, es, C, h => by
    unfold chkAs at h
    split at h
    · simp only [Bool.and_eq_true] at h
      exact a_val h.1.1.1 h.1.1.2 (chkE_ok (.lc own tg it t ex) C h.1.2) (chkAs_ok exs C h.2)
    · cases h
theorem chkI_ok : ∀ (it : It) {c : Ctx} {X : Cx} {tg e : Expr}, CO T k c X → chkI c it e = true → VIx T k X it tg e
  | .seq ex, c, X, tg, e, C, h => by
    by_cases hp : ∃ j, ex = .pk j
    · obtain ⟨j, rfl⟩ := hp
      unfold chkI at h
      split at h
      · exact i_pk C h
      · cases h
    · have h : (isVal ex && chkE c ex e) = true := by
        cases ex <;> first | exact absurd ⟨_, rfl⟩ hp | exact h
      rw [Bool.and_eq_true] at h
      exact i_seq h.1 (chkE_ok ex C h.2)
  | .rng1 a, c, X, tg, e, C, h => by
    unfold chkI at h
    split at h
    · simp only [Bool.and_eq_true] at h
      obtain ⟨⟨⟨h1, h2⟩, h3⟩, h4⟩ := h
      have h1 := of_decide_eq_true h1
      subst h1
      exact i_rng1 C h2 h3 (chkE_ok a C h4)
    · cases h
  | .rng2 a b, c, X, tg, e, C, h => by
    unfold chkI at h
    split at h
    · simp only [Bool.and_eq_true] at h
      obtain ⟨⟨⟨⟨⟨h1, h2⟩, h3⟩, h4⟩, h5⟩, h6⟩ := h
      have h1 := of_decide_eq_true h1
      subst h1
      exact i_rng2 C h2 h3 h4 (chkE_ok a C h5) (chkE_ok b C h6)
    · cases h
  | .rngD a b, c, X, tg, e, C, h => by
    unfold chkI at h
    split at h
    · simp only [Bool.and_eq_true] at h
      obtain ⟨⟨⟨⟨⟨h1, h2⟩, h3⟩, h4⟩, h5⟩, h6⟩ := h
      have h1 := of_decide_eq_true h1
      subst h1
      exact i_rngD C h2 h3 h4 (chkE_ok a C h5) (chkE_ok b C h6)
    · cases h
theorem chkT_ok : ∀ (t : Tx) {c : Ctx} {X : Cx} {e : Expr}, CO T k c X → chkT c t e = true → VTx T k X t e
  | .yes, c, X, e, C, h => by unfold chkT at h; cases h
  | .cmp p es, c, X, e, C, h => by
    unfold chkT at h
    split at h
    · simp only [Bool.and_eq_true, Bool.not_eq_true'] at h
      exact t_cmp C (of_decide_eq_true h.1.1) h.1.2 (chkAs_ok es C h.2)
    · cases h
  | .chn p p' es ex, c, X, e, C, h => by
    unfold chkT at h
    split at h
    · simp only [Bool.and_eq_true, Bool.not_eq_true'] at h
      obtain ⟨⟨⟨⟨h1, h2⟩, h3⟩, h4⟩, h5⟩ := h
      exact t_chn C (of_decide_eq_true h1) (of_decide_eq_true h2) h3 (chkAs_ok es C h4) (chkE_ok ex C h5)
    · cases h
  | .and ts, c, X, e, C, h => by
    unfold chkT at h
    split at h
    · rename_i xs p
      simp only [Bool.and_eq_true, Bool.not_eq_true'] at h
      exact (chkTs_ok ts C h.2 h.1).1.t
    · cases h
  | .or ts, c, X, e, C, h => by
    unfold chkT at h
    split at h
    · rename_i xs p
      simp only [Bool.and_eq_true, Bool.not_eq_true'] at h
      exact (chkTs_ok ts C h.2 h.1).2.t
    · cases h
  | .not t, c, X, e, C, h => by
    unfold chkT at h
    split at h
    · exact t_not (chkT_ok t C h)
    · cases h
  | .tr es, c, X, e, C, h => by
    unfold chkT at h
    rw [Bool.and_eq_true] at h
    exact t_tr h.1 (chkAs_ok es C h.2)
theorem chkTs_ok : ∀ (ts : List Tx) {c : Ctx} {X : Cx} {xs : List Expr} {pos : Pos}, CO T k c X → chkTs c ts xs = true → ts.isEmpty = false → VWx T k X (.and ts) (.BoolOp .And xs pos) ∧ VWx T k X (.or ts) (.BoolOp .Or xs pos)
  | [], c, X, xs, pos, C, h, hn => by cases hn
  | t :: ts, c, X, xs, pos, C, h, _ => by
    unfold chkTs at h
    split at h
    · rename_i x xs
      rw [Bool.and_eq_true] at h
      have h1 := chkT_ok t C h.1
      have ih := @chkTs_ok ts c X xs pos C h.2
      cases ts with
      | nil =>
        have e : xs = [] := by have := h.2; unfold chkTs at this; simpa using this
        subst e
        exact ⟨w_and1 h1, w_or1 h1⟩
      | cons u us =>
        cases xs with
        | nil => have := h.2; unfold chkTs at this; cases this
        | cons y ys =>
          have := ih rfl
          exact ⟨w_and h1 this.1, w_or h1 this.2⟩
    · cases h
theorem chkB_ok : ∀ (t : Tx) {c : Ctx} {X : Cx} {e : Expr}, CO T k c X → chkB c t e = true → VBx T k X t e
  | .yes, c, X, e, C, h => by unfold chkB at h; cases h
  | .cmp p es, c, X, e, C, h => by
    unfold chkB at h
    split at h
    · simp only [Bool.and_eq_true, Bool.not_eq_true'] at h
      exact b_cmp C (of_decide_eq_true h.1.1) h.1.2 (chkAs_ok es C h.2)
    · cases h
  | .chn p p' es ex, c, X, e, C, h => by
    unfold chkB at h
    split at h
    · simp only [Bool.and_eq_true, Bool.not_eq_true'] at h
      obtain ⟨⟨⟨⟨h1, h2⟩, h3⟩, h4⟩, h5⟩ := h
      exact b_chn C (of_decide_eq_true h1) (of_decide_eq_true h2) h3 (chkAs_ok es C h4) (chkE_ok ex C h5)
    · cases h
  | .and ts, c, X, e, C, h => by
    unfold chkB at h
    split at h
    · rename_i xs p
      simp only [Bool.and_eq_true, Bool.not_eq_true'] at h
      exact (chkBs_ok ts C h.2 h.1).1
    · cases h
  | .or ts, c, X, e, C, h => by
    unfold chkB at h
    split at h
    · rename_i xs p
      simp only [Bool.and_eq_true, Bool.not_eq_true'] at h
      exact (chkBs_ok ts C h.2 h.1).2
    · cases h
  | .not t, c, X, e, C, h => by
    unfold chkB at h
    split at h
    · exact b_not (chkB_ok t C h)
    · cases h
  | .tr es, c, X, e, C, h => by
    unfold chkB at h
    exact b_tr (chkAs_ok es C h)
theorem chkBs_ok : ∀ (ts : List Tx) {c : Ctx} {X : Cx} {xs : List Expr} {pos : Pos}, CO T k c X → chkBs c ts xs = true → ts.isEmpty = false → VBx T k X (.and ts) (.BoolOp .And xs pos) ∧ VBx T k X (.or ts) (.BoolOp .Or xs pos)
  | [], c, X, xs, pos, C, h, hn => by cases hn
  | t :: ts, c, X, xs, pos, C, h, _ => by
    unfold chkBs at h
    split at h
    · rename_i x xs
      rw [Bool.and_eq_true] at h
      have h1 := chkB_ok t C h.1
      have ih := @chkBs_ok ts c X xs pos C h.2
      cases ts with
      | nil =>
        have e : xs = [] := by have := h.2; unfold chkBs at this; simpa using this
        subst e
        exact ⟨b_and1 h1, b_or1 h1⟩
      | cons u us =>
        cases xs with
        | nil => have := h.2; unfold chkBs at this; cases this
        | cons y ys =>
          have := ih rfl
          exact ⟨b_and h1 this.1, b_or h1 this.2⟩
    · cases h
end
end
end VE

end
section
set_option maxHeartbeats 2000000
/-! VEy5: the items of an own list, moved out one by one. -/
namespace VE
open PySem PySem.Spec PyProof.Rows L2
variable [TC]
section
variable {T : Nat → Option Def} {k : Nat} {c : Ctx} {X : Cx} {W : WX}
theorem exS_frM {cf : CF} {tg : Tg} {j : Nat} {fg : List Nat} {b : List Stm} {Γ : En} {xs : List D} (h : gt Γ j = some (.lst .own xs)) : exS cf (.frM tg j fg b) Γ = mapS (fun Γ9 => unlendE Γ Γ9 (.pk j)) (loopS (frF cf tg fg b) xs (wipeE (Γ.set j (some (.lst .lent (xs.map fun _ => VE.D.gone)))) fg)) := by
  show kFrM tg j fg (exSs cf b) Γ = _
  unfold kFrM
  rw [h]
  rfl
theorem frM_ok {tb : TS} {tg : Tg} {j : Nat} {fg : List Nat} {b : List Stm} {K : PySem.W.Frag}
    (hB : ∀ Γ σ H f D, REnv H Γ σ f → Good f → PSt X.mg W H f σ (modSs b) D (exSs (run T k) b Γ) → tb D σ H) (hj : j ∉ tgS tg ++ modSs b) (Γ : En) (σ : L2.St) (H : Hp) (f : Fp) (D : Ends) (en : REnv H Γ σ f) (G : Good f)
    (p : PSt X.mg W H f σ (tgS tg ++ modSs b) D (exS (run T k) (.frM tg j fg b) Γ)) : tFor (iSeq K (tVar j)) (gTg K tg) tb D σ H := by
  cases hg : gt Γ j with
  | none =>
    have : exS (run T k) (.frM tg j fg b) Γ = .bad := by show kFrM tg j fg _ Γ = _; unfold kFrM; rw [hg]
    rw [this] at p
    exact p.elim
  | some dj =>
    cases dj with
    | lst o xs =>
      cases o with
      | own =>
        rw [exS_frM hg] at p
        obtain ⟨v, g0, h0, ev, r0, rfl, _, put⟩ := en.put (gt_some hg)
        unfold Rep at r0
        obtain ⟨a, vs, gi, rfl, rl, hr, rfl⟩ := r0
        have hlv : xs.length = vs.length := rl.length
        have en1 := put (.lst .lent (xs.map fun _ => VE.D.gone)) (Fp.zero.lent a) (by unfold Rep; exact ⟨a, vs, Fp.zero, rfl, rep_gones hlv, hr, rfl⟩)
        have G1 : Good (gi.add ((Fp.zero.lent a).add h0)) := ⟨fun b => by
          have := G.g b
          simp only [Fp.add, Fp.own, Fp.lent, Fp.zero] at *
          refine ⟨by omega, fun y => ?_⟩
          have := this.2 (by omega)
          omega⟩
        have S1 : Step H ((gi.own a).add h0) H (gi.add ((Fp.zero.lent a).add h0)) := ⟨fun _ _ x _ _ => x, fun x => x, fun b y => .inl (by simp only [Fp.add, Fp.own, Fp.lent, Fp.zero] at *; omega), fun b y => .inl (by simp only [Fp.add, Fp.own, Fp.lent, Fp.zero] at *; omega), fun b y => .inl (by simp only [Fp.add, Fp.own, Fp.lent, Fp.zero] at *; omega)⟩
        have ga0 : gi.o a = 0 := by
          have := G.g a
          simp only [Fp.add, Fp.own, one] at this
          have := this.1
          simp at this
          omega
        have fa0 : ((Fp.zero.lent a).add h0).o a = 0 := by
          have := G.g a
          simp only [Fp.add, Fp.own, Fp.lent, Fp.zero, one] at *
          have := this.1
          simp at this
          omega
        refine ⟨.ref a, ev, .inl ⟨a, rfl, ⟨vs, .inl (.inl hr)⟩, ?_⟩⟩
        obtain ⟨fw, enw, lw⟩ := en1.wipe fg
        refine ⟨fun i m σc Hc => m = xs.length - i ∧ i ≤ xs.length ∧ ∃ Γc fc gR, REnv Hc Γc σc fc ∧ RepL Hc (xs.drop i) (vs.drop i) gR ∧ gR.o a = 0 ∧ Good (gR.add fc) ∧ (Rd Hc a (.lst vs) ∧ fc.o a = 0) ∧ Step H ((gi.own a).add h0) Hc (gR.add fc) ∧ Ag (tgS tg ++ modSs b) σ σc ∧
            loopS (frF (run T k) tg fg b) xs (wipeE (Γ.set j (some (.lst .lent (xs.map fun _ => VE.D.gone)))) fg) = loopS (frF (run T k) tg fg b) (xs.drop i) Γc, ⟨xs.length, rfl, Nat.zero_le _, _, fw, gi, enw, rl, ga0, G1.le (add_mono (Fp.le.refl _) lw), ⟨.inl hr, by have := (lw a).1; omega⟩, S1.less (add_mono (Fp.le.refl _) lw), Ag.refl _ _, rfl⟩, ?_⟩
        rintro i m σc Hc ⟨rfl, hi, Γc, fc, gR, enc, rc, ra, Gc, sc, Sc, ag, eq⟩
        have sc' : Src K Hc fc (Itl K a) vs := .lst sc.1 sc.2
        rw [eq] at p
        by_cases hlt : i < xs.length
        · refine .inr ⟨sc'.go (by omega), fun σc Hc => i + 1 ≤ xs.length ∧ ∃ Γc fc gR, REnv Hc Γc σc fc ∧ RepL Hc (xs.drop (i + 1)) (vs.drop (i + 1)) gR ∧ gR.o a = 0 ∧ Good (gR.add fc) ∧ (Rd Hc a (.lst vs) ∧ fc.o a = 0) ∧ Step H ((gi.own a).add h0) Hc (gR.add fc) ∧ Ag (tgS tg ++ modSs b) σ σc ∧
            loopS (frF (run T k) tg fg b) xs (wipeE (Γ.set j (some (.lst .lent (xs.map fun _ => VE.D.gone)))) fg) = loopS (frF (run T k) tg fg b) (xs.drop (i + 1)) Γc, fun σ' H' ⟨q1, q2⟩ => ⟨xs.length - (i + 1), by omega, rfl, q1, q2⟩, fun x H' y => ?_⟩
          obtain ⟨rfl, hx⟩ := sc'.yld y (by omega)
          have hdr : xs.drop i = xs[i] :: xs.drop (i + 1) := List.drop_eq_getElem_cons hlt
          have hdv : vs.drop i = vs[i]'(by omega) :: vs.drop (i + 1) := List.drop_eq_getElem_cons (by omega)
          have hxv : vs[i]'(by omega) = x := by
            have := List.getElem?_eq_getElem (l := vs) (i := i) (by omega)
            rw [hx] at this
            exact (Option.some.inj this).symm
          rw [hxv] at hdv
          rw [hdr, hdv] at rc
          obtain ⟨v', r', gd, gr, e', rd, rr, rfl⟩ := rc.inv
          cases e'
          have el : loopS (frF (run T k) tg fg b) (xs.drop i) Γc = (match frF (run T k) tg fg b xs[i] Γc with
            | .nx Γ1 => loopS (frF (run T k) tg fg b) (xs.drop (i + 1)) Γ1
            | .ct Γ1 => loopS (frF (run T k) tg fg b) (xs.drop (i + 1)) Γ1
            | .bk Γ1 => .nx Γ1
            | .rt d Γ1 => .rt d Γ1
            | .ex c ds Γ1 => .ex c ds Γ1
            | .bad => .bad) := by rw [hdr]; rfl
          cases e6 : setG Γc tg xs[i] with
          | none =>
            have : frF (run T k) tg fg b xs[i] Γc = .bad := by unfold frF; rw [e6]
            rw [el, this] at p
            exact p.elim
          | some Γ3 =>
            have ef : frF (run T k) tg fg b xs[i] Γc = fgS fg (exSs (run T k) b Γ3) := by unfold frF; rw [e6]
            rw [ef] at el
            refine setG_ok enc rd e6 fun σ2 f4 en4 l4 hl2 ho2 => ?_
            have l5 : (gr.add f4).le ((gd.add gr).add fc) := fun b => by
              have := l4 b
              simp only [Fp.add] at *
              omega
            have G4' : Good (gr.add f4) := Gc.le l5
            have G4 : Good f4 := G4'.le (Fp.le_addR _ _)
            have S4 : Step H ((gi.own a).add h0) H' (gr.add f4) := Sc.less l5
            have gr0 : gr.o a = 0 := by
              simp only [Fp.add] at ra
              omega
            have fa4 : f4.o a = 0 := by
              have := (l4 a).1
              have z := sc.2
              simp only [Fp.add] at *
              omega
            have ag2 : Ag (tgS tg ++ modSs b) σ σ2 := ag.trans (ag_tg hl2 ho2) (fun _ h => h) fun _ h => List.mem_append_left _ h
            refine hB Γ3 σ2 H' f4 _ en4 G4 ?_
            have side : ∀ {H5 : Hp} {f5 : Fp}, Step H' f4 H5 f5 → Good f5 → RepL H5 (xs.drop (i + 1)) (vs.drop (i + 1)) gr ∧ Good (gr.add f5) ∧ (Rd H5 a (.lst vs) ∧ f5.o a = 0) ∧ Step H ((gi.own a).add h0) H5 (gr.add f5) := fun {H5 f5} S5 G5 => by
              have dm := RepL.dom _ rr
              exact ⟨RepL.mono _ rr (S5.keeps G4' dm), S5.good G4' G5 dm, lst_step sc.1 fa4 S5, S4.trans (S5.beside dm)⟩
            have ag5 : ∀ {σ5 : L2.St}, Ag (modSs b) σ2 σ5 → Ag (tgS tg ++ modSs b) σ σ5 := fun {σ5} h => ag2.trans h (fun _ h => h) fun _ h => List.mem_append_right _ h
            have again : ∀ {Γ5 : En}, loopS (frF (run T k) tg fg b) (xs.drop i) Γc = loopS (frF (run T k) tg fg b) (xs.drop (i + 1)) (wipeE Γ5 fg) → ∀ σ5 H5 f5, REnv H5 Γ5 σ5 f5 → Good f5 → Step H' f4 H5 f5 → Ag (modSs b) σ2 σ5 →
                i + 1 ≤ xs.length ∧ ∃ Γc fc gR, REnv H5 Γc σ5 fc ∧ RepL H5 (xs.drop (i + 1)) (vs.drop (i + 1)) gR ∧ gR.o a = 0 ∧ Good (gR.add fc) ∧ (Rd H5 a (.lst vs) ∧ fc.o a = 0) ∧ Step H ((gi.own a).add h0) H5 (gR.add fc) ∧ Ag (tgS tg ++ modSs b) σ σ5 ∧
                loopS (frF (run T k) tg fg b) xs (wipeE (Γ.set j (some (.lst .lent (xs.map fun _ => VE.D.gone)))) fg) = loopS (frF (run T k) tg fg b) (xs.drop (i + 1)) Γc := fun {Γ5} e σ5 H5 f5 en5 G5 S5 a5 => by
              obtain ⟨f7, en7, l7⟩ := en5.wipe fg
              obtain ⟨a1, a2, a3, a4⟩ := side S5 G5
              have l8 : (gr.add f7).le (gr.add f5) := add_mono (Fp.le.refl _) l7
              exact ⟨hlt, _, f7, gr, en7, a1, gr0, a2.le l8, ⟨a3.1, by have := (l7 a).1; have := a3.2; omega⟩, a4.less l8, ag5 a5, eq.trans e⟩
            have hjs : ∀ {σ5 : L2.St}, Ag (modSs b) σ2 σ5 → σ5[j]? = σ[j]? := fun {σ5} h => (ag5 h).out j hj
            cases e7 : exSs (run T k) b Γ3 with
            | nx Γ5 =>
              rw [e7] at el
              exact again el
            | ct Γ5 =>
              rw [e7] at el
              exact again el
            | bk Γ5 =>
              rw [e7] at el
              rw [el] at p
              intro σ5 H5 f5 en5 G5 S5 a5
              obtain ⟨f7, en7, l7⟩ := en5.wipe fg
              obtain ⟨a1, a2, a3, a4⟩ := side S5 G5
              have l8 : (Fp.zero.add f7).le (gr.add f5) := fun b => by
                have := l7 b
                simp only [Fp.add, Fp.zero] at *
                omega
              obtain ⟨f8, q1, q2, q3⟩ := unlend_ok en (Step.refl _ _) en7 (a2.le l8) (a4.less l8) (hjs a5)
              rw [Fp.zero_add] at q2 q3
              exact p σ5 H5 f8 q1 q2 q3 (ag5 a5)
            | rt d Γ5 =>
              rw [e7] at el
              rw [el] at p
              intro v σ5 H5 g5 f5 r5 en5 G5 S5 a5
              obtain ⟨a1, a2, a3, a4⟩ := side S5 G5
              obtain ⟨f8, q1, q2, q3⟩ := unlend_ok en (Step.refl _ _) en5 G5 (a4.less (Fp.le_addR _ _)) (hjs a5)
              exact p v σ5 H5 g5 f8 r5 q1 q2 q3 (ag5 a5)
            | ex cx ds Γ5 =>
              rw [e7] at el
              rw [el] at p
              match ds, p with
              | [d], p =>
                intro C σ5 H5 f5 dx hm en5 G5 S5 a5 hd
                obtain ⟨a1, a2, a3, a4⟩ := side S5 G5
                obtain ⟨f8, q1, q2, q3⟩ := unlend_ok en (Step.refl _ _) en5 (show Good (Fp.zero.add f5) by rw [Fp.zero_add]; exact G5) (show Step H ((gi.own a).add h0) H5 (Fp.zero.add f5) by rw [Fp.zero_add]; exact a4.less (Fp.le_addR _ _)) (hjs a5)
                rw [Fp.zero_add] at q2 q3
                exact p C σ5 H5 f8 dx hm q1 q2 q3 (ag5 a5) hd
            | bad =>
              rw [e7] at el
              rw [el] at p
              exact p.elim
        · have hie : i = xs.length := by omega
          subst hie
          refine .inl ⟨sc'.stop (by omega), ?_⟩
          rw [List.drop_length] at p
          have p : PSt X.mg W H ((gi.own a).add h0) σ (tgS tg ++ modSs b) D (.nx (unlendE Γ Γc (.pk j))) := p
          have l8 : (Fp.zero.add fc).le (gR.add fc) := fun b => by simp only [Fp.add, Fp.zero]; omega
          obtain ⟨f', q1, q2, q3⟩ := unlend_ok en (Step.refl _ _) enc (Gc.le l8) (Sc.less l8) (ag.out j hj)
          rw [Fp.zero_add] at q2 q3
          exact p σc Hc f' q1 q2 q3 ag
      | lent =>
        have : exS (run T k) (.frM tg j fg b) Γ = .bad := by show kFrM tg j fg _ Γ = _; unfold kFrM; rw [hg]
        rw [this] at p
        exact p.elim
      | shr =>
        have : exS (run T k) (.frM tg j fg b) Γ = .bad := by show kFrM tg j fg _ Γ = _; unfold kFrM; rw [hg]
        rw [this] at p
        exact p.elim
    | _ =>
      have : exS (run T k) (.frM tg j fg b) Γ = .bad := by show kFrM tg j fg _ Γ = _; unfold kFrM; rw [hg]
      rw [this] at p
      exact p.elim
theorem s_frM (C : CO T k c X) {tg : Tg} {j : Nat} {fg : List Nat} {b : List Stm} {tge : Expr} {x : Str} {p1 pos : Pos} {bs : List Stmt} (hv : vis c j x = true) (hg : chkG c tg tge = true) (hj : (tgS tg ++ modSs b).contains j = false)
    (po : PassesOwn (model X.prog X.w) X.A X.env X.xe) (hb : VSs T k X W b bs) : VS T k X W (.frM tg j fg b) (.For tge (.Name x p1) bs [] pos) := by
  obtain ⟨tb, pb, sb⟩ := hb
  exact ⟨_, ps_for po C.calm (pi_seq (C.pv hv)) (C.tg hg) pb (fold_ok rfl), fun Γ σ H f D en G p => frM_ok sb (by simpa using hj) Γ σ H f D en G p⟩
end
end VE

end
section
set_option maxHeartbeats 2000000
/-! VEy6: the items of a list just made, moved out one by one. -/
namespace VE
open PySem PySem.Spec PyProof.Rows L2
variable [TC]
section
variable {T : Nat → Option Def} {k : Nat} {c : Ctx} {X : Cx} {W : WX}
theorem exS_frT {cf : CF} {tg : Tg} {ex : Ex} {fg : List Nat} {b : List Stm} {Γ : En} : exS cf (.frT tg ex fg b) Γ = (evE cf ex Γ).s fun d Γ1 => match d with
  | .lst .own xs => loopS (frF cf tg fg b) xs (wipeE Γ1 fg)
  | _ => .bad := rfl
theorem frT_ok {te : TE} {tb : TS} {tg : Tg} {ex : Ex} {fg : List Nat} {b : List Stm} {K : PySem.W.Frag}
    (hE : ∀ Γ σ H f Q, REnv H Γ σ f → Good f → PV H f σ Q (evE (run T k) ex Γ) → te σ H Q)
    (hB : ∀ Γ σ H f D, REnv H Γ σ f → Good f → PSt X.mg W H f σ (modSs b) D (exSs (run T k) b Γ) → tb D σ H) (Γ : En) (σ : L2.St) (H : Hp) (f : Fp) (D : Ends) (en : REnv H Γ σ f) (G : Good f)
    (p : PSt X.mg W H f σ (tgS tg ++ modSs b) D (exS (run T k) (.frT tg ex fg b) Γ)) : tFor (iSeq K te) (gTg K tg) tb D σ H := by
  rw [exS_frT] at p
  refine hE Γ σ H f _ en G ?_
  obtain ⟨d, Γ1, e1, p⟩ := p.bind
  rw [e1]
  intro v H1 g f1 rv en1 G1 S1
  match d, p, rv with
  | .lst .own xs, p, rv =>
    have p : PSt X.mg W H f σ (tgS tg ++ modSs b) D (loopS (frF (run T k) tg fg b) xs (wipeE Γ1 fg)) := p
    unfold Rep at rv
    obtain ⟨a, vs, gi, rfl, rl, hr, rfl⟩ := rv
    have hlv : xs.length = vs.length := rl.length
    refine .inl ⟨a, rfl, ⟨vs, .inl (.inl hr)⟩, ?_⟩
    obtain ⟨fw, enw, lw⟩ := en1.wipe fg
    have lw2 : ((gi.own a).add fw).le ((gi.own a).add f1) := add_mono (Fp.le.refl _) lw
    refine ⟨fun i m σc Hc => m = xs.length - i ∧ i ≤ xs.length ∧ ∃ Γc fc gR, REnv Hc Γc σc fc ∧ RepL Hc (xs.drop i) (vs.drop i) gR ∧ Hc a = some (.lst vs) ∧ Good ((gR.own a).add fc) ∧ Step H f Hc ((gR.own a).add fc) ∧ Ag (tgS tg ++ modSs b) σ σc ∧
        loopS (frF (run T k) tg fg b) xs (wipeE Γ1 fg) = loopS (frF (run T k) tg fg b) (xs.drop i) Γc, ⟨xs.length, rfl, Nat.zero_le _, _, fw, gi, enw, rl, hr, G1.le lw2, S1.less lw2, Ag.refl _ _, rfl⟩, ?_⟩
    rintro i m σc Hc ⟨rfl, hi, Γc, fc, gR, enc, rc, ra, Gc, Sc, ag, eq⟩
    have fa0 : fc.o a = 0 := by
      have := (Gc.g a).1
      simp only [Fp.add, Fp.own, one] at this
      simp at this
      omega
    have sc' : Src K Hc fc (Itl K a) vs := .lst (.inl ra) fa0
    rw [eq] at p
    by_cases hlt : i < xs.length
    · refine .inr ⟨sc'.go (by omega), fun σc Hc => i + 1 ≤ xs.length ∧ ∃ Γc fc gR, REnv Hc Γc σc fc ∧ RepL Hc (xs.drop (i + 1)) (vs.drop (i + 1)) gR ∧ Hc a = some (.lst vs) ∧ Good ((gR.own a).add fc) ∧ Step H f Hc ((gR.own a).add fc) ∧ Ag (tgS tg ++ modSs b) σ σc ∧
        loopS (frF (run T k) tg fg b) xs (wipeE Γ1 fg) = loopS (frF (run T k) tg fg b) (xs.drop (i + 1)) Γc, fun σ' H' ⟨q1, q2⟩ => ⟨xs.length - (i + 1), by omega, rfl, q1, q2⟩, fun x H' y => ?_⟩
      obtain ⟨rfl, hx⟩ := sc'.yld y (by omega)
      have hdr : xs.drop i = xs[i] :: xs.drop (i + 1) := List.drop_eq_getElem_cons hlt
      have hdv : vs.drop i = vs[i]'(by omega) :: vs.drop (i + 1) := List.drop_eq_getElem_cons (by omega)
      have hxv : vs[i]'(by omega) = x := by
        have := List.getElem?_eq_getElem (l := vs) (i := i) (by omega)
        rw [hx] at this
        exact (Option.some.inj this).symm
      rw [hxv] at hdv
      rw [hdr, hdv] at rc
      obtain ⟨v', r', gd, gr, e', rd, rr, rfl⟩ := rc.inv
      cases e'
      have el : loopS (frF (run T k) tg fg b) (xs.drop i) Γc = (match frF (run T k) tg fg b xs[i] Γc with
        | .nx Γ1 => loopS (frF (run T k) tg fg b) (xs.drop (i + 1)) Γ1
        | .ct Γ1 => loopS (frF (run T k) tg fg b) (xs.drop (i + 1)) Γ1
        | .bk Γ1 => .nx Γ1
        | .rt d Γ1 => .rt d Γ1
        | .ex c ds Γ1 => .ex c ds Γ1
        | .bad => .bad) := by rw [hdr]; rfl
      cases e6 : setG Γc tg xs[i] with
      | none =>
        have : frF (run T k) tg fg b xs[i] Γc = .bad := by unfold frF; rw [e6]
        rw [el, this] at p
        exact p.elim
      | some Γ3 =>
        have ef : frF (run T k) tg fg b xs[i] Γc = fgS fg (exSs (run T k) b Γ3) := by unfold frF; rw [e6]
        rw [ef] at el
        refine setG_ok enc rd e6 fun σ2 f4 en4 l4 hl2 ho2 => ?_
        have l5 : ((gr.own a).add f4).le (((gd.add gr).own a).add fc) := fun b => by
          have := l4 b
          simp only [Fp.add, Fp.own] at *
          omega
        have G4' : Good ((gr.own a).add f4) := Gc.le l5
        have G4 : Good f4 := G4'.le (Fp.le_addR _ _)
        have S4 : Step H f H' ((gr.own a).add f4) := Sc.less l5
        have dm : ∀ b, 0 < (gr.own a).at b → Dm H' b := fun b q => by
          by_cases e : b = a
          · subst e; exact ⟨_, ra, fun ps e => by cases e⟩
          · refine RepL.dom _ rr b ?_
            unfold Fp.at Fp.own one at q
            unfold Fp.at
            simp only [if_neg e] at q
            omega
        have pa : 0 < (gr.own a).at a := by
          unfold Fp.at Fp.own one
          simp only [if_true]
          omega
        have ag2 : Ag (tgS tg ++ modSs b) σ σ2 := ag.trans (ag_tg hl2 ho2) (fun _ h => h) fun _ h => List.mem_append_left _ h
        refine hB Γ3 σ2 H' f4 _ en4 G4 ?_
        have side : ∀ {H5 : Hp} {f5 : Fp}, Step H' f4 H5 f5 → Good f5 → RepL H5 (xs.drop (i + 1)) (vs.drop (i + 1)) gr ∧ H5 a = some (.lst vs) ∧ Good ((gr.own a).add f5) ∧ Step H f H5 ((gr.own a).add f5) := fun {H5 f5} S5 G5 => by
          have kp := S5.keeps G4' dm
          exact ⟨RepL.mono _ rr fun b u hu q => kp b u hu (by unfold Fp.at Fp.own at *; simp only at *; omega), kp _ _ ra pa, S5.good G4' G5 dm, S4.trans (S5.beside dm)⟩
        have ag5 : ∀ {σ5 : L2.St}, Ag (modSs b) σ2 σ5 → Ag (tgS tg ++ modSs b) σ σ5 := fun {σ5} h => ag2.trans h (fun _ h => h) fun _ h => List.mem_append_right _ h
        have again : ∀ {Γ5 : En}, loopS (frF (run T k) tg fg b) (xs.drop i) Γc = loopS (frF (run T k) tg fg b) (xs.drop (i + 1)) (wipeE Γ5 fg) → ∀ σ5 H5 f5, REnv H5 Γ5 σ5 f5 → Good f5 → Step H' f4 H5 f5 → Ag (modSs b) σ2 σ5 →
            i + 1 ≤ xs.length ∧ ∃ Γc fc gR, REnv H5 Γc σ5 fc ∧ RepL H5 (xs.drop (i + 1)) (vs.drop (i + 1)) gR ∧ H5 a = some (.lst vs) ∧ Good ((gR.own a).add fc) ∧ Step H f H5 ((gR.own a).add fc) ∧ Ag (tgS tg ++ modSs b) σ σ5 ∧
            loopS (frF (run T k) tg fg b) xs (wipeE Γ1 fg) = loopS (frF (run T k) tg fg b) (xs.drop (i + 1)) Γc := fun {Γ5} e σ5 H5 f5 en5 G5 S5 a5 => by
          obtain ⟨f7, en7, l7⟩ := en5.wipe fg
          obtain ⟨a1, a2, a3, a4⟩ := side S5 G5
          have l8 : ((gr.own a).add f7).le ((gr.own a).add f5) := add_mono (Fp.le.refl _) l7
          exact ⟨hlt, _, f7, gr, en7, a1, a2, a3.le l8, a4.less l8, ag5 a5, eq.trans e⟩
        cases e7 : exSs (run T k) b Γ3 with
        | nx Γ5 =>
          rw [e7] at el
          exact again el
        | ct Γ5 =>
          rw [e7] at el
          exact again el
        | bk Γ5 =>
          rw [e7] at el
          rw [el] at p
          intro σ5 H5 f5 en5 G5 S5 a5
          obtain ⟨f7, en7, l7⟩ := en5.wipe fg
          obtain ⟨a1, a2, a3, a4⟩ := side S5 G5
          have l8 : f7.le ((gr.own a).add f5) := l7.trans (Fp.le_addR _ _)
          exact p σ5 H5 f7 en7 (a3.le l8) (a4.less l8) (ag5 a5)
        | rt d Γ5 =>
          rw [e7] at el
          rw [el] at p
          intro v σ5 H5 g5 f5 r5 en5 G5 S5 a5
          obtain ⟨a1, a2, a3, a4⟩ := side S5 G5
          exact p v σ5 H5 g5 f5 r5 en5 G5 (a4.less (Fp.le_addR _ _)) (ag5 a5)
        | ex cx ds Γ5 =>
          rw [e7] at el
          rw [el] at p
          match ds, p with
          | [d], p =>
            intro C σ5 H5 f5 dx hm en5 G5 S5 a5 hd
            obtain ⟨a1, a2, a3, a4⟩ := side S5 G5
            exact p C σ5 H5 f5 dx hm en5 G5 (a4.less (Fp.le_addR _ _)) (ag5 a5) hd
        | bad =>
          rw [e7] at el
          rw [el] at p
          exact p.elim
    · have hie : i = xs.length := by omega
      subst hie
      refine .inl ⟨sc'.stop (by omega), ?_⟩
      rw [List.drop_length] at p
      have p : PSt X.mg W H f σ (tgS tg ++ modSs b) D (.nx Γc) := p
      exact p σc Hc fc enc (Gc.le (Fp.le_addR _ _)) (Sc.less (Fp.le_addR _ _)) ag
  | .lst .lent xs, p, rv => exact p.elim
  | .lst .shr xs, p, rv => exact p.elim
  | .int _, p, rv => exact p.elim
  | .bl _, p, rv => exact p.elim
  | .str _, p, rv => exact p.elim
  | .non, p, rv => exact p.elim
  | .gone, p, rv => exact p.elim
  | .tup _, p, rv => exact p.elim
theorem s_frT (C : CO T k c X) {tg : Tg} {ex : Ex} {fg : List Nat} {b : List Stm} {tge ie : Expr} {pos : Pos} {bs : List Stmt} (hg : chkG c tg tge = true) (hf : (match ie with | .Set _ _ _ => false | _ => true) = true)
    (po : PassesOwn (model X.prog X.w) X.A X.env X.xe) (he : VEx T k X ex ie) (hb : VSs T k X W b bs) : VS T k X W (.frT tg ex fg b) (.For tge ie bs [] pos) := by
  obtain ⟨te, pe, se⟩ := he
  obtain ⟨tb, pb, sb⟩ := hb
  exact ⟨_, ps_for po C.calm (pi_seq pe) (C.tg hg) pb (fold_ok hf), fun Γ σ H f D en G p => frT_ok se sb Γ σ H f D en G p⟩
end
end VE

end
section
set_option maxHeartbeats 2000000
/-! VEy8: the items of an own list, each moved out and laid back. -/
namespace VE
open PySem PySem.Spec PyProof.Rows L2
variable [TC]
section
variable {T : Nat → Option Def} {k : Nat} {c : Ctx} {X : Cx} {W : WX}
theorem exS_frB {cf : CF} {x j : Nat} {fg : List Nat} {b : List Stm} {Γ : En} {xs : List D} (h : gt Γ j = some (.lst .own xs)) : exS cf (.frB x j fg b) Γ = loopB x j fg (exSs cf b) xs [] (wipeE (Γ.set j (some (.lst .lent (xs.map fun _ => VE.D.gone)))) fg) := by
  show kFrB x j fg (exSs cf b) Γ = _
  unfold kFrB
  rw [h]
theorem frB_ok {tb : TS} {x j : Nat} {fg : List Nat} {b : List Stm} {K : PySem.W.Frag}
    (hB : ∀ Γ σ H f D, REnv H Γ σ f → Good f → PSt X.mg W H f σ (modSs b) D (exSs (run T k) b Γ) → tb D σ H) (hj : j ∉ x :: modSs b) (hx : x ∉ modSs b) (Γ : En) (σ : L2.St) (H : Hp) (f : Fp) (D : Ends) (en : REnv H Γ σ f) (G : Good f)
    (p : PSt X.mg W H f σ (x :: modSs b) D (exS (run T k) (.frB x j fg b) Γ)) : tFor (iSeq K (tVar j)) (gTg K (.nm x)) tb D σ H := by
  have bad : (∀ xs, gt Γ j ≠ some (.lst .own xs)) → exS (run T k) (.frB x j fg b) Γ = .bad := fun h => by
    show kFrB x j fg _ Γ = _
    unfold kFrB
    split
    · rename_i xs e
      exact absurd e (h xs)
    · rfl
  cases hg : gt Γ j with
  | none =>
    rw [bad fun xs => by rw [hg]; simp] at p
    exact p.elim
  | some dj =>
    cases dj with
    | lst o xs =>
      cases o with
      | own =>
        rw [exS_frB hg] at p
        obtain ⟨v, g0, h0, ev, r0, rfl, _, put⟩ := en.put (gt_some hg)
        unfold Rep at r0
        obtain ⟨a, vs, gi, rfl, rl, hr, rfl⟩ := r0
        have hlv : xs.length = vs.length := rl.length
        have en1 := put (.lst .lent (xs.map fun _ => VE.D.gone)) (Fp.zero.lent a) (by unfold Rep; exact ⟨a, vs, Fp.zero, rfl, rep_gones hlv, hr, rfl⟩)
        have G1 : Good (gi.add ((Fp.zero.lent a).add h0)) := ⟨fun b => by
          have := G.g b
          simp only [Fp.add, Fp.own, Fp.lent, Fp.zero] at *
          refine ⟨by omega, fun y => ?_⟩
          have := this.2 (by omega)
          omega⟩
        have S1 : Step H ((gi.own a).add h0) H (gi.add ((Fp.zero.lent a).add h0)) := ⟨fun _ _ x _ _ => x, fun x => x, fun b y => .inl (by simp only [Fp.add, Fp.own, Fp.lent, Fp.zero] at *; omega), fun b y => .inl (by simp only [Fp.add, Fp.own, Fp.lent, Fp.zero] at *; omega), fun b y => .inl (by simp only [Fp.add, Fp.own, Fp.lent, Fp.zero] at *; omega)⟩
        have ga0 : gi.o a = 0 := by
          have := G.g a
          simp only [Fp.add, Fp.own, one] at this
          have := this.1
          simp at this
          omega
        have fa0 : ((Fp.zero.lent a).add h0).o a = 0 := by
          have := G.g a
          simp only [Fp.add, Fp.own, Fp.lent, Fp.zero, one] at *
          have := this.1
          simp at this
          omega
        have ha0 : 0 < ((gi.own a).add h0).o a := by
          simp only [Fp.add, Fp.own, one_self]
          omega
        refine ⟨.ref a, ev, .inl ⟨a, rfl, ⟨vs, .inl (.inl hr)⟩, ?_⟩⟩
        obtain ⟨fw, enw, lw⟩ := en1.wipe fg
        refine ⟨fun i m σc Hc => m = xs.length - i ∧ i ≤ xs.length ∧ ∃ Γc fc gS ys, REnv Hc Γc σc fc ∧ ys.length = i ∧ RepL Hc (ys ++ xs.drop i) vs gS ∧ gS.o a = 0 ∧ Good (gS.add fc) ∧ (Rd Hc a (.lst vs) ∧ fc.o a = 0) ∧ Step H ((gi.own a).add h0) Hc (gS.add fc) ∧ Ag (x :: modSs b) σ σc ∧
            loopB x j fg (exSs (run T k) b) xs [] (wipeE (Γ.set j (some (.lst .lent (xs.map fun _ => VE.D.gone)))) fg) = loopB x j fg (exSs (run T k) b) (xs.drop i) ys Γc, ⟨xs.length, rfl, Nat.zero_le _, _, fw, gi, [], enw, rfl, rl, ga0, G1.le (add_mono (Fp.le.refl _) lw), ⟨.inl hr, by have := (lw a).1; omega⟩, S1.less (add_mono (Fp.le.refl _) lw), Ag.refl _ _, rfl⟩, ?_⟩
        rintro i m σc Hc ⟨rfl, hi, Γc, fc, gS, ys, enc, ly, rc, ra, Gc, sc, Sc, ag, eq⟩
        have sc' : Src K Hc fc (Itl K a) vs := .lst sc.1 sc.2
        rw [eq] at p
        by_cases hlt : i < xs.length
        · refine .inr ⟨sc'.go (by omega), fun σc Hc => i + 1 ≤ xs.length ∧ ∃ Γc fc gS ys, REnv Hc Γc σc fc ∧ ys.length = i + 1 ∧ RepL Hc (ys ++ xs.drop (i + 1)) vs gS ∧ gS.o a = 0 ∧ Good (gS.add fc) ∧ (Rd Hc a (.lst vs) ∧ fc.o a = 0) ∧ Step H ((gi.own a).add h0) Hc (gS.add fc) ∧ Ag (x :: modSs b) σ σc ∧
            loopB x j fg (exSs (run T k) b) xs [] (wipeE (Γ.set j (some (.lst .lent (xs.map fun _ => VE.D.gone)))) fg) = loopB x j fg (exSs (run T k) b) (xs.drop (i + 1)) ys Γc, fun σ' H' ⟨q1, q2⟩ => ⟨xs.length - (i + 1), by omega, rfl, q1, q2⟩, fun xv H' y => ?_⟩
          obtain ⟨rfl, hxv⟩ := sc'.yld y (by omega)
          have hdr : xs.drop i = xs[i] :: xs.drop (i + 1) := List.drop_eq_getElem_cons hlt
          rw [hdr] at rc eq p
          obtain ⟨v', gd, gr, e', rd, egs, _, putL⟩ := rc.get (get_mid ys (xs.drop (i + 1)) xs[i])
          rw [ly, hxv] at e'
          cases e'
          subst egs
          -- the list with a hole
          have rh : RepL H' (ys ++ VE.D.gone :: xs.drop (i + 1)) vs gr := by
            have := putL .gone xv Fp.zero (by unfold Rep; rfl)
            rw [set_mid, Fp.zero_add, set_self (by rw [ly]; exact hxv)] at this
            exact this
          have el : loopB x j fg (exSs (run T k) b) (xs[i] :: xs.drop (i + 1)) ys Γc = (match exSs (run T k) b (Γc.set x (some xs[i])) with
            | .nx Γ1 => loopB x j fg (exSs (run T k) b) (xs.drop (i + 1)) (ys ++ [tkX Γ1 x]) (wipeE (Γ1.set x none) fg)
            | .ct Γ1 => loopB x j fg (exSs (run T k) b) (xs.drop (i + 1)) (ys ++ [tkX Γ1 x]) (wipeE (Γ1.set x none) fg)
            | .bk Γ1 => finB (wipeE (Γ1.set x none) fg) j (ys ++ tkX Γ1 x :: xs.drop (i + 1)) .nx
            | .rt r Γ1 => finB (Γ1.set x none) j (ys ++ tkX Γ1 x :: xs.drop (i + 1)) (.rt r)
            | .ex c e Γ1 => finB (Γ1.set x none) j (ys ++ tkX Γ1 x :: xs.drop (i + 1)) (.ex c e)
            | .bad => .bad) := rfl
          obtain ⟨f4, en4, l4⟩ := enc.put1 (i := x) rd
          show tb _ (σc.set x (some xv)) H'
          have l5 : (gr.add f4).le ((gd.add gr).add fc) := fun b => by
            have := l4 b
            simp only [Fp.add] at *
            omega
          have G4' : Good (gr.add f4) := Gc.le l5
          have G4 : Good f4 := G4'.le (Fp.le_addR _ _)
          have S4 : Step H ((gi.own a).add h0) H' (gr.add f4) := Sc.less l5
          have gr0 : gr.o a = 0 := by
            simp only [Fp.add] at ra
            omega
          have fa4 : f4.o a = 0 := by
            have := (l4 a).1
            have z := sc.2
            simp only [Fp.add] at *
            omega
          have ag2 : Ag (x :: modSs b) σ (σc.set x (some xv)) := ag.trans (ms2 := [x]) ⟨by rw [List.length_set], fun i hi => by
            rw [List.getElem?_set_ne]
            intro z
            subst z
            exact hi List.mem_cons_self⟩ (fun _ h => h) fun _ h => by
              rw [List.mem_singleton] at h
              rw [h]
              exact List.mem_cons_self
          refine hB (Γc.set x (some xs[i])) (σc.set x (some xv)) H' f4 _ en4 G4 ?_
          have side : ∀ {H5 : Hp} {f5 : Fp}, Step H' f4 H5 f5 → Good f5 → RepL H5 (ys ++ VE.D.gone :: xs.drop (i + 1)) vs gr ∧ Good (gr.add f5) ∧ (Rd H5 a (.lst vs) ∧ f5.o a = 0) ∧ Step H ((gi.own a).add h0) H5 (gr.add f5) := fun {H5 f5} S5 G5 => by
            have dm := RepL.dom _ rh
            exact ⟨RepL.mono _ rh (S5.keeps G4' dm), S5.good G4' G5 dm, lst_step sc.1 fa4 S5, S4.trans (S5.beside dm)⟩
          have ag5 : ∀ {σ5 : L2.St}, Ag (modSs b) (σc.set x (some xv)) σ5 → Ag (x :: modSs b) σ σ5 := fun {σ5} h => ag2.trans h (fun _ h => h) fun _ h => List.mem_cons_of_mem _ h
          -- the item laid back
          have lay : ∀ {H5 : Hp} {Γ5 : En} {σ5 : L2.St} {f5 : Fp}, REnv H5 Γ5 σ5 f5 → Ag (modSs b) (σc.set x (some xv)) σ5 → RepL H5 (ys ++ VE.D.gone :: xs.drop (i + 1)) vs gr → f5.o a = 0 →
              ∃ gy h5 : Fp, REnv H5 (Γ5.set x none) σ5 h5 ∧ f5 = gy.add h5 ∧ RepL H5 (ys ++ tkX Γ5 x :: xs.drop (i + 1)) vs (gy.add gr) := fun {H5 Γ5 σ5 f5} en5 a5 r5 z5 => by
            obtain ⟨gy, h5, ry, e5, en6⟩ := take_x (x := x) (xv := xv) en5 fun v hv => by
              rw [a5.out x hx] at hv
              by_cases q : x < σc.length
              · rw [List.getElem?_set_self q] at hv
                exact (Option.some.inj (Option.some.inj hv)).symm
              · rw [List.getElem?_eq_none_iff.mpr (by rw [List.length_set]; omega)] at hv
                cases hv
            refine ⟨gy, h5, en6, e5, ?_⟩
            obtain ⟨w, g6, h6, e7, rg, eg, _, put6⟩ := r5.get (get_mid ys (xs.drop (i + 1)) VE.D.gone)
            rw [ly, hxv] at e7
            cases e7
            unfold Rep at rg
            subst rg
            rw [Fp.zero_add] at eg
            subst eg
            have := put6 (tkX Γ5 x) xv gy ry
            rw [set_mid, set_self (by rw [ly]; exact hxv)] at this
            exact this
          have again : ∀ {Γ5 : En}, loopB x j fg (exSs (run T k) b) (xs[i] :: xs.drop (i + 1)) ys Γc = loopB x j fg (exSs (run T k) b) (xs.drop (i + 1)) (ys ++ [tkX Γ5 x]) (wipeE (Γ5.set x none) fg) → ∀ σ5 H5 f5, REnv H5 Γ5 σ5 f5 → Good f5 → Step H' f4 H5 f5 → Ag (modSs b) (σc.set x (some xv)) σ5 →
              i + 1 ≤ xs.length ∧ ∃ Γc fc gS ys, REnv H5 Γc σ5 fc ∧ ys.length = i + 1 ∧ RepL H5 (ys ++ xs.drop (i + 1)) vs gS ∧ gS.o a = 0 ∧ Good (gS.add fc) ∧ (Rd H5 a (.lst vs) ∧ fc.o a = 0) ∧ Step H ((gi.own a).add h0) H5 (gS.add fc) ∧ Ag (x :: modSs b) σ σ5 ∧
              loopB x j fg (exSs (run T k) b) xs [] (wipeE (Γ.set j (some (.lst .lent (xs.map fun _ => VE.D.gone)))) fg) = loopB x j fg (exSs (run T k) b) (xs.drop (i + 1)) ys Γc := fun {Γ5} e σ5 H5 f5 en5 G5 S5 a5 => by
            obtain ⟨a1, a2, a3, a4⟩ := side S5 G5
            obtain ⟨gy, h5, en6, rfl, r6⟩ := lay en5 a5 a1 a3.2
            obtain ⟨f7, en7, l7⟩ := en6.wipe fg
            have l8 : ((gy.add gr).add f7).le (gr.add (gy.add h5)) := fun b => by
              have := l7 b
              simp only [Fp.add] at *
              omega
            have z3 := a3.2
            simp only [Fp.add] at z3
            refine ⟨hlt, _, f7, gy.add gr, ys ++ [tkX Γ5 x], en7, by rw [List.length_append, ly]; rfl, by rw [List.append_assoc]; exact r6, ?_, a2.le l8, ⟨a3.1, by have := (l7 a).1; omega⟩, a4.less l8, ag5 a5, eq.trans e⟩
            simp only [Fp.add]
            omega
          have hjs : ∀ {σ5 : L2.St}, Ag (modSs b) (σc.set x (some xv)) σ5 → σ5[j]? = some (some (.ref a)) := fun {σ5} h => by rw [(ag5 h).out j hj, ev]
          -- the loop is left
          have leave : ∀ {Γ5 : En} {σ5 : L2.St} {H5 : Hp} {f5 : Fp} {F : En → S} {gx : Fp} {ms : List Nat}, REnv H5 Γ5 σ5 f5 → Good (gx.add f5) → Step H' f4 H5 (gx.add f5) → Ag (modSs b) (σc.set x (some xv)) σ5 → (∀ b, 0 < gx.at b → Dm H5 b) → ∀ is, finB (wipeE (Γ5.set x none) is) j (ys ++ tkX Γ5 x :: xs.drop (i + 1)) F = .bad ∨
              ∃ Γ9 f9, finB (wipeE (Γ5.set x none) is) j (ys ++ tkX Γ5 x :: xs.drop (i + 1)) F = F Γ9 ∧ REnv H5 Γ9 σ5 f9 ∧ Good (gx.add f9) ∧ Step H ((gi.own a).add h0) H5 (gx.add f9) := fun {Γ5 σ5 H5 f5 F gx ms} en5 G5 S5 a5 dm is => by
            obtain ⟨a1, a2, a3, a4⟩ := side S5 G5
            have z3 := a3.2
            simp only [Fp.add] at z3
            obtain ⟨gy, h5, en6, rfl, r6⟩ := lay en5 a5 a1 (by omega)
            obtain ⟨f7, en7, l7⟩ := en6.wipe is
            unfold finB
            cases ej : gt (wipeE (Γ5.set x none) is) j with
            | none => exact .inl rfl
            | some dj =>
              match dj, ej with
              | .lst .lent zs, ej =>
                have l8 : (gx.add ((gy.add gr).add f7)).le (gr.add (gx.add (gy.add h5))) := fun b => by
                  have := l7 b
                  simp only [Fp.add] at *
                  omega
                obtain ⟨f8, q1, q2, q3⟩ := finB_ok (gt' := gx) en7 ej (hjs a5) r6 a3.1 (a2.le l8) (a4.less l8) ha0
                exact .inr ⟨_, f8, rfl, q1, q2, q3⟩
              | .lst .own zs, _ => exact .inl rfl
              | .lst .shr zs, _ => exact .inl rfl
              | .int _, _ => exact .inl rfl
              | .bl _, _ => exact .inl rfl
              | .str _, _ => exact .inl rfl
              | .non, _ => exact .inl rfl
              | .gone, _ => exact .inl rfl
              | .tup _, _ => exact .inl rfl
          cases e7 : exSs (run T k) b (Γc.set x (some xs[i])) with
          | nx Γ5 =>
            rw [e7] at el
            exact again el
          | ct Γ5 =>
            rw [e7] at el
            exact again el
          | bk Γ5 =>
            rw [e7] at el
            rw [el] at p
            intro σ5 H5 f5 en5 G5 S5 a5
            rcases leave (F := .nx) (gx := Fp.zero) (ms := []) en5 (by rw [Fp.zero_add]; exact G5) (by rw [Fp.zero_add]; exact S5) a5 (fun b q => absurd q (Nat.lt_irrefl 0)) fg with q | ⟨Γ9, f9, q, q1, q2, q3⟩
            · dsimp only at p
              rw [q] at p
              exact p.elim
            · dsimp only at p
              rw [q] at p
              rw [Fp.zero_add] at q2 q3
              exact p σ5 H5 f9 q1 q2 q3 (ag5 a5)
          | rt d Γ5 =>
            rw [e7] at el
            rw [el] at p
            intro v σ5 H5 g5 f5 r5 en5 G5 S5 a5
            rcases leave (F := .rt d) (gx := g5) (ms := []) en5 G5 S5 a5 (Rep.dom _ r5) [] with q | ⟨Γ9, f9, q, q1, q2, q3⟩
            · dsimp only at p
              have q : finB (Γ5.set x none) j (ys ++ tkX Γ5 x :: xs.drop (i + 1)) (.rt d) = .bad := q
              rw [q] at p
              exact p.elim
            · dsimp only at p
              have q : finB (Γ5.set x none) j (ys ++ tkX Γ5 x :: xs.drop (i + 1)) (.rt d) = .rt d Γ9 := q
              rw [q] at p
              exact p v σ5 H5 g5 f9 r5 q1 q2 q3 (ag5 a5)
          | ex cx ds Γ5 =>
            rw [e7] at el
            rw [el] at p
            match ds, p with
            | [], p =>
              dsimp only at p
              unfold finB at p
              split at p <;> exact p.elim
            | _ :: _ :: _, p =>
              dsimp only at p
              unfold finB at p
              split at p <;> exact p.elim
            | [d], p =>
              intro C σ5 H5 f5 dx hm en5 G5 S5 a5 hd
              rcases leave (F := .ex cx [d]) (gx := Fp.zero) (ms := []) en5 (by rw [Fp.zero_add]; exact G5) (by rw [Fp.zero_add]; exact S5) a5 (fun b q => absurd q (Nat.lt_irrefl 0)) [] with q | ⟨Γ9, f9, q, q1, q2, q3⟩
              · dsimp only at p
                have q : finB (Γ5.set x none) j (ys ++ tkX Γ5 x :: xs.drop (i + 1)) (.ex cx [d]) = .bad := q
                rw [q] at p
                exact p.elim
              · dsimp only at p
                have q : finB (Γ5.set x none) j (ys ++ tkX Γ5 x :: xs.drop (i + 1)) (.ex cx [d]) = .ex cx [d] Γ9 := q
                rw [q] at p
                rw [Fp.zero_add] at q2 q3
                exact p C σ5 H5 f9 dx hm q1 q2 q3 (ag5 a5) hd
          | bad =>
            rw [e7] at el
            rw [el] at p
            exact p.elim
        · have hie : i = xs.length := by omega
          refine .inl ⟨sc'.stop (by omega), ?_⟩
          rw [List.drop_eq_nil_of_le (by omega)] at p rc
          rw [List.append_nil] at rc
          have p : PSt X.mg W H ((gi.own a).add h0) σ (x :: modSs b) D (finB Γc j ys .nx) := p
          unfold finB at p
          cases ej : gt Γc j with
          | none => rw [ej] at p; exact p.elim
          | some dj =>
            rw [ej] at p
            match dj, ej, p with
            | .lst .lent zs, ej, p =>
              obtain ⟨f8, q1, q2, q3⟩ := finB_ok (gt' := Fp.zero) enc ej (by rw [ag.out j hj, ev]) rc sc.1 (by rw [Fp.zero_add]; exact Gc) (by rw [Fp.zero_add]; exact Sc) ha0
              rw [Fp.zero_add] at q2 q3
              exact p σc Hc f8 q1 q2 q3 ag
            | .lst .own zs, _, p => exact p.elim
            | .lst .shr zs, _, p => exact p.elim
            | .int _, _, p => exact p.elim
            | .bl _, _, p => exact p.elim
            | .str _, _, p => exact p.elim
            | .non, _, p => exact p.elim
            | .gone, _, p => exact p.elim
            | .tup _, _, p => exact p.elim
      | lent =>
        rw [bad fun xs => by rw [hg]; simp] at p
        exact p.elim
      | shr =>
        rw [bad fun xs => by rw [hg]; simp] at p
        exact p.elim
    | _ =>
      rw [bad fun xs => by rw [hg]; simp] at p
      exact p.elim
theorem s_frB (C : CO T k c X) {x j : Nat} {fg : List Nat} {b : List Stm} {tge : Expr} {y : Str} {p1 pos : Pos} {bs : List Stmt} (hv : vis c j y = true) (hg : chkG c (.nm x) tge = true) (hj : (x :: modSs b).contains j = false) (hx : (modSs b).contains x = false)
    (po : PassesOwn (model X.prog X.w) X.A X.env X.xe) (hb : VSs T k X W b bs) : VS T k X W (.frB x j fg b) (.For tge (.Name y p1) bs [] pos) := by
  obtain ⟨tb, pb, sb⟩ := hb
  exact ⟨_, ps_for po C.calm (pi_seq (C.pv hv)) (C.tg hg) pb (fold_ok rfl), fun Γ σ H f D en G p => frB_ok sb (by simpa using hj) (by simpa using hx) Γ σ H f D en G p⟩
end
end VE

end
section
set_option maxHeartbeats 2000000
/-! VEp: the look at statements; defs; the table of a law. -/
namespace VE
open PySem PySem.Spec PyProof.Rows L2
variable [TC]

def chkLcA (c : Ctx) (i : Nat) (x : Str) (py : Pos) (ex : Ex) (e : Expr) : Bool := match ex, e with
  | .lc own tg it t ex', .ListComp elt [⟨tge, ie, ifs, 0⟩] scope pos => decide (c.N[i]? = some x) && decide (c.sc.names.lookup x = some .local) && (py.line == pos.line) && !(scope.names.any fun (n, k) => n == x && (k == .local || k == .cell)) && chkE c (.lc own tg it t ex') (.ListComp elt [⟨tge, ie, ifs, 0⟩] scope pos)
  | .lcB own xx jj t ex', .ListComp elt [⟨tge, .Name yy pp, ifs, 0⟩] scope pos => decide (c.N[i]? = some x) && decide (c.sc.names.lookup x = some .local) && (py.line == pos.line) && !(scope.names.any fun (n, k) => n == x && (k == .local || k == .cell)) && chkE c (.lcB own xx jj t ex') (.ListComp elt [⟨tge, .Name yy pp, ifs, 0⟩] scope pos)
  | _, _ => false
def chkLcC (c : Ctx) (i : Nat) (x : Str) (ex : Ex) (e : Expr) : Bool := match ex, e with
  | .lc own tg it t ex', .ListComp elt [⟨tge, ie, ifs, 0⟩] scope pos => decide (c.N[i]? = some x) && decide (c.sc.names.lookup x = some .cell) && chkE c (.lc own tg it t ex') (.ListComp elt [⟨tge, ie, ifs, 0⟩] scope pos)
  | _, _ => false
def isExc : Option GK → Str → Bool
  | some (.exc fn _), f => decide (fn = f)
  | _, _ => false
theorem isExc_of {o : Option GK} {f : Str} (h : isExc o f = true) : ∃ up, o = some (.exc f up) := by
  unfold isExc at h
  split at h
  · have := of_decide_eq_true h
    subst this
    exact ⟨_, rfl⟩
  · cases h
def isExp : CM → Bool
  | .exp => true
  | _ => false
def isRet : CM → Bool
  | .ret => true
  | _ => false
def isAsg (c : Ctx) : CM → Str → Bool
  | .asg i, y => loc c i y
  | _, _ => false
mutual
def chkS (c : Ctx) : Stm → Stmt → Bool
  | .act _, _ => false
  | .asg (.nm i) ex, st => match st with
    | .Assign [.Name x py] e _ => (loc c i x && notLc e && chkE c ex e) || chkLcA c i x py ex e || chkLcC c i x ex e
    | _ => false
  | .asg (.tp is) ex, st => match st with
    | .Assign [.Tuple xs kk p] e _ => chkG c (.tp is) (.Tuple xs kk p) && notTL e && chkE c ex e
    | _ => false
  | .aug i p ex, st => match st with
    | .AugAssign (.Name x _) o e _ => loc c i x && vis c i x && decide (opOfBin o = some p) && !decide (p = .pow) && chkE c ex e
    | _ => false
  | .setI j ei ex, st => match st with
    | .Assign [.Subscript (.Name x _) i _] e _ => vis c j x && noSlice i && chkE c ei i && chkE c ex e
    | _ => false
  | .augI j ei p ex, st => match st with
    | .AugAssign (.Subscript (.Name x _) i _) o e _ => vis c j x && noSlice i && decide (opOfBin o = some p) && !decide (p = .pow) && chkE c ei i && chkE c ex e
    | _ => false
  | .exp ex, st => match st with
    | .Expr e _ => notLc e && chkE c ex e
    | _ => false
  | .app j ex, st => match st with
    | .Expr (.Call (.Attribute (.Name x _) nm ap) [e] [] cp) _ => vis c j x && decide (nm = "append") && onLine ap cp && noStar e && chkE c ex e
    | _ => false
  | .rem j ex, st => match st with
    | .Expr (.Call (.Attribute (.Name x _) nm ap) [e] [] cp) _ => vis c j x && decide (nm = "remove") && onLine ap cp && noStar e && chkE c ex e
    | _ => false
  | .ext j ex, st => match st with
    | .Expr (.Call (.Attribute (.Name x _) nm ap) [e] [] cp) _ => vis c j x && decide (nm = "extend") && onLine ap cp && noStar e && chkE c ex e
    | _ => false
  | .ins j es, st => match st with
    | .Expr (.Call (.Attribute (.Name x _) nm ap) [e1, e2] [] cp) _ => vis c j x && decide (nm = "insert") && onLine ap cp && chkAs c es [e1, e2]
    | _ => false
  | .appI j ei m, st => match st with
    | .Expr (.Call (.Attribute (.Subscript (.Name x _) i _) nm ap) [.Name z _] [] cp) _ => vis c j x && vis c m z && decide (nm = "append") && noSlice i && onLine ap cp && chkE c ei i
    | _ => false
  | .ret ex, st => match st with
    | .Return (some e) _ => chkE c ex e
    | _ => false
  | .retN, st => match st with
    | .Return none _ => true
    | _ => false
  | .iff t a b, st => match st with
    | .If e as bs _ => chkT c t e && chkSs c a as && chkSs c b bs
    | _ => false
  | .fr tg it fg b, st => match st with
    | .For tge ie bs [] _ => chkG c tg tge && notSet ie && (itJ it).all (fun j => !(tgS tg ++ modSs b).contains j) && chkI c it ie && chkSs c b bs
    | _ => false
  | .frM tg j fg b, st => match st with
    | .For tge (.Name x _) bs [] _ => vis c j x && chkG c tg tge && !(tgS tg ++ modSs b).contains j && chkSs c b bs
    | _ => false
  | .frB x j fg b, st => match st with
    | .For tge (.Name y _) bs [] _ => vis c j y && chkG c (.nm x) tge && !(x :: modSs b).contains j && !(modSs b).contains x && chkSs c b bs
    | _ => false
  | .frT tg ex fg b, st => match st with
    | .For tge ie bs [] _ => chkG c tg tge && notSet ie && chkE c ex ie && chkSs c b bs
    | _ => false
  | .whl t fg b, st => match st with
    | .While e bs [] _ => chkT c t e && chkSs c b bs
    | _ => false
  | .bk, st => match st with
    | .Break _ => true
    | _ => false
  | .ct, st => match st with
    | .Continue _ => true
    | _ => false
  | .pass, st => match st with
    | .Pass _ => true
    | .Expr (.Constant (.str _) _ _) _ => true
    | _ => false
  | .rse n es, st => match st with
    | .Raise (some (.Call (.Name x _) xs [] _)) none _ => gln c x && decide (n.x = x) && isExc (c.gl.lookup x) n.fn && !xs.isEmpty && chkAs c es xs
    | _ => false
  | .callX m f es, st => match st with
    | .Expr (.Call (.Name x _) xs [] _) _ => isExp m && gln c x && isFn (c.gl.lookup x) f && !xs.isEmpty && chkAs c es xs
    | .Return (some (.Call (.Name x _) xs [] _)) _ => isRet m && gln c x && isFn (c.gl.lookup x) f && !xs.isEmpty && chkAs c es xs
    | .Assign [.Name y _] (.Call (.Name x _) xs [] _) _ => isAsg c m y && gln c x && isFn (c.gl.lookup x) f && !xs.isEmpty && chkAs c es xs
    | _ => false
  | .tryX b hs, st => match st with
    | .Try bs (eh :: ehs) [] [] _ => chkSs c b bs && chkHds c hs (eh :: ehs)
    | _ => false
def chkSs (c : Ctx) : List Stm → List Stmt → Bool
  | [], sts => sts.isEmpty
  | s :: ss, sts => match sts with
    | st :: sts => chkS c s st && chkSs c ss sts
    | _ => false
end
section
variable {T : Nat → Option Def} {k : Nat}
theorem chkLc_ok {c : Ctx} {X : Cx} {own : List Nat} {tg : Tg} {it : It} {t : Tx} {ex : Ex} {elt tge ie : Expr} {ifs : List Expr} {scope : Scope} {pos : Pos} (C : CO T k c X) (h : chkE c (.lc own tg it t ex) (.ListComp elt [⟨tge, ie, ifs, 0⟩] scope pos) = true) :
    LcOk T k c X own tg it t ex elt tge ie ifs scope := by
  unfold chkE at h
  simp only [Bool.and_eq_true] at h
  obtain ⟨⟨⟨⟨⟨⟨h1, h2⟩, h3⟩, h4⟩, h5⟩, h6⟩, h7⟩ := h
  have ok := C.blkOk h1
  refine ⟨ok, h3, fun i hi => ?_, chkI_ok it C h5, ?_, fun b => chkE_ok ex (C.blk ok b.s b.H b.A b.cl b.fp) h7, h4⟩
  · have := List.all_eq_true.mp h2 i hi
    simpa using this
  · split at h6
    · rw [isYes_of h6]
      exact ifs_nil
    · exact ifs_one fun b => chkT_ok t (C.blk ok b.s b.H b.A b.cl b.fp) h6
    · cases h6
theorem chkLcB_ok {c : Ctx} {X : Cx} {own : List Nat} {x j : Nat} {t : Tx} {ex : Ex} {elt tge : Expr} {y : Str} {py : Pos} {ifs : List Expr} {scope : Scope} {pos : Pos} (C : CO T k c X) (h : chkE c (.lcB own x j t ex) (.ListComp elt [⟨tge, .Name y py, ifs, 0⟩] scope pos) = true) :
    LcBOk T k c X own x j t ex elt tge y ifs scope := by
  unfold chkE at h
  simp only [Bool.and_eq_true, Bool.not_eq_true'] at h
  obtain ⟨⟨⟨⟨⟨⟨h1, h2⟩, h3⟩, h4⟩, h5⟩, h6⟩, h7⟩ := h
  have ok := C.blkOk h1
  refine ⟨ok, h4, by simpa using h2, by simpa using h3, h5, ?_, fun b => chkE_ok ex (C.blk ok b.s b.H b.A b.cl b.fp) h7⟩
  · split at h6
    · rw [isYes_of h6]
      exact ifs_nil
    · exact ifs_one fun b => chkT_ok t (C.blk ok b.s b.H b.A b.cl b.fp) h6
    · cases h6
theorem chkLcA_ok {c : Ctx} {X : Cx} {W : WX} {i : Nat} {x : Str} {py pos : Pos} {ex : Ex} {e : Expr} (C : CO T k c X) (h : chkLcA c i x py ex e = true) : VS T k X W (.asg (.nm i) ex) (.Assign [.Name x py] e pos) := by
  unfold chkLcA at h
  split at h
  · simp only [Bool.and_eq_true, Bool.not_eq_true'] at h
    obtain ⟨⟨⟨⟨h1, h2⟩, h3⟩, h4⟩, h5⟩ := h
    exact s_setLc C (of_decide_eq_true h1) (of_decide_eq_true h2) h3 h4 (chkLc_ok C h5)
  · simp only [Bool.and_eq_true, Bool.not_eq_true'] at h
    obtain ⟨⟨⟨⟨h1, h2⟩, h3⟩, h4⟩, h5⟩ := h
    exact s_setLcB C (of_decide_eq_true h1) (of_decide_eq_true h2) h3 h4 (chkLcB_ok C h5)
  · cases h
theorem chkLcC_ok {c : Ctx} {X : Cx} {W : WX} {i : Nat} {x : Str} {py pos : Pos} {ex : Ex} {e : Expr} (C : CO T k c X) (h : chkLcC c i x ex e = true) : VS T k X W (.asg (.nm i) ex) (.Assign [.Name x py] e pos) := by
  unfold chkLcC at h
  split at h
  · simp only [Bool.and_eq_true] at h
    obtain ⟨⟨h1, h2⟩, h5⟩ := h
    exact s_setCell C (of_decide_eq_true h1) (of_decide_eq_true h2) (chkE_ok _ C h5)
  · cases h
mutual
theorem chkS_ok : ∀ (s : Stm) {c : Ctx} {X : Cx} {W : WX} {st : Stmt}, CO T k c X → Top X W → chkS c s st = true → VS T k X W s st
  | .act m, c, X, W, st, C, tp, h => by unfold chkS at h; cases h
  | .asg (.nm i) ex, c, X, W, st, C, tp, h => by
    unfold chkS at h
    split at h
    · rw [Bool.or_eq_true, Bool.or_eq_true] at h
      rcases h with (h | h) | h
      · simp only [Bool.and_eq_true] at h
        exact s_set C h.1.1 h.1.2 (chkE_ok ex C h.2)
      · exact chkLcA_ok C h
      · exact chkLcC_ok C h
    · cases h
  | .asg (.tp is) ex, c, X, W, st, C, tp, h => by
    unfold chkS at h
    split at h
    · simp only [Bool.and_eq_true] at h
      exact s_tup C h.1.1 h.1.2 (chkE_ok ex C h.2)
    · cases h
  | .aug i p ex, c, X, W, st, C, tp, h => by
    unfold chkS at h
    split at h
    · simp only [Bool.and_eq_true, Bool.not_eq_true', decide_eq_false_iff_not] at h
      obtain ⟨⟨⟨⟨h1, h2⟩, h3⟩, h4⟩, h5⟩ := h
      exact s_aug C h1 h2 (of_decide_eq_true h3) h4 (chkE_ok ex C h5)
    · cases h
  | .setI j ei ex, c, X, W, st, C, tp, h => by
    unfold chkS at h
    split at h
    · simp only [Bool.and_eq_true] at h
      obtain ⟨⟨⟨h1, h2⟩, h3⟩, h4⟩ := h
      exact s_setI C h1 h2 (chkE_ok ei C h3) (chkE_ok ex C h4)
    · cases h
  | .augI j ei p ex, c, X, W, st, C, tp, h => by
    unfold chkS at h
    split at h
    · simp only [Bool.and_eq_true, Bool.not_eq_true', decide_eq_false_iff_not] at h
      obtain ⟨⟨⟨⟨⟨h1, h2⟩, h3⟩, h4⟩, h5⟩, h6⟩ := h
      exact s_augI C h1 h2 (of_decide_eq_true h3) h4 (chkE_ok ei C h5) (chkE_ok ex C h6)
    · cases h
  | .exp ex, c, X, W, st, C, tp, h => by
    unfold chkS at h
    split at h
    · rw [Bool.and_eq_true] at h
      exact s_exp h.1 (chkE_ok ex C h.2)
    · cases h
  | .app j ex, c, X, W, st, C, tp, h => by
    unfold chkS at h
    split at h
    · simp only [Bool.and_eq_true] at h
      obtain ⟨⟨⟨⟨h1, h2⟩, h3⟩, h4⟩, h5⟩ := h
      have h2 := of_decide_eq_true h2
      subst h2
      exact s_app C h1 h3 h4 (chkE_ok ex C h5)
    · cases h
  | .rem j ex, c, X, W, st, C, tp, h => by
    unfold chkS at h
    split at h
    · simp only [Bool.and_eq_true] at h
      obtain ⟨⟨⟨⟨h1, h2⟩, h3⟩, h4⟩, h5⟩ := h
      have h2 := of_decide_eq_true h2
      subst h2
      exact s_rem C h1 h3 h4 (chkE_ok ex C h5)
    · cases h
  | .ext j ex, c, X, W, st, C, tp, h => by
    unfold chkS at h
    split at h
    · simp only [Bool.and_eq_true] at h
      obtain ⟨⟨⟨⟨h1, h2⟩, h3⟩, h4⟩, h5⟩ := h
      have h2 := of_decide_eq_true h2
      subst h2
      exact s_ext C h1 h3 h4 (chkE_ok ex C h5)
    · cases h
  | .ins j es, c, X, W, st, C, tp, h => by
    unfold chkS at h
    split at h
    · simp only [Bool.and_eq_true] at h
      obtain ⟨⟨⟨h1, h2⟩, h3⟩, h4⟩ := h
      have h2 := of_decide_eq_true h2
      subst h2
      exact s_ins C h1 h3 (chkAs_ok es C h4)
    · cases h
  | .appI j ei m, c, X, W, st, C, tp, h => by
    unfold chkS at h
    split at h
    · simp only [Bool.and_eq_true] at h
      obtain ⟨⟨⟨⟨⟨h1, h2⟩, h3⟩, h4⟩, h5⟩, h6⟩ := h
      have h3 := of_decide_eq_true h3
      subst h3
      exact s_appI C h1 h2 h4 h5 (chkE_ok ei C h6)
    · cases h
  | .ret ex, c, X, W, st, C, tp, h => by
    unfold chkS at h
    split at h
    · exact s_ret (chkE_ok ex C h)
    · cases h
  | .retN, c, X, W, st, C, tp, h => by
    unfold chkS at h
    split at h
    · exact s_retN
    · cases h
  | .iff t a b, c, X, W, st, C, tp, h => by
    unfold chkS at h
    split at h
    · simp only [Bool.and_eq_true] at h
      exact s_iff (chkT_ok t C h.1.1) (chkSs_ok a C tp h.1.2) (chkSs_ok b C tp h.2)
    · cases h
  | .fr tg it fg b, c, X, W, st, C, tp, h => by
    unfold chkS at h
    split at h
    · rename_i tge ie bs p
      simp only [Bool.and_eq_true] at h
      obtain ⟨⟨⟨⟨h1, h2⟩, h3⟩, h4⟩, h5⟩ := h
      refine s_fr C h1 ?_ h3 tp.po (chkI_ok it C h4) (chkSs_ok b C tp h5)
      cases ie <;> first | rfl | (simp [notSet] at h2)
    · cases h
  | .frM tg j fg b, c, X, W, st, C, tp, h => by
    unfold chkS at h
    split at h
    · simp only [Bool.and_eq_true, Bool.not_eq_true'] at h
      exact s_frM C h.1.1.1 h.1.1.2 h.1.2 tp.po (chkSs_ok b C tp h.2)
    · cases h
  | .frB x j fg b, c, X, W, st, C, tp, h => by
    unfold chkS at h
    split at h
    · simp only [Bool.and_eq_true, Bool.not_eq_true'] at h
      exact s_frB C h.1.1.1.1 h.1.1.1.2 h.1.1.2 h.1.2 tp.po (chkSs_ok b C tp h.2)
    · cases h
  | .frT tg ex fg b, c, X, W, st, C, tp, h => by
    unfold chkS at h
    split at h
    · rename_i tge ie bs p
      simp only [Bool.and_eq_true] at h
      refine s_frT C h.1.1.1 ?_ tp.po (chkE_ok ex C h.1.2) (chkSs_ok b C tp h.2)
      have h2 := h.1.1.2
      cases ie <;> first | rfl | (simp [notSet] at h2)
    · cases h
  | .whl t fg b, c, X, W, st, C, tp, h => by
    unfold chkS at h
    split at h
    · rw [Bool.and_eq_true] at h
      exact s_whl tp.po (chkT_ok t C h.1) (chkSs_ok b C tp h.2)
    · cases h
  | .bk, c, X, W, st, C, tp, h => by
    unfold chkS at h
    split at h
    · exact s_bk
    · cases h
  | .ct, c, X, W, st, C, tp, h => by
    unfold chkS at h
    split at h
    · exact s_ct
    · cases h
  | .pass, c, X, W, st, C, tp, h => by
    unfold chkS at h
    split at h
    · exact s_pass
    · exact s_doc
    · cases h
  | .rse n es, c, X, W, st, C, tp, h => by
    unfold chkS at h
    split at h
    · simp only [Bool.and_eq_true, Bool.not_eq_true'] at h
      obtain ⟨⟨⟨⟨h1, h2⟩, h3⟩, h4⟩, h5⟩ := h
      obtain ⟨nx, nf⟩ := n
      have h2 := of_decide_eq_true h2
      subst h2
      obtain ⟨up, e⟩ := isExc_of h3
      exact s_rse C tp.tk h1 e h4 (chkAs_ok es C h5)
    · cases h
  | .callX m f es, c, X, W, st, C, tp, h => by
    unfold chkS at h
    split at h
    · simp only [Bool.and_eq_true, Bool.not_eq_true'] at h
      obtain ⟨⟨⟨⟨h1, h2⟩, h3⟩, h4⟩, h5⟩ := h
      cases m with
      | exp => exact s_callE C tp.tk h2 (isFn_of h3) h4 (chkAs_ok es C h5)
      | ret => cases h1
      | asg i => cases h1
      | asgP _ _ => cases h1
    · simp only [Bool.and_eq_true, Bool.not_eq_true'] at h
      obtain ⟨⟨⟨⟨h1, h2⟩, h3⟩, h4⟩, h5⟩ := h
      cases m with
      | ret => exact s_callR C tp.tk h2 (isFn_of h3) h4 (chkAs_ok es C h5)
      | exp => cases h1
      | asg i => cases h1
      | asgP _ _ => cases h1
    · simp only [Bool.and_eq_true, Bool.not_eq_true'] at h
      obtain ⟨⟨⟨⟨h1, h2⟩, h3⟩, h4⟩, h5⟩ := h
      cases m with
      | asg i => exact s_callA C tp.tk h1 h2 (isFn_of h3) h4 (chkAs_ok es C h5)
      | exp => cases h1
      | ret => cases h1
      | asgP _ _ => cases h1
    · cases h
  | .tryX b hs, c, X, W, st, C, tp, h => by
    unfold chkS at h
    split at h
    · rw [Bool.and_eq_true] at h
      exact s_try C tp (fun W pn xe t2 => chkSs_ok b (C.tr pn xe) t2 h.1) h.2
    · cases h
theorem chkSs_ok : ∀ (s : List Stm) {c : Ctx} {X : Cx} {W : WX} {st : List Stmt}, CO T k c X → Top X W → chkSs c s st = true → VSs T k X W s st
  | [], c, X, W, st, C, tp, h => by
    unfold chkSs at h
    have e : st = [] := by simpa using h
    subst e
    exact ss_nil
  | s :: ss, c, X, W, st, C, tp, h => by
    unfold chkSs at h
    split at h
    · rw [Bool.and_eq_true] at h
      exact ss_cons (chkS_ok s C tp h.1) (chkSs_ok ss C tp h.2)
    · cases h
end
end

end VE

end
section
set_option maxHeartbeats 2000000
/-! VEy2: a def that calls what it got. -/
namespace VE
open PySem PySem.Spec PyProof.Rows L2
variable [TC]
section
variable {T : Nat → Option Def} {k : Nat} {c : Ctx} {X : Cx} {W : WX}
def chkPre (a : Str) : List Cst → List Expr → Bool
  | [], [.Call (.Name z _) [] [] _] => decide (z = a)
  | q :: cs, .Constant u _ _ :: xs => eqCst u q && chkPre a cs xs
  | _, _ => false
def chkAct (c : Ctx) (a : Str) : CM → Stmt → Bool
  | .asg i, .Assign [.Name y _] (.Call (.Name z _) [] [] _) _ => loc c i y && decide (z = a)
  | .asgP i cs, .Assign [.Name y _] (.Tuple xs _ _) _ => loc c i y && decide (cs.length ≤ 900) && chkPre a cs xs
  | _, _ => false
def actN : CM → Ends → L2.St → V → Hp → Prop
  | .asg i, D, σ, v, H' => D.nx (σ.set i (some v)) H'
  | .asgP i cs, D, σ, v, H' => ∀ q, H' q = none → D.nx (σ.set i (some (.ref q))) (upd H' q (.tup (cs.map Cst.v ++ [v])))
  | _, _, _, _, _ => False
theorem pre_ok {a : Str} {ta : TE} (ha : ∀ p1 p2, PE X (.Call (.Name a p1) [] [] p2) ta) : ∀ {cs : List Cst} {xs : List Expr}, chkPre a cs xs = true → ∃ ts, PEL X xs ts ∧ ∀ σ H (Q : List V → Hp → Prop), ta σ H (fun v H' => Q (cs.map Cst.v ++ [v]) H') → tL ts σ H Q
  | [], xs, h => by
    unfold chkPre at h
    split at h
    · have h := of_decide_eq_true h
      subst h
      exact ⟨[ta], .cons rfl (ha _ _) .nil, fun σ H Q q => q⟩
    · rename_i e; cases e
    · cases h
  | q :: cs, xs, h => by
    unfold chkPre at h
    split at h
    · rename_i e; cases e
    · rename_i q' cs' u n p xs' e
      cases e
      rw [Bool.and_eq_true] at h
      obtain ⟨h1, h2⟩ := h
      obtain ⟨ts, p1, s1⟩ := pre_ok ha h2
      have pc : PE X (.Constant u n p) (tC q.v) := by
        cases u <;> cases q <;> simp [eqCst] at h1
        · exact pe_non
        · subst h1; exact pe_bl
        · subst h1; exact pe_int
        · subst h1; exact pe_str
      exact ⟨tC q.v :: ts, .cons rfl pc p1, fun σ H Q z => s1 σ H (fun vs H' => Q (q.v :: vs) H') z⟩
    · cases h
theorem act_ps (C : CO T k c X) {a : Str} {m : CM} {st : Stmt} (hc : chkAct c a m st = true) {ta : TE} (ha : ∀ p1 p2, PE X (.Call (.Name a p1) [] [] p2) ta) (hm : ∀ σ H Q Q', (∀ v H', Q v H' → Q' v H') → ta σ H Q → ta σ H Q') : PS X st (fun D σ H => ta σ H fun v H' => actN m D σ v H') := by
  have nd : X.N.Nodup := by rw [C.N]; exact C.nd
  unfold chkAct at hc
  split at hc
  · rename_i i y p1 z p2 p3 p4
    rw [Bool.and_eq_true] at hc
    obtain ⟨h1, h2⟩ := hc
    have h2 := of_decide_eq_true h2
    subst h2
    obtain ⟨v1, v2⟩ := loc_of h1
    have hN : X.N[i]? = some y := by rw [C.N]; exact v1
    have ps : PS X (.Assign [.Name y p1] (.Call (.Name z p2) [] [] p3) p4) (tAsg ta (gName i)) := by
      rcases v2 with v2 | v2
      · exact ps_set nd hN (.inl (C.loc y v2)) (ha _ _) (sw_not rfl) (.inr (C.loc y v2))
      · exact ps_set nd hN (.inr (C.cel y v2).1) (ha _ _) (sw_not rfl) (.inl (C.cel y v2).2)
    exact ps
  · rename_i i cs y p1 xs n p2 p3
    simp only [Bool.and_eq_true] at hc
    obtain ⟨⟨h1, hl⟩, h2⟩ := hc
    obtain ⟨v1, v2⟩ := loc_of h1
    have hN : X.N[i]? = some y := by rw [C.N]; exact v1
    obtain ⟨ts, q1, q2⟩ := pre_ok ha h2
    have ps : PS X (.Assign [.Name y p1] (.Tuple xs n p2) p3) (tAsg (tTup (tL ts)) (gName i)) := by
      rcases v2 with v2 | v2
      · exact ps_set nd hN (.inl (C.loc y v2)) (pe_tup q1.pa) (sw_not rfl) (.inr (C.loc y v2))
      · exact ps_set nd hN (.inr (C.cel y v2).1) (pe_tup q1.pa) (sw_not rfl) (.inl (C.cel y v2).2)
    refine ⟨fun pins s σ H D I h => ps.run pins s σ H D I (q2 σ H _ (hm σ H _ _ (fun v H' z => ⟨?_, fun q hq => z q hq⟩) h))⟩
    rw [List.length_append, List.length_map]
    have := of_decide_eq_true hl
    exact len1000 (by simp; omega)
  · cases hc
/-- read, the promise made weaker -/
theorem PE.weak {e : Expr} {te : TE} (h : PE X e te) : PE X e (fun σ H Q => ∃ Q0 : VK, te σ H Q0 ∧ ∀ v H', Q0 v H' → Q v H') := by
  refine ⟨fun pins s σ H Q I ⟨Q0, q, m⟩ => wpAny_mono (h.run pins s σ H Q0 I q) (fun u s' z => ?_) fun e s' z => z⟩
  obtain ⟨v, H', J, r, q⟩ := z
  exact ⟨v, H', J, r, m v H' q⟩
/-- a value that no call makes -/
def plainX : Ex → Bool
  | .var _ => true
  | .cst _ => true
  | .tup [.cst _, .var _] => true
  | _ => false
theorem plainX_cf {ex : Ex} (h : plainX ex = true) (cf cf' : CF) (Γ : En) : evE cf ex Γ = evE cf' ex Γ := by
  unfold plainX at h
  split at h
  · rfl
  · rfl
  · rfl
  · cases h
def GK.noFn : GK → Bool
  | .fn _ => false
  | .tld _ => false
  | _ => true
def glx (gl : List (Str × GK)) : List (Str × GK) := gl.filter fun p => p.2.noFn
/-- a filtered table tells no other -/
def glxOk (gl : List (Str × GK)) : Bool := (glx gl).all fun p => match gl.lookup p.1 with
  | some g => g.noFn && (match g, p.2 with
    | .cst _, .cst _ => true
    | .exc _ _, .exc _ _ => true
    | .bas, .bas => true
    | _, _ => false)
  | none => false
end
end VE

end
section
set_option maxHeartbeats 2000000
/-! VEy3: such a def keeps its promise. -/
namespace VE
open PySem PySem.Spec PyProof.Rows L2
variable [TC]
theorem lk_nodup {α β : Type} [BEq α] [LawfulBEq α] {x : α} {g : β} : ∀ {l : List (α × β)}, (l.map (·.1)).Nodup → (x, g) ∈ l → l.lookup x = some g
  | [], _, h => by cases h
  | (y, h) :: l, nd, m => by
    rw [List.map_cons, List.nodup_cons] at nd
    rcases List.mem_cons.mp m with e | m2
    · cases e
      rw [List.lookup_cons]
      simp
    · have ne : (x == y) = false := by
        cases hb : x == y with
        | false => rfl
        | true =>
          have : x = y := by simpa using hb
          subst this
          exact absurd (show x ∈ l.map (fun z => z.1) from List.mem_map.mpr ⟨(x, g), m2, rfl⟩) nd.1
      rw [List.lookup_cons, ne]
      exact lk_nodup nd.2 m2
theorem glx_lk {gl : List (Str × GK)} (nd : (gl.map (·.1)).Nodup) {x : Str} {g : GK} (h : (glx gl).lookup x = some g) : gl.lookup x = some g ∧ g.noFn = true := by
  have m := lk_mem h
  unfold glx at m
  rw [List.mem_filter] at m
  exact ⟨lk_nodup nd m.1, m.2⟩
theorem tab_glx {T T' : Nat → Option Def} {gl : List (Str × GK)} {bi : List Str} {P : Program} {w : World} {K : PySem.W.Frag} {mg : Str → Option Value} {base : Heap} {k k' : Nat} (nd : (gl.map (·.1)).Nodup)
    (h1 : ∀ x c, gl.lookup x = some (.cst c) → ∃ u, mg x = some u ∧ RelV c.v u) (h2 : ∀ x, x ∈ bi → mg x = none) (h3 : ∀ y g, gl.lookup y = some g → g.isCl = true → ∃ Cy, mg y = some Cy)
    (h4 : ∀ x fn up, gl.lookup x = some (.exc fn up) → ∃ C, XcAt P w K mg base x fn C ∧ ∀ y g Cy, gl.lookup y = some g → g.isCl = true → mg y = some Cy → PySem.W.exmOne K (.ref C) Cy = some (up.contains y)) : TabOk T' (glx gl) bi P w K mg base k' := by
  refine ⟨fun x c e => h1 x c (glx_lk nd e).1, fun x i e => absurd (glx_lk nd e).2 (by simp [GK.noFn]), fun x i e => absurd (glx_lk nd e).2 (by simp [GK.noFn]), h2, fun y g e hc => h3 y g (glx_lk nd e).1 hc, fun x fn up e => ?_⟩
  obtain ⟨C, a, b⟩ := h4 x fn up (glx_lk nd e).1
  exact ⟨C, a, fun y g Cy e2 hc my => b y g Cy (glx_lk nd e2).1 hc my⟩
theorem env_none {H : Hp} (hT : LamX.Tabs TC.T H) : ∀ (σ : L2.St), REnv H (List.replicate σ.length none) σ Fp.zero
  | [] => by
    show REnv H [] [] _
    unfold REnv
    exact ⟨rfl, rfl, hT⟩
  | x :: σ => by
    show REnv H (none :: List.replicate σ.length none) (x :: σ) _
    unfold REnv
    exact ⟨x, σ, rfl, env_none hT σ⟩
def T0 : Nat → Option Def := fun _ => none
section
variable {c : Ctx} {X : Cx} {p : Def} {m : CM} {hs : List Hd} {ex : Ex}
/-- the end: return ex -/
theorem ret_fin {Xm : Str → Option Value} {W : WX} {H0 H : Hp} {g0 g : Fp} {σ : L2.St} {ms : List Nat} {Q : VK} {D : Ends} {Γ : En} {cf : CF} (hx : plainX ex = true) (hD : D.rt = Q) (S : Step H0 g0 H g)
    (h : FPn H0 g0 Q (leave p (exSs cf [.ret ex] Γ))) : PSt Xm W H g σ ms D (exSs (run T0 0) [.ret ex] Γ) := by
  have e : exSs (run T0 0) [.ret ex] Γ = exSs cf [.ret ex] Γ := by
    show (kRet (evE (run T0 0) ex Γ)).seq _ = (kRet (evE cf ex Γ)).seq _
    rw [plainX_cf hx (run T0 0) cf Γ]
    rfl
  rw [e]
  have e2 : exSs cf [.ret ex] Γ = (kRet (evE cf ex Γ)).seq fun Γ1 => .nx Γ1 := rfl
  rw [e2] at h ⊢
  cases hv : evE cf ex Γ with
  | bad => rw [hv] at h; exact h.elim
  | ex _ _ _ => rw [hv] at h; exact h.elim
  | ok d Γ1 =>
    rw [hv] at h
    intro v σ' H' g' f' r en' G' S' ag
    rw [hD]
    exact h v H' g' r (G'.le (Fp.le_addL _ _)) (S.trans (S'.less (Fp.le_addL _ _)))
/-- what a def that calls what it got looks like -/
structure ToldIs (c : Ctx) (a : Str) (p : Def) (m : CM) (hs : List Hd) (ex : Ex) (sa : Stmt) (eh : ExceptHandler) (ehs : List ExceptHandler) (e : Expr) : Prop where
  body : p.body = [.tryX [.act m] hs, .ret ex]
  ns : p.ns = c.N.length
  act : chkAct c a m sa = true
  hds : chkHds c hs (eh :: ehs) = true
  pl : plainX ex = true
  ret : chkE c ex e = true
theorem told_try {X : Cx} {c : Ctx} {a : Str} {p : Def} {m : CM} {hs : List Hd} {ex : Ex} {sa : Stmt} {eh : ExceptHandler} {ehs : List ExceptHandler} {e : Expr} (I : ToldIs c a p m hs ex sa eh ehs e) (C : CO T0 0 c X) (hst : X.stack = X.env :: X.outer) (hf : X.env.frame = some X.env.locals)
    (tk0 : Takes X (fun _ _ _ _ => False)) {pos pos2 : Pos} {ta : XK → Hp → VK → Prop} {h0 : L2.St → Hp → Prop}
    (act : ∀ (W : WX) (pn : List (Addr × Obj)) (xe : Value → Shared → Prop) (E : XK) (p1 p2 : Pos), Takes (X.tr pn xe) W → (∀ cls d σ' H', E cls d H' → W cls d σ' H') → PE (X.tr pn xe) (.Call (.Name a p1) [] [] p2) (fun σZ HZ Q => h0 σZ HZ ∧ ta E HZ Q)) :
    ∃ t, PSs X [.Try [sa] (eh :: ehs) [] [] pos, .Return (some e) pos2] t ∧ ∀ (Dn : Ends) (σ : L2.St) (H : Hp) (Q : VK) (E : XK) (Qv : VK), Dn.rt = Q → σ.length = c.N.length → h0 σ H → ta E H Qv →
      (∀ v H', Qv v H' → ∃ d g, Rep H' d v g ∧ Good g ∧ LamX.Tabs TC.T H' ∧ FPn H' g Q (toldRun p [.tup [d]])) →
      (∀ Cl dx H', E Cl dx H' → ∃ (c : Xn) (d : D) (x : Addr), X.mg c.x = some Cl ∧ dx = some x ∧ H' x = some (.xd [(c.fn, xv d)]) ∧ flat d = true ∧ LamX.Tabs TC.T H' ∧ FPn H' Fp.zero Q (toldRun p [.tup [.str c.x, .str c.fn, d]])) → t Dn σ H := by
  obtain ⟨tr, pr, sr⟩ := s_ret (pos := pos2) (W := fun _ _ _ _ => False) (chkE_ok ex C I.ret)
  obtain ⟨rs, cl, sc⟩ := hds_ok (W := fun _ _ _ _ => False) C I.hds
  have nd : X.N.Nodup := by rw [C.N]; exact C.nd
  have tryPS := ps_tryCl (X := X) (body := [sa]) (pos := pos) (tb := fun W D σ H => ∃ (E : XK), (∀ cls d σ' H', σ'.length = X.N.length → E cls d H' → W cls d σ' H') ∧ ∃ Q0 : VK, (h0 σ H ∧ ta E H Q0) ∧ ∀ v H', Q0 v H' → actN m D σ v H') hst hf nd tk0 (fun W pn xe tk po => by
      refine ⟨fun pins s σ H D Iv hq => ?_⟩
      obtain ⟨E, hW, Q0, hq0, hq1⟩ := hq
      have pe := fun p1 p2 => PE.weak (act (fun cl d σ' H' => σ'.length = X.N.length → W cl d σ' H') pn xe E p1 p2 (takesLen tk) (fun cls d σ' H' he hl => hW cls d σ' H' hl he))
      have ps := act_ps (C.tr pn xe) I.act pe (fun σ H Q Q' hm ⟨Q1, z1, z2⟩ => ⟨Q1, z1, fun v H' z => hm v H' (z2 v H' z)⟩)
      exact (pss_one ps).run pins s σ H D Iv ⟨Q0, hq0, hq1⟩) cl
  refine ⟨_, pss_cons tryPS (pss_one pr), fun Dn σ H Q E Qv hD hl hh hta hP hE => ?_⟩
  -- what stands behind the try
  have post : ∀ {H0 H2 : Hp} {g0 g2 : Fp} {σ2 : L2.St} {Γ2 : En} {cf : CF}, REnv H2 Γ2 σ2 g2 → Good g2 → Step H0 g0 H2 g2 → FPn H0 g0 Q (leave p (exSs cf [.ret ex] Γ2)) → tr Dn σ2 H2 := fun {H0 H2 g0 g2 σ2 Γ2 cf} en G S q => by
    refine sr Γ2 σ2 H2 g2 Dn en G ?_
    have := ret_fin (Xm := X.mg) (W := fun _ _ _ _ => False) (ms := []) (σ := σ2) (D := Dn) I.pl hD S q
    have e1 : exSs (run T0 0) [.ret ex] Γ2 = (exS (run T0 0) (.ret ex) Γ2).seq fun Γ1 => .nx Γ1 := rfl
    rw [e1] at this
    cases hx : exS (run T0 0) (.ret ex) Γ2 with
    | rt d Γ => rw [hx] at this; exact this
    | nx Γ => rw [hx] at this; exact this
    | bk Γ => rw [hx] at this; exact this
    | ct Γ => rw [hx] at this; exact this
    | ex c ds Γ => rw [hx] at this; exact this
    | bad => rw [hx] at this; exact this
  refine ⟨E, fun Cl dx σ' H' hl' he => ?_, Qv, ⟨hh, hta⟩, fun v H' hv => ?_⟩
  · obtain ⟨cn, d, x, hm, rfl, hx, hfl, hT, hF⟩ := hE Cl dx H' he
    have er : toldRun p [.tup [.str cn.x, .str cn.fn, d]] = leave p ((kTry hs (.ex cn [d] (List.replicate p.ns none))).seq fun Γ1 => exSs (cfP (.ex cn [d] [])) [.ret ex] Γ1) := by
      show leave p (exSs (cfP (.ex ⟨cn.x, cn.fn⟩ [d] [])) p.body (List.replicate p.ns none)) = _
      rw [I.body]
      rfl
    rw [er] at hF
    have ek : kTry hs (.ex cn [d] (List.replicate p.ns none)) = kHds cn d (List.replicate p.ns none) hs := by
      show (if flat d = true then kHds cn d (List.replicate p.ns none) hs else .bad) = _
      rw [if_pos hfl]
    rw [ek] at hF
    have en : REnv H' (List.replicate p.ns none) σ' Fp.zero := by
      have := env_none hT σ'
      rw [hl', C.N, ← I.ns] at this
      exact this
    have pst : PSt X.mg (fun _ _ _ _ => False) H' Fp.zero σ' (hs.flatMap fun h => h.sl.toList ++ h.to.toList) { Dn with nx := tr Dn } (kHds cn d (List.replicate p.ns none) hs) := by
      cases hk : kHds cn d (List.replicate p.ns none) hs with
      | nx Γ1 =>
        rw [hk] at hF
        exact fun σ2 H2 f2 en2 G2 S2 _ => post en2 G2 S2 hF
      | rt d2 Γ1 =>
        rw [hk] at hF
        intro v σ2 H2 g2 f2 r2 en2 G2 S2 _
        show Dn.rt v H2
        rw [hD]
        exact hF v H2 g2 r2 (G2.le (Fp.le_addL _ _)) (S2.less (Fp.le_addL _ _))
      | bk Γ1 => rw [hk] at hF; exact hF.elim
      | ct Γ1 => rw [hk] at hF; exact hF.elim
      | ex _ _ _ => rw [hk] at hF; exact hF.elim
      | bad => rw [hk] at hF; exact hF.elim
    obtain ⟨u, hlk⟩ := found I.hds pst
    obtain ⟨Ca, xc, hxx⟩ := C.tab.exc _ _ _ hlk
    have : Cl = .ref Ca := by
      have := xc.at_
      rw [hm] at this
      exact Option.some.inj this
    subst this
    exact sc cn u d _ σ' σ' H' H' Fp.zero Fp.zero _ _ Ca x xc hxx hlk en Good.zero (Step.refl _ _) (Ag.refl _ _) (fun i q => q) hx hfl pst
  · obtain ⟨d, g, rd, G, hT, hF⟩ := hP v H' hv
    have er : toldRun p [.tup [d]] = leave p ((kTry hs ((kCM m d (List.replicate p.ns none)).seq fun Γ1 => .nx Γ1)).seq fun Γ1 => exSs (cfP (.ok d [])) [.ret ex] Γ1) := by
      show leave p (exSs (cfP (.ok d [])) p.body (List.replicate p.ns none)) = _
      rw [I.body]
      rfl
    rw [er] at hF
    have en : REnv H' (List.replicate p.ns none) σ Fp.zero := by
      have := env_none hT σ
      rw [hl, ← I.ns] at this
      exact this
    cases m with
    | exp => exact absurd I.act (by simp [chkAct])
    | ret => exact absurd I.act (by simp [chkAct])
    | asg i =>
      obtain ⟨f2, en2, l2⟩ := en.put1 (i := i) rd
      rw [Fp.add_zero] at l2
      exact post en2 (G.le l2) ((Step.refl _ _).less l2) hF
    | asgP i cs =>
      intro q hq
      have zq : g.at q = 0 := by
        by_cases z : 0 < g.at q
        · obtain ⟨u, hu, _⟩ := Rep.dom d rd q z
          rw [hq] at hu; cases hu
        · omega
      have kp : ∀ b u, H' b = some u → upd H' q (.tup (cs.map Cst.v ++ [v])) b = some u := fun b u hu => by
        rw [upd_ne (ne_of_none hu hq)]
        exact hu
      have rc : ∀ cs : List Cst, RepL H' (cs.map Cst.d) (cs.map Cst.v) Fp.zero := fun cs => by
        induction cs with
        | nil => exact RepL.nil
        | cons x xs ih =>
          have := RepL.cons (rep_cst (H := H') x) ih
          rw [Fp.zero_add] at this
          exact this
      have rl : RepL H' (cs.map Cst.d ++ [d]) (cs.map Cst.v ++ [v]) g := by
        have := (rc cs).append (RepL.cons rd RepL.nil)
        rw [Fp.add_zero, Fp.zero_add] at this
        exact this
      have rt : Rep (upd H' q (.tup (cs.map Cst.v ++ [v]))) (.tup (cs.map Cst.d ++ [d])) (.ref q) (g.sh q) := by
        unfold Rep
        exact ⟨q, _, g, rfl, rep_upd rl hq, .inl upd_same, rfl⟩
      have enq : REnv (upd H' q (.tup (cs.map Cst.v ++ [v]))) (List.replicate p.ns none) σ Fp.zero := en.mono (fun b u hu _ => kp b u hu) fun t => t.ext kp
      obtain ⟨f2, en2, l2⟩ := enq.put1 (i := i) rt
      rw [Fp.add_zero] at l2
      have Gq : Good (g.sh q) := ⟨fun b => by
        have := G.g b
        unfold Fp.at at zq
        unfold Fp.sh one
        simp only
        refine ⟨by omega, fun y => ?_⟩
        have := this.2 (by omega)
        by_cases hb : b = q
        · subst hb
          omega
        · rw [if_neg hb]
          omega⟩
      have Sq : Step H' g (upd H' q (.tup (cs.map Cst.v ++ [v]))) (g.sh q) := ⟨fun b u hu _ _ => kp b u hu, fun t => t.ext kp, fun _ z => .inl z, fun _ z => .inl (by unfold Fp.sh at z; simp only at z; omega), fun b z => by
        by_cases hb : b = q
        · subst hb
          exact .inr (.inl hq)
        · unfold Fp.sh one at z
          simp only [if_neg hb] at z
          exact .inl (by omega)⟩
      exact post en2 (Gq.le l2) (Sq.less l2) hF
end
end VE

end
section
set_option maxHeartbeats 2000000
/-! VEy4: such a def, as the lambda's maker asks for it. -/
namespace VE
open PySem PySem.Spec PyProof.Rows L2
variable [TC]
theorem start_len {N : List Str} {v : V} (h : N[0]? = some a) : (L2.start N [v]).length = N.length := by
  cases N with
  | nil => simp at h
  | cons x N => simp [L2.start]
theorem start_0 {N : List Str} {v : V} : (L2.start N [v])[0]? = some (some v) := rfl
theorem told_ok {X : Cx} {p : Def} {m : CM} {hs : List Hd} {ex : Ex} {sa : Stmt} {eh : ExceptHandler} {ehs : List ExceptHandler} {e : Expr} {Ng : List Str} {x a q : Str} {sg : Scope} {g : Addr} {cdv : Value} {gl : List (Str × GK)} {bi : List Str} {pos pos2 : Pos} (S : FnScope Ng [a] sg) (hN : Ng[0]? = some a)
    (I : ToldIs ⟨Ng, sg, gl, bi, false⟩ a p m hs ex sa eh ehs e) (tab : TabOk T0 gl bi X.prog X.w X.K X.mg X.base 0) (hr : Room 25 X.A) :
    LamX.GivesTo X Ng x sg g cdv [.Try [sa] (eh :: ehs) [] [] pos, .Return (some e) pos2] a q (TTv p X.mg) := by
  intro f c' s H Q tl act hco hTT
  obtain ⟨E, Qv, h1, h2, h3⟩ := hTT
  have C : CO T0 0 ⟨Ng, sg, gl, bi, false⟩ (cxOf C8.CX0 X.prog X.w X.K X.mg X.base Ng x sg g cdv X.A X.stack s H C8.E0).nox :=
    ⟨rfl, S.nd, fun x h => h, fun x h => h, fun x h => ⟨h, rfl⟩, fun x h => h, fun x h => h, S.kind, rfl, hr.deeper _, (fun z => absurd z (by simp)), tab⟩
  obtain ⟨t, ps, st⟩ := told_try (X := (cxOf C8.CX0 X.prog X.w X.K X.mg X.base Ng x sg g cdv X.A X.stack s H C8.E0).nox) (h0 := fun σZ HZ => σZ[0]? = some (some (.ref f)) ∧ HZ c' = some (LamX.CodeO c' q)) (ta := tl) (pos := pos) (pos2 := pos2) I C rfl rfl LamX.takes0 (fun W pn xe E p1 p2 tk hW => by
    have hp := act W pn xe E p1 p2 tk hW
    refine ⟨fun pins s σ H Q I h => hp.run pins s σ H Q I ⟨h.1.1, h.1.2, h.2⟩⟩)
  exact ⟨t, ps, st _ _ H Q E Qv rfl (start_len hN) ⟨start_0, hco⟩ h1 h2 h3⟩
theorem told_ok2 {X : Cx} {p : Def} {m : CM} {hs : List Hd} {ex : Ex} {sa : Stmt} {eh : ExceptHandler} {ehs : List ExceptHandler} {e : Expr} {Ng : List Str} {x a q y : Str} {sg : Scope} {g : Addr} {cdv : Value} {gl : List (Str × GK)} {bi : List Str} {i : Nat} {nk : Nat} {pos pos2 p1 p2 p3 : Pos} (S : FnScope Ng [a] sg) (hN : Ng[0]? = some a)
    (I : ToldIs ⟨Ng, sg, gl, bi, false⟩ a p m hs ex sa eh ehs e) (hl : loc ⟨Ng, sg, gl, bi, false⟩ i y = true) (hi : i ≠ 0) (tab : TabOk T0 gl bi X.prog X.w X.K X.mg X.base 0) (hr : Room 25 X.A) :
    LamX.GivesTo X Ng x sg g cdv [.Assign [.Name y p1] (.Constant .none nk p2) p3, .Try [sa] (eh :: ehs) [] [] pos, .Return (some e) pos2] a q (TTv p X.mg) := by
  intro f c' s H Q tl act hco hTT
  obtain ⟨E, Qv, h1, h2, h3⟩ := hTT
  have C : CO T0 0 ⟨Ng, sg, gl, bi, false⟩ (cxOf C8.CX0 X.prog X.w X.K X.mg X.base Ng x sg g cdv X.A X.stack s H C8.E0).nox :=
    ⟨rfl, S.nd, fun x h => h, fun x h => h, fun x h => ⟨h, rfl⟩, fun x h => h, fun x h => h, S.kind, rfl, hr.deeper _, (fun z => absurd z (by simp)), tab⟩
  obtain ⟨t, ps, st⟩ := told_try (X := (cxOf C8.CX0 X.prog X.w X.K X.mg X.base Ng x sg g cdv X.A X.stack s H C8.E0).nox) (h0 := fun σZ HZ => σZ[0]? = some (some (.ref f)) ∧ HZ c' = some (LamX.CodeO c' q)) (ta := tl) (pos := pos) (pos2 := pos2) I C rfl rfl LamX.takes0 (fun W pn xe E p1 p2 tk hW => by
    have hp := act W pn xe E p1 p2 tk hW
    refine ⟨fun pins s σ H Q I h => hp.run pins s σ H Q I ⟨h.1.1, h.1.2, h.2⟩⟩)
  obtain ⟨v1, v2⟩ := loc_of hl
  have ps0 : PS (cxOf C8.CX0 X.prog X.w X.K X.mg X.base Ng x sg g cdv X.A X.stack s H C8.E0).nox (.Assign [.Name y p1] (.Constant .none nk p2) p3) (tAsg (tC .non) (gName i)) := by
    rcases v2 with v2 | v2
    · exact ps_set S.nd v1 (.inl (C.loc y v2)) pe_non (sw_not rfl) (.inr (C.loc y v2))
    · exact ps_set S.nd v1 (.inr (C.cel y v2).1) pe_non (sw_not rfl) (.inl (C.cel y v2).2)
  have hs : ((L2.start Ng [.ref f]).set i (some .non))[0]? = some (some (.ref f)) := by
    rw [List.getElem?_set_ne hi]
    exact start_0
  exact ⟨_, pss_cons ps0 ps, st _ _ H Q E Qv rfl (by rw [List.length_set]; exact start_len hN) ⟨hs, hco⟩ h1 h2 h3⟩
end VE

end
section
set_option maxHeartbeats 2000000
/-! VEp: defs; the table of a law. -/
namespace VE
open PySem PySem.Spec PyProof.Rows L2
variable [TC]
/-! ### defs -/
/-- a def of the module: its name, its text, its parameters, its slots, its reading -/
structure Row where
  x : Str
  st : Stmt
  ps : List Str
  N : List Str
  d : Def
  lm : Bool
def ioOk (io : List Bool) (ms : List Nat) : Bool := (List.range io.length).all fun i => !(io.getD i false) || !ms.contains i
def chkD (gl : List (Str × GK)) (bi : List Str) (r : Row) : Bool :=
  C8.scC r.N r.ps (defScope r.st) && decide (r.d.np = r.ps.length) && decide (r.d.io.length = r.ps.length) && decide (r.d.ns = r.N.length) && ioOk r.d.io (modSs r.d.body) && chkSs ⟨r.N, defScope r.st, gl, bi, r.lm⟩ r.d.body (defBody r.st) && r.d.kd.isPlain
/-- a def that calls what it got: try, then return -/
def toldB (c : Ctx) (a : Str) : List Stm → List Stmt → Bool
  | [.tryX [.act m] hs, .ret ex], [.Try [sa] (eh :: ehs) [] [] _, .Return (some e) _] => chkAct c a m sa && chkHds c hs (eh :: ehs) && plainX ex && chkE c ex e
  | [.tryX [.act m] hs, .ret ex], [.Assign [.Name y _] (.Constant .none _ _) _, .Try [sa] (eh :: ehs) [] [] _, .Return (some e) _] => chkAct c a m sa && chkHds c hs (eh :: ehs) && plainX ex && chkE c ex e && loc c (c.N.idxOf y) y && decide (c.N.idxOf y ≠ 0)
  | _, _ => false
def chkTold (gl : List (Str × GK)) (bi : List Str) (r : Row) : Bool := match r.ps with
  | [a] => C8.scC r.N [a] (defScope r.st) && decide (r.d.np = 1) && decide (r.d.ns = r.N.length) && vis ⟨r.N, defScope r.st, glx gl, bi, false⟩ 0 a && r.d.kd.isTold && toldB ⟨r.N, defScope r.st, glx gl, bi, false⟩ a r.d.body (defBody r.st)
  | _ => false
def chkR (gl : List (Str × GK)) (bi : List Str) (r : Row) : Bool := chkD gl bi r || chkTold gl bi r
theorem toldB_of {c : Ctx} {a : Str} {p : Def} {bs : List Stmt} (h : toldB c a p.body bs = true) (hn : p.ns = c.N.length) : ∃ m hs ex sa eh ehs e p1 p2, (bs = [.Try [sa] (eh :: ehs) [] [] p1, .Return (some e) p2] ∨ ∃ y i nk q1 q2 q3, bs = [.Assign [.Name y q1] (.Constant .none nk q2) q3, .Try [sa] (eh :: ehs) [] [] p1, .Return (some e) p2] ∧ loc c i y = true ∧ i ≠ 0) ∧ ToldIs c a p m hs ex sa eh ehs e := by
  unfold toldB at h
  split at h
  · rename_i m hs ex sa eh ehs p1 e p2 hb
    simp only [Bool.and_eq_true] at h
    obtain ⟨⟨⟨h1, h2⟩, h3⟩, h4⟩ := h
    exact ⟨m, hs, ex, sa, eh, ehs, e, p1, p2, .inl rfl, hb, hn, h1, h2, h3, h4⟩
  · rename_i m hs ex y q1 nk q2 q3 sa eh ehs p1 e p2 hb
    simp only [Bool.and_eq_true, decide_eq_true_eq] at h
    obtain ⟨⟨⟨⟨⟨h1, h2⟩, h3⟩, h4⟩, h5⟩, h6⟩ := h
    exact ⟨m, hs, ex, sa, eh, ehs, e, p1, p2, .inr ⟨y, _, nk, q1, q2, q3, rfl, h5, h6⟩, hb, hn, h1, h2, h3, h4⟩
  · cases h
/-- a def in which lambdas are made: its code object and the table -/
def LamAt (K : PySem.W.Frag) (mg : Str → Option Value) (base : Heap) (r : Row) : Prop := ∃ c P, (∀ f o fd, mg r.x = some (.ref f) → K.lookup f = some o → o.data = .func fd → fd.code = .ref c) ∧ LamX.TabB base mg c P ∧ (P, (r.x ++ ".<locals>.") ++ "<lambda>") ∈ TC.T ∧ ∀ p ∈ TC.T, p.1 = P → p.2 = (r.x ++ ".<locals>.") ++ "<lambda>"
def LamsAt (K : PySem.W.Frag) (mg : Str → Option Value) (base : Heap) (rows : List Row) : Prop := ∀ r, r ∈ rows → r.lm = true → LamAt K mg base r
section
variable {H : Hp}
theorem enter_ok (hT : LamX.Tabs TC.T H) : ∀ {ds : List D} {vs : List V} {f : Fp} (n : Nat), RepL H ds vs f → REnv H (ds.map some ++ List.replicate n none) (vs.map some ++ List.replicate n none) f
  | [], vs, f, n, h => by
    obtain ⟨rfl, rfl⟩ := h.inv0
    show REnv H (List.replicate n none) (List.replicate n none) Fp.zero
    induction n with
    | zero => unfold REnv; exact ⟨rfl, rfl, hT⟩
    | succ n ih =>
      rw [List.replicate_succ, List.replicate_succ]
      unfold REnv
      exact ⟨_, _, rfl, ih⟩
  | d :: ds, vs, f, n, h => by
    obtain ⟨v, r, g, h', rfl, r1, r2, rfl⟩ := h.inv
    show REnv H (some d :: (ds.map some ++ List.replicate n none)) (some v :: (r.map some ++ List.replicate n none)) _
    unfold REnv
    exact ⟨v, _, g, h', rfl, r1, enter_ok hT n r2, rfl⟩
theorem fin_ok : ∀ {io : List Bool} {Γ : En} {σ : L2.St} {vs : List V} {f : Fp}, REnv H Γ σ f → io.length = vs.length → (∀ i : Nat, io[i]? = some true → ∀ v : V, vs[i]? = some v → σ[i]? = some (some v)) → ∃ g : Fp, RepL H (finL io Γ) vs g ∧ g.le f
  | [], Γ, σ, vs, f, h, l, k => by
    have e : vs = [] := List.length_eq_zero_iff.mp l.symm
    subst e
    refine ⟨Fp.zero, ?_, fun a => ⟨Nat.zero_le _, Nat.zero_le _, Nat.zero_le _⟩⟩
    unfold finL
    exact RepL.nil
  | b :: bs, Γ, σ, [], f, h, l, k => by cases l
  | b :: bs, [], σ, v :: vs, f, h, l, k => by
    have q := h
    unfold REnv at q
    obtain ⟨rfl, rfl, _⟩ := q
    obtain ⟨g, r, lg⟩ := fin_ok (io := bs) (vs := vs) h (by simpa using l) fun i hi v hv => by
      have := k (i + 1) (by simpa using hi) v (by simpa using hv)
      simp at this
    refine ⟨g, ?_, lg⟩
    have e : finL (b :: bs) [] = .gone :: finL bs [] := by
      show (if b = true then D.gone else .gone) :: finL bs [] = _
      split <;> rfl
    rw [e, ← Fp.zero_add g]
    exact RepL.cons (by unfold Rep; rfl) r
  | b :: bs, o :: Γ, σ, v :: vs, f, h, l, k => by
    have rest : ∃ σ' f', REnv H Γ σ' f' ∧ σ.tail = σ' ∧ f'.le f := by
      cases o with
      | none =>
        unfold REnv at h
        obtain ⟨y, r, rfl, q⟩ := h
        exact ⟨r, f, q, rfl, Fp.le.refl _⟩
      | some d =>
        unfold REnv at h
        obtain ⟨w, r, g, h', rfl, q1, q2, rfl⟩ := h
        exact ⟨r, h', q2, rfl, Fp.le_addR _ _⟩
    obtain ⟨σ', f', q, e, l2⟩ := rest
    have ks : ∀ i : Nat, bs[i]? = some true → ∀ w : V, vs[i]? = some w → σ'[i]? = some (some w) := fun i hi w hw => by
      have := k (i + 1) (by simpa using hi) w (by simpa using hw)
      rw [← e, List.getElem?_tail]
      exact this
    have goneCase : finL (b :: bs) (o :: Γ) = .gone :: finL bs Γ → ∃ g, RepL H (finL (b :: bs) (o :: Γ)) (v :: vs) g ∧ g.le f := fun e2 => by
      obtain ⟨g, r, lg⟩ := fin_ok (io := bs) (vs := vs) q (by simpa using l) ks
      refine ⟨g, ?_, lg.trans l2⟩
      rw [e2, ← Fp.zero_add g]
      exact RepL.cons (by unfold Rep; rfl) r
    cases b with
    | false => exact goneCase rfl
    | true =>
      cases o with
      | none => exact goneCase rfl
      | some d =>
        unfold REnv at h
        obtain ⟨w, r, g0, h', rfl, q1, q2, rfl⟩ := h
        have hw := k 0 rfl v rfl
        have hw : w = v := by simpa using hw
        subst hw
        cases e
        obtain ⟨g, rr, lg⟩ := fin_ok (io := bs) (vs := vs) q2 (by simpa using l) ks
        refine ⟨g0.add g, ?_, add_mono (Fp.le.refl _) lg⟩
        show RepL H (d :: finL bs Γ) (w :: vs) _
        exact RepL.cons q1 rr
end
/-- a def at a fragment -/
def FunAt (K : PySem.W.Frag) (r : Row) : Prop := ∃ (f : Addr) (oc : Value) (od : Option Addr) (kV doc pm : Value) (an : Option Addr) (cdv ct : Value) (osl : Array (Option Value)),
  PySem.W.nsIn K mainGlobals r.x = some (some (.ref f)) ∧ K.lookup f = some ⟨oc, od, .func (PySem.W.fnOf r.x r.x (defArgs r.st) (defBody r.st) (defScope r.st) .none kV doc pm an cdv ct), osl⟩ ∧ PySem.W.codeIn K cdv r.x = true ∧ PySem.W.keepIn K (.ref f) = true
theorem fun_at {K : PySem.W.Frag} {r : Row} {f : Addr} {oc : Value} {od : Option Addr} {kV doc pm : Value} {an : Option Addr} {cdv ct : Value} {osl : Array (Option Value)} (a : PySem.W.nsIn K mainGlobals r.x = some (some (.ref f)))
    (l : K.lookup f = some ⟨oc, od, .func (PySem.W.fnOf r.x r.x (defArgs r.st) (defBody r.st) (defScope r.st) .none kV doc pm an cdv ct), osl⟩) (c : PySem.W.codeIn K cdv r.x = true) (k : PySem.W.keepIn K (.ref f) = true) : FunAt K r := ⟨f, oc, od, kV, doc, pm, an, cdv, ct, osl, a, l, c, k⟩
def CstAt (K : PySem.W.Frag) (x : Str) (c : Cst) : Prop := ∃ v, PySem.W.nsIn K mainGlobals x = some (some v) ∧ RelV c.v v
theorem cst_int {K : PySem.W.Frag} {x : Str} {i : Int} {t : Tok} (h : PySem.W.nsIn K mainGlobals x = some (some (.int i t))) : CstAt K x (.int i) := ⟨_, h, t, rfl⟩
theorem cst_str {K : PySem.W.Frag} {x : Str} {i : Str} {t : Tok} (h : PySem.W.nsIn K mainGlobals x = some (some (.str i t))) : CstAt K x (.str i) := ⟨_, h, t, rfl⟩
def BindOk (r : Row) : Prop := ∀ (kV doc pm : Value) (an : Option Addr) (cdv ct : Value) (us : List Value), us.length = r.ps.length → bindArgs (PySem.W.fnOf r.x r.x (defArgs r.st) (defBody r.st) (defScope r.st) .none kV doc pm an cdv ct) ⟨us, []⟩ = pure (r.ps.zip us)
def AllR (P : Row → Prop) : List Row → Prop
  | [] => True
  | r :: rs => P r ∧ AllR P rs
theorem AllR.get {P : Row → Prop} : ∀ {rs : List Row} {i : Nat} {r : Row}, AllR P rs → rs[i]? = some r → P r
  | [], _, _, _, e => by simp at e
  | r :: rs, 0, r', h, e => by
    have : r = r' := by simpa using e
    subst this
    exact h.1
  | r :: rs, i + 1, _, h, e => AllR.get h.2 (by simpa using e)
def AllC (K : PySem.W.Frag) : List (Str × GK) → Prop
  | [] => True
  | (x, .cst c) :: gs => CstAt K x c ∧ AllC K gs
  | _ :: gs => AllC K gs
theorem AllC.get {K : PySem.W.Frag} {x : Str} {c : Cst} : ∀ {gs : List (Str × GK)}, AllC K gs → gs.lookup x = some (.cst c) → CstAt K x c
  | [], _, e => by simp at e
  | (y, g) :: gs, h, e => by
    rw [List.lookup_cons] at e
    cases hb : x == y with
    | true =>
      rw [hb] at e
      cases e
      have : x = y := by simpa using hb
      subst this
      exact h.1
    | false =>
      rw [hb] at e
      have e : gs.lookup x = some (.cst c) := e
      cases g with
      | fn i => exact AllC.get (gs := gs) h e
      | tld i => exact AllC.get (gs := gs) h e
      | exc _ _ => exact AllC.get (gs := gs) h e
      | bas => exact AllC.get (gs := gs) h e
      | cst c' => exact AllC.get h.2 e
def AllB (K : PySem.W.Frag) : List Str → Prop
  | [] => True
  | x :: xs => PySem.W.nsIn K mainGlobals x = some none ∧ AllB K xs
theorem AllB.get {K : PySem.W.Frag} {x : Str} : ∀ {xs : List Str}, AllB K xs → x ∈ xs → PySem.W.nsIn K mainGlobals x = some none
  | [], _, e => by simp at e
  | y :: ys, h, e => by
    rcases List.mem_cons.mp e with rfl | e
    · exact h.1
    · exact AllB.get h.2 e
def glOk (rows : List Row) (gl : List (Str × GK)) : Bool := gl.all fun p => match p.2 with
  | .fn i => (match rows[i]? with
    | some r => decide (r.x = p.1) && r.d.kd.isPlain
    | none => false)
  | .tld i => (match rows[i]? with
    | some r => decide (r.x = p.1) && r.d.kd.isTold
    | none => false)
  | _ => true
theorem not_both {k : Kd} (a : k.isPlain = true) (b : k.isTold = true) : False := by cases k <;> simp [Kd.isPlain, Kd.isTold] at a b
def tabOf (rows : List Row) : Nat → Option Def := fun i => (rows[i]?).map (·.d)
structure LawTab (rows : List Row) (crs : List CRow) (gl : List (Str × GK)) (bi : List Str) (K : PySem.W.Frag) : Prop where
  fn : AllR (FunAt K) rows
  cst : AllC K gl
  bi : AllB K bi
  ex : crs ≠ [] → ExAt K crs
theorem mem_of_lk {α β : Type} [BEq α] [LawfulBEq α] {x : α} {g : β} : ∀ {l : List (α × β)}, l.lookup x = some g → (x, g) ∈ l
  | [], e => by simp at e
  | (y, h) :: l, e => by
    rw [List.lookup_cons] at e
    cases hb : x == y with
    | true =>
      rw [hb] at e
      cases e
      have : x = y := by simpa using hb
      subst this
      exact List.mem_cons_self
    | false =>
      rw [hb] at e
      exact List.mem_cons_of_mem _ (mem_of_lk e)
theorem row_ok {rows : List Row} {gl : List (Str × GK)} {bi : List Str} {K : PySem.W.Frag} {P : Program} {w : World} {mg : Str → Option Value} {base : Heap} {i k : Nat} {r : Row} {f : Addr} {fd : FuncData} (ck : chkD gl bi r = true) (hr : rows[i]? = some r)
    (F : Fun K r.x r.x r.st f fd) (hmg : mg r.x = some (.ref f)) (hL : LamsAt K mg base rows) (ih : ∀ j, j < k → TabOk (tabOf rows) gl bi P w K mg base j) : FnOk P w K mg base (L2.CX P w) (3 * k + 24) f fd r.ps (spV (tabOf rows) mg k i) := by
  unfold chkD at ck
  simp only [Bool.and_eq_true, decide_eq_true_eq] at ck
  obtain ⟨⟨⟨⟨⟨⟨c1, c2⟩, c3⟩, c4⟩, c5⟩, c6⟩, c7⟩ := ck
  have hT : tabOf rows i = some r.d := by unfold tabOf; rw [hr]; rfl
  have S : FnScope r.N r.ps (defScope r.st) := C8.fnScope_by c1
  have len : ∀ vs H Q E, spV (tabOf rows) mg k i vs H Q E → vs.length = r.ps.length := fun vs H Q E ⟨p, ds, f, e1, e2, _⟩ => by
    rw [hT] at e1
    cases e1
    rw [e2, c2]
  cases k with
  | zero =>
    refine ⟨len, fun A outer s H args us vs Q E _ _ _ _ ⟨p, ds, f, _, _, _, _, _, q⟩ => ?_⟩
    exact q.elim
  | succ k =>
    obtain ⟨oc, od, kV, doc, pm, an, cdv, ct, osl, rfl, lk, hcd⟩ := F.ex
    refine fn_of (k := 3 * k + 26) lk hcd S len fun A outer s H vs Q E hr' hsp => ?_
    obtain ⟨p, ds, f0, e1, e2, rl, G0, hTb, q⟩ := hsp
    rw [hT] at e1
    cases e1
    have C : CO (tabOf rows) k ⟨r.N, defScope r.st, gl, bi, r.lm⟩ (cxOf (L2.CX P w) P w K mg base r.N r.x (defScope r.st) f cdv A outer s H E) :=
      ⟨rfl, S.nd, fun x h => h, fun x h => h, fun x h => ⟨h, rfl⟩, fun x h => h, fun x h => h, S.kind, rfl, hr'.mono (by omega), fun z => by
        obtain ⟨cA, PA, l1, l2, l3, l4⟩ := hL r (List.mem_of_getElem? hr) z
        have e := l1 f _ _ hmg lk rfl
        have e : cdv = .ref cA := e
        exact ⟨hr', cA, PA, l2, e, l3, l4⟩, ih k (Nat.lt_succ_self _)⟩
    have tp : Top (cxOf (L2.CX P w) P w K mg base r.N r.x (defScope r.st) f cdv A outer s H E) (fun cls d _ H => E cls d H) := ⟨rfl, rfl, takes_of rfl rfl rfl rfl, passes_of rfl⟩
    obtain ⟨t, ps, st⟩ := chkSs_ok r.d.body C tp c6
    refine ⟨t, ps, ?_⟩
    have hdl := rl.length
    have hen : REnv H (enter r.d ds) (L2.start r.N vs) f0 := by
      have := enter_ok (H := H) hTb (r.N.length - vs.length) rl
      unfold enter L2.start
      rw [c4, hdl]
      exact this
    refine st (enter r.d ds) (L2.start r.N vs) H f0 _ hen G0 ?_
    have er : run (tabOf rows) (k + 1) i ds = leave r.d (exSs (run (tabOf rows) k) r.d.body (enter r.d ds)) := by
      show (match tabOf rows i with
        | some p => if ds.length = p.np then runK p (leave p (exSs (run (tabOf rows) k) p.body (enter p ds))) ds else .bad
        | none => .bad) = _
      rw [hT]
      refine (if_pos (by rw [hdl, e2])).trans ?_
      have hk : r.d.kd = .plain := by
        cases hk : r.d.kd with
        | plain => rfl
        | told => rw [hk] at c7; cases c7
        | out o => rw [hk] at c7; cases c7
      unfold runK
      rw [hk]
    rw [er] at q
    have fin : ∀ {Γ : En} {σ' : L2.St} {H' : Hp} {f' : Fp}, REnv H' Γ σ' f' → Ag (modSs r.d.body) (L2.start r.N vs) σ' → ∃ g, RepL H' (finL r.d.io Γ) vs g ∧ g.le f' := fun {Γ σ' H' f'} en ag => by
      refine fin_ok en (by rw [c3, ← c2, e2]) fun i hi v hv => ?_
      have hlt := (List.getElem?_eq_some_iff.mp hi).1
      have := List.all_eq_true.mp c5 i (List.mem_range.mpr hlt)
      have gd : r.d.io.getD i false = true := by rw [List.getD_eq_getElem?_getD, hi]; rfl
      rw [gd] at this
      have nm : i ∉ modSs r.d.body := by simpa using this
      rw [ag.out i nm]
      unfold L2.start
      rw [List.getElem?_append_left (by rw [List.length_map]; exact (List.getElem?_eq_some_iff.mp hv).1), List.getElem?_map, hv]
      rfl
    cases eS : exSs (run (tabOf rows) k) r.d.body (enter r.d ds) with
    | nx Γ =>
      rw [eS] at q
      intro σ' H' f' en G' S' ag
      obtain ⟨g, r1, lg⟩ := fin en ag
      exact q .non H' Fp.zero g (by unfold Rep; exact ⟨rfl, rfl⟩) r1 (by rw [Fp.zero_add]; exact G'.le lg) (by rw [Fp.zero_add]; exact S'.less lg)
    | rt d Γ =>
      rw [eS] at q
      intro v σ' H' g0 f' rr en G' S' ag
      obtain ⟨g, r1, lg⟩ := fin en ag
      have l2 : (g0.add g).le (g0.add f') := add_mono (Fp.le.refl _) lg
      exact q v H' g0 g rr r1 (G'.le l2) (S'.less l2)
    | bk Γ => rw [eS] at q; exact q.elim
    | ct Γ => rw [eS] at q; exact q.elim
    | ex cn ds Γ =>
      rw [eS] at q
      match ds, q with
      | [d], q =>
        intro Cv σ' H' f' dx hm en G' S' ag hd
        obtain ⟨g, r1, lg⟩ := fin en ag
        exact q Cv H' g dx hm r1 (G'.le lg) (S'.less lg) hd
    | bad => rw [eS] at q; exact q.elim
theorem tab_ok {rows : List Row} {crs : List CRow} {gl : List (Str × GK)} {bi : List Str} {K : PySem.W.Frag} {P : Program} {w : World} {mg : Str → Option Value} {base h : Heap} (L : LawTab rows crs gl bi K) (hg : glOk rows gl = true) (hnd : (gl.map (·.1)).Nodup) (hx : glX crs gl = true) (hcc : crs.all chkC = true) (hcb : AllCB crs) (hc : rows.all (chkR gl bi) = true) (hb : AllR BindOk rows)
    (X : K.In h) (G : h.Ns mainGlobals mg) (hL : LamsAt K mg base rows) : ∀ k, TabOk (tabOf rows) gl bi P w K mg base k := by
  have core : ∀ k, (∀ j, j < k → TabOk (tabOf rows) gl bi P w K mg base j) → TabOk (tabOf rows) gl bi P w K mg base k := by
    intro k ih
    obtain ⟨xc1, xc2⟩ := exc_ok (P := P) (w := w) (base := base) L.ex hx hcc hcb X G
    have hcst : ∀ x c, gl.lookup x = some (.cst c) → ∃ u, mg x = some u ∧ RelV c.v u := fun x c e => by
      obtain ⟨v, h1, h2⟩ := L.cst.get e
      exact ⟨v, PySem.W.mg_of X G h1, h2⟩
    have hbi : ∀ x, x ∈ bi → mg x = none := fun x hx => PySem.W.mg_none_of X G (L.bi.get hx)
    refine ⟨hcst, fun x i e => ?_, fun x i e => ?_, hbi, xc1, xc2⟩
    · have hm := List.all_eq_true.mp hg _ (mem_of_lk e)
      dsimp only at hm
      split at hm
      · rename_i r hr
        rw [Bool.and_eq_true] at hm
        have hx : r.x = x := of_decide_eq_true hm.1
        subst hx
        obtain ⟨f, oc, od, kV, doc, pm, an, cdv, ct, osl, a1, a2, a3, a4⟩ := L.fn.get hr
        have F : Fun K r.x r.x r.st f (PySem.W.fnOf r.x r.x (defArgs r.st) (defBody r.st) (defScope r.st) .none kV doc pm an cdv ct) := fun_mk a2 a3 a4
        have hT : tabOf rows i = some r.d := by unfold tabOf; rw [hr]; rfl
        have ck : chkR gl bi r = true := List.all_eq_true.mp hc r (List.mem_of_getElem? hr)
        unfold chkR at ck
        rw [Bool.or_eq_true] at ck
        rcases ck with ck | ck
        · have ck0 := ck
          unfold chkD at ck0
          simp only [Bool.and_eq_true, decide_eq_true_eq] at ck0
          exact ⟨r.d, f, _, r.ps, hT, PySem.W.mg_of X G a1, a4, F.binds (hb.get hr), ck0.1.1.1.1.1.2.symm, row_ok ck hr F (PySem.W.mg_of X G a1) hL ih⟩
        · unfold chkTold at ck
          split at ck
          · simp only [Bool.and_eq_true] at ck
            exact (not_both hm.2 ck.1.2).elim
          · cases ck
      · cases hm
    · have hm := List.all_eq_true.mp hg _ (mem_of_lk e)
      dsimp only at hm
      split at hm
      · rename_i r hr
        rw [Bool.and_eq_true] at hm
        have hx : r.x = x := of_decide_eq_true hm.1
        subst hx
        obtain ⟨f, oc, od, kV, doc, pm, an, cdv, ct, osl, a1, a2, a3, a4⟩ := L.fn.get hr
        have F : Fun K r.x r.x r.st f (PySem.W.fnOf r.x r.x (defArgs r.st) (defBody r.st) (defScope r.st) .none kV doc pm an cdv ct) := fun_mk a2 a3 a4
        have hT : tabOf rows i = some r.d := by unfold tabOf; rw [hr]; rfl
        have ck : chkR gl bi r = true := List.all_eq_true.mp hc r (List.mem_of_getElem? hr)
        unfold chkR at ck
        rw [Bool.or_eq_true] at ck
        rcases ck with ck | ck
        · unfold chkD at ck
          simp only [Bool.and_eq_true, decide_eq_true_eq] at ck
          exact (not_both ck.2 hm.2).elim
        · unfold chkTold at ck
          split at ck
          · rename_i a ha
            simp only [Bool.and_eq_true, decide_eq_true_eq] at ck
            obtain ⟨⟨⟨⟨⟨c1, c2⟩, c3⟩, c4⟩, c5⟩, c6⟩ := ck
            have S : FnScope r.N [a] (defScope r.st) := C8.fnScope_by c1
            obtain ⟨m, hs, ex, sa, eh, ehs, e, p1, p2, eb, I⟩ := toldB_of c6 c3
            unfold vis at c4
            simp only [Bool.and_eq_true, decide_eq_true_eq, Bool.not_eq_true'] at c4
            obtain ⟨⟨⟨v1, v2⟩, v3⟩, v4⟩ := c4
            have hv : Vis (defScope r.st) a := by
              skip
              split at v4
              · rename_i q; exact .inl q
              · rename_i q; exact .inr (.inl q)
              · rename_i q; exact .inr (.inr q)
              · cases v4
            have B : Binds K (PySem.W.fnOf r.x r.x (defArgs r.st) (defBody r.st) (defScope r.st) .none kV doc pm an cdv ct) [a] [] := by
              have := F.binds (hb.get hr)
              rw [ha] at this
              exact this
            refine ⟨r.d, f, oc, od, osl, defArgs r.st, defBody r.st, defScope r.st, .none, kV, doc, pm, cdv, ct, an, r.N, a, hT, c5, c2, PySem.W.mg_of X G a1, a4, a2, a3, B, S, v1, hv, v2, v3, fun X q e1 e2 e3 e4 e5 hr => ?_⟩
            subst e1 e2 e3 e4 e5
            rcases eb with eb | ⟨y, iy, nk, q1, q2, q3, eb, hly, hiy⟩
            · rw [eb]
              exact told_ok S v1 I (tab_glx (T := T0) (k := 0) hnd hcst hbi xc1 xc2) hr
            · rw [eb]
              exact told_ok2 S v1 I hly hiy (tab_glx (T := T0) (k := 0) hnd hcst hbi xc1 xc2) hr
          · cases ck
      · cases hm
  intro k
  exact Nat.strongRecOn k fun k ih => core k ih
end VE

end
section
set_option maxHeartbeats 2000000
/-! VEq: the law's end. -/
namespace VE
open PySem PySem.Spec PyProof.Rows L2

section
variable [TC]
variable {K : PySem.W.Frag} {a : Addr} (hK : ∀ o, K.lookup a = some o → ∃ its n, o.data = .seq its n)
include hK
theorem FunAt.del {r : Row} (F : FunAt K r) : FunAt (VE.del K a) r := by
  obtain ⟨f, oc, od, kV, doc, pm, an, cdv, ct, osl, a1, a2, a3, a4⟩ := F
  have nf : f ≠ a := fun e => by
    rw [e] at a2
    obtain ⟨its, n, q⟩ := hK _ a2
    cases q
  have l2 : (VE.del K a).lookup f = K.lookup f := del_other nf
  refine ⟨f, oc, od, kV, doc, pm, an, cdv, ct, osl, del_ns hK a1, by rw [l2]; exact a2, ?_, ?_⟩
  · cases cdv with
    | ref c =>
      have nc : c ≠ a := fun e => by
        unfold PySem.W.codeIn at a3
        dsimp only at a3
        split at a3
        · rename_i x1 x2 vs x3 hl
          rw [e] at hl
          obtain ⟨its, n, q⟩ := hK _ hl
          cases q
        · cases a3
      unfold PySem.W.codeIn at a3 ⊢
      dsimp only at a3 ⊢
      rw [del_other nc]
      exact a3
    | _ => exact a3
  · unfold PySem.W.keepIn
    dsimp only
    rw [l2, a2]
theorem AllR.del : ∀ {rs : List Row}, AllR (FunAt K) rs → AllR (FunAt (VE.del K a)) rs
  | [], _ => trivial
  | _ :: _, h => ⟨FunAt.del hK h.1, AllR.del h.2⟩
theorem AllC.del : ∀ {gs : List (Str × GK)}, AllC K gs → AllC (VE.del K a) gs
  | [], _ => trivial
  | (_, .fn _) :: gs, h => AllC.del (gs := gs) h
  | (_, .tld _) :: gs, h => AllC.del (gs := gs) h
  | (_, .exc _ _) :: gs, h => AllC.del (gs := gs) h
  | (_, .bas) :: gs, h => AllC.del (gs := gs) h
  | (_, .cst _) :: gs, h => ⟨let ⟨v, h1, h2⟩ := h.1; ⟨v, del_ns hK h1, h2⟩, AllC.del h.2⟩
theorem AllB.del : ∀ {xs : List Str}, AllB K xs → AllB (VE.del K a) xs
  | [], _ => trivial
  | _ :: _, h => ⟨del_ns hK h.1, AllB.del h.2⟩
theorem LawTab.del {rows : List Row} {crs : List CRow} {gl : List (Str × GK)} {bi : List Str} (L : LawTab rows crs gl bi K) : LawTab rows crs gl bi (VE.del K a) := ⟨AllR.del hK L.fn, AllC.del hK L.cst, AllB.del hK L.bi, fun n => (L.ex n).del hK⟩
end
theorem del_in [TC] {K : PySem.W.Frag} {a : Addr} {h : Heap} (X : K.In h) : (del K a).In h := fun b o e => by
  rw [del_lookup] at e
  split at e
  · cases e
  · exact X b o e
theorem del_not [TC] {K : PySem.W.Frag} {a : Addr} : (del K a).lookup a = none := by rw [del_lookup, if_pos rfl]

/-! ### the code objects in which lambdas are made -/
def AllT (K : PySem.W.Frag) : List (Str × Addr × Addr) → Prop
  | [] => True
  | e :: es => (PySem.W.tabIn K e.1 = some e.2 ∧ K.lookup e.2.2 = none) ∧ AllT K es
theorem AllT.get {K : PySem.W.Frag} {e : Str × Addr × Addr} : ∀ {cs : List (Str × Addr × Addr)}, AllT K cs → e ∈ cs → PySem.W.tabIn K e.1 = some e.2 ∧ K.lookup e.2.2 = none
  | [], _, m => by cases m
  | _ :: _, h, m => by
    rcases List.mem_cons.mp m with rfl | m
    · exact h.1
    · exact AllT.get h.2 m
theorem tab_mk {K : PySem.W.Frag} {x : Str} {f c P : Addr} {oc oc2 : Value} {od od2 : Option Addr} {osl osl2 : Array (Option Value)} {fd : FuncData} {vs : Array Value} (a : PySem.W.nsIn K mainGlobals x = some (some (.ref f))) (l : K.lookup f = some ⟨oc, od, .func fd, osl⟩) (e : fd.code = .ref c)
    (o : K.lookup c = some ⟨oc2, od2, .fields vs, osl2⟩) (v : (vs[11]? : Option Value) = some (.ref P)) : PySem.W.tabIn K x = some (c, P) := by
  unfold PySem.W.tabIn
  rw [a]
  dsimp only
  rw [l]
  dsimp only
  rw [e]
  dsimp only
  rw [o]
  dsimp only
  rw [v]
def csOk (rows : List Row) (cs : List (Str × Addr × Addr)) : Bool := (cs.all fun e => cs.all fun e' => decide (e.2.2 = e'.2.2 → e.1 = e'.1)) && rows.all fun r => !r.lm || cs.any fun e => decide (e.1 = r.x)
def LamTab (rows : List Row) (names : List Str) (K : PySem.W.Frag) : Prop := ∃ cs : List (Str × Addr × Addr), cs.map (·.1) = names ∧ AllT K cs ∧ csOk rows cs = true
def recOk (q : Program) (names : List Str) : Bool := names.all fun x => ((recsOf q).find? fun e => e.name == x).isSome
@[reducible] def tcOf (cs : List (Str × Addr × Addr)) : TC := ⟨cs.map fun e => (e.2.2, (e.1 ++ ".<locals>.") ++ "<lambda>")⟩
theorem ve_walk {l : PySem.W.OpenLaw} {n k i : Nat} {q : Program} {loose : List Str} {XP : (Str → Option Value) → Heap → Prop} {YP : World → Heap → Prop} {d : DefRec} {K : Params → PySem.W.Frag} {rows : List Row} {crs : List CRow} {gl : List (Str × GK)} {bi : List Str} {r : Row} {x : Str} {names : List Str}
    (hn : l.most = some n) (hn2 : n ≤ sizeLine) (hdf : d.params.defaults = []) (hr : Room (3 * k + 24) callerA) (hg : glOk rows gl = true) (hnd : (gl.map (·.1)).Nodup) (hgx : glX crs gl = true) (hcc : crs.all chkC = true) (hcb : AllCB crs) (hc : rows.all (chkR gl bi) = true) (hb : AllR BindOk rows)
    (hi : gl.lookup d.name = some (.fn i)) (hri : rows[i]? = some r) (hps : r.ps = [x]) (hq : recOk q names = true) (hY : ∀ (w : World) (h : Heap), YP w h → (K w.params).In h)
    (F : ∀ (w : World) (mg : Str → Option Value) (fa : Addr) (h : Heap), (K w.params).In h → h.Ns mainGlobals mg → mg d.name = some (.ref fa) → LawTab rows crs gl bi (K w.params) ∧ LamTab rows names (K w.params))
    (hrun : ∀ ns : List Int, ns.length ≤ n → ∃ fs, run (tabOf rows) k i [.lst .shr (ns.map D.int)] = .ok (.bl true) fs) : PySem.W.WalkO q loose XP YP l.row.toRowW d [] (fun f vs => PySem.call f vs) := by
  refine Att.attach_call hn hdf fun w s₀ s₁ mg mb fa o pm cd doc a vs ns G Y ho hd hcd hmg hobj hints hlen hgn => ?_
  have KX := hY w _ Y
  obtain ⟨L, cs, hnm, hAT, hcs⟩ := F w mg fa _ KX G.T.g hmg
  letI : TC := tcOf cs
  have hK : ∀ o, (K w.params).lookup a = some o → ∃ its n, o.data = .seq its n := fun o e => by
    have := KX a o e
    rw [hobj] at this
    cases this
    exact ⟨_, _, rfl⟩
  have L' := L.del hK
  have KX' : (del (K w.params) a).In s₁.heap := del_in KX
  -- the tables
  have tabs : ∀ e ∈ cs, PySem.W.CodeHd s₁.heap e.2.1 e.2.2 ∧ s₁.heap.get? e.2.2 = some (PySem.W.tabObj #[]) := fun e he => by
    have h1 := List.all_eq_true.mp hq e.1 (by rw [← hnm]; exact List.mem_map.mpr ⟨e, he, rfl⟩)
    obtain ⟨d', hd'⟩ := Option.isSome_iff_exists.mp h1
    exact PySem.W.tab_of G.T KX hd' (hAT.get he).1
  unfold csOk at hcs
  rw [Bool.and_eq_true] at hcs
  obtain ⟨hc1, hc2⟩ := hcs
  have lams : ∀ base : Heap, (∀ p ∈ cs.map (·.2), LamX.TabB base mg p.1 p.2) → LamsAt (del (K w.params) a) mg base rows := fun base TB r hr hlm => by
    have h2 := List.all_eq_true.mp hc2 r hr
    rw [hlm, Bool.not_true, Bool.false_or] at h2
    obtain ⟨e, he, h3⟩ := List.any_eq_true.mp h2
    have h3 : e.1 = r.x := of_decide_eq_true h3
    refine ⟨e.2.1, e.2.2, fun f o fd hm hl hd => ?_, TB _ (List.mem_map.mpr ⟨e, he, rfl⟩), ?_, fun p hp hpe => ?_⟩
    · exact PySem.W.law_code KX G.T.g (hAT.get he).1 (by rw [h3]; exact hm) (KX' _ _ hl) hd
    · rw [← h3]
      exact List.mem_map.mpr ⟨e, he, rfl⟩
    · obtain ⟨e', he', hp⟩ := List.mem_map.mp hp
      subst hp
      have h4 := List.all_eq_true.mp (List.all_eq_true.mp hc1 e' he') e he
      have h5 : e'.1 = e.1 := (of_decide_eq_true h4) hpe
      show (e'.1 ++ ".<locals>.") ++ "<lambda>" = _
      rw [h5, h3]
  -- the law's own function object
  have hT : tabOf rows i = some r.d := by unfold tabOf; rw [hri]; rfl
  obtain ⟨f1, oc, od, kV, doc1, pm1, an, cdv, ct, osl, a1, a2, a3, a4⟩ := L'.fn.get hri
  have hm := List.all_eq_true.mp hg _ (mem_of_lk hi)
  dsimp only at hm
  rw [hri] at hm
  have hm : (decide (r.x = d.name) && r.d.kd.isPlain) = true := hm
  rw [Bool.and_eq_true] at hm
  have hx : r.x = d.name := of_decide_eq_true hm.1
  have ck : chkD gl bi r = true := by
    have ck : chkR gl bi r = true := List.all_eq_true.mp hc r (List.mem_of_getElem? hri)
    unfold chkR at ck
    rw [Bool.or_eq_true] at ck
    rcases ck with ck | ck
    · exact ck
    · unfold chkTold at ck
      split at ck
      · simp only [Bool.and_eq_true] at ck
        exact (not_both hm.2 ck.1.2).elim
      · cases ck
  have F1 : Fun (del (K w.params) a) r.x r.x r.st f1 (PySem.W.fnOf r.x r.x (defArgs r.st) (defBody r.st) (defScope r.st) .none kV doc1 pm1 an cdv ct) := fun_mk a2 a3 a4
  have hm1 : mg r.x = some (.ref f1) := PySem.W.mg_of KX' G.T.g a1
  have ef1 : f1 = fa := by
    have := hm1
    rw [hx, hmg] at this
    cases this
    rfl
  subst ef1
  have bnd := hb.get hri kV doc1 pm1 an cdv ct
  have hfn : ∀ base : Heap, (del (K w.params) a).In base → base.Ns mainGlobals mg → (∀ p ∈ cs.map (·.2), LamX.TabB base mg p.1 p.2) → FnOk l.prog w (del (K w.params) a) mg base (L2.CX l.prog w) (3 * k + 24) f1 (PySem.W.fnOf r.x r.x (defArgs r.st) (defBody r.st) (defScope r.st) .none kV doc1 pm1 an cdv ct) [x] (spV (tabOf rows) mg k i) := fun base _ _ TB => by
    have := row_ok (P := l.prog) (w := w) (mg := mg) (base := base) (i := i) (k := k) ck hri F1 hm1 (lams base TB) fun j _ => tab_ok L' hg hnd hgx hcc hcb hc hb KX' G.T.g (lams base TB) j
    rw [hps] at this
    exact this
  refine LamX.law_callTs (x := x) (sp := spV (tabOf rows) mg k i) (cs := cs.map (·.2)) KX' G.T.g G.T.b G.T.builtins G.T.nolimit hgn (fun p hp => ?_) (fun p hp => ?_) (fun p hp => ?_) G.T.bmain hobj hints (Nat.le_trans hlen hn2) hr hfn (fun s u => ?_) (fun H hH hS => ?_) fun H e s' h => ?_
  · obtain ⟨e, he, rfl⟩ := List.mem_map.mp hp
    exact (tabs e he).2
  · obtain ⟨e, he, rfl⟩ := List.mem_map.mp hp
    rw [del_lookup]
    split
    · rfl
    · exact (hAT.get he).2
  · obtain ⟨e, he, rfl⟩ := List.mem_map.mp hp
    exact (tabs e he).1
  · refine .of_eq ?_
    have := bnd [u] (by rw [hps]; rfl)
    rw [hps] at this
    exact this
  · have hR : Rd H a (.lst (ns.map V.int)) := by
      rcases hS with h | ⟨o, its, n, h, _⟩
      · exact h
      · rw [del_not] at h
        cases h
    obtain ⟨fs, er⟩ := hrun ns hlen
    have rl := RepL.ints (H := H) ns
    have rep : Rep H (.lst .shr (ns.map D.int)) (.ref a) (Fp.zero.sh a) := by
      unfold Rep
      exact ⟨a, _, Fp.zero, rfl, rl, fun _ => ⟨rfl, rfl⟩, hR, rfl⟩
    have rls := RepL.cons rep RepL.nil
    rw [Fp.add_zero] at rls
    obtain ⟨p, e7, e8⟩ := run_np er
    have tb : LamX.Tabs TC.T H := fun p hp => by
      obtain ⟨e, he, hp⟩ := List.mem_map.mp hp
      subst hp
      exact LamX.TabS.nil (hH _ (List.mem_map.mpr ⟨e, he, rfl⟩))
    refine ⟨p, _, _, e7, by rw [← e8]; rfl, rls, ⟨fun b => by simp only [Fp.sh, Fp.zero]; omega⟩, tb, ?_⟩
    rw [er]
    intro v H' g f' rv _ _ _
    unfold Rep at rv
    exact rv.1
  · obtain ⟨_, _, _, _, _, _, _, _, _, _, _, _, w⟩ := h
    exact w
end VE

end
section
set_option maxHeartbeats 2000000
/-! VEr: the evaluator's steps as rules for simp. -/
namespace VE
open PySem
section
variable {α β : Type} {cf : CF} {Γ Γ1 : En} {es : List Ex} {os : List Ob} {i j n m k : Nat} {d e c : D} {ds xs ys : List D}
@[simp] theorem q_bind_ok {a : α} {f : α → En → R β} : (R.ok a Γ).bind f = f a Γ := (rfl)
@[simp] theorem q_bind_bad {f : α → En → R β} : (R.bad : R α).bind f = .bad := (rfl)
@[simp] theorem q_s_ok {a : α} {f : α → En → S} : (R.ok a Γ).s f = f a Γ := (rfl)
@[simp] theorem q_s_bad {f : α → En → S} : (R.bad : R α).s f = .bad := (rfl)
@[simp] theorem q_seq_nx {f : En → S} : (S.nx Γ).seq f = f Γ := (rfl)
@[simp] theorem q_seq_rt {f : En → S} : (S.rt d Γ).seq f = .rt d Γ := (rfl)
@[simp] theorem q_seq_bk {f : En → S} : (S.bk Γ).seq f = .bk Γ := (rfl)
@[simp] theorem q_seq_ct {f : En → S} : (S.ct Γ).seq f = .ct Γ := (rfl)
@[simp] theorem q_seq_bad {f : En → S} : (S.bad).seq f = .bad := (rfl)
@[simp] theorem q_opt_some {a : α} : optR Γ (some a) = .ok a Γ := (rfl)
@[simp] theorem q_opt_none : (optR Γ (none : Option α)) = .bad := (rfl)
@[simp] theorem q_gt : gt Γ i = (Γ[i]?).bind id := by
  unfold gt
  cases h : Γ[i]? with
  | none => rfl
  | some o => cases o <;> rfl
/-! values -/
def varR (Γ : En) (i : Nat) : Option D → R D
  | some d => if dup d = true then .ok d Γ else .ok (frz d) (Γ.set i (some (frz d)))
  | none => .bad
@[simp] theorem q_var : evE cf (.var i) Γ = varR Γ i (gt Γ i) := (rfl)
@[simp] theorem q_varR : varR Γ i (some d) = if dup d = true then .ok d Γ else .ok (frz d) (Γ.set i (some (frz d))) := (rfl)
@[simp] theorem q_varR0 : varR Γ i none = .bad := (rfl)
@[simp] theorem q_dup_int {a : Int} : dup (.int a) = true := (rfl)
@[simp] theorem q_dup_bl {a : Bool} : dup (.bl a) = true := (rfl)
@[simp] theorem q_dup_str {a : Str} : dup (.str a) = true := (rfl)
@[simp] theorem q_dup_non : dup .non = true := (rfl)
@[simp] theorem q_dup_shr : dup (.lst .shr xs) = true := (rfl)
@[simp] theorem q_dup_own : dup (.lst .own xs) = false := (rfl)
@[simp] theorem q_dup_lent : dup (.lst .lent xs) = false := (rfl)
@[simp] theorem q_dup_tup : dup (.tup xs) = dupL xs := by
  show dup (.tup xs) = _
  unfold dup
  rfl
@[simp] theorem q_dupL0 : dupL [] = true := (rfl)
@[simp] theorem q_dupL1 : dupL (d :: ds) = (dup d && dupL ds) := (rfl)
@[simp] theorem q_cst {q : Cst} : evE cf (.cst q) Γ = .ok q.d Γ := (rfl)
@[simp] theorem q_glb {q : Cst} {g : Nat} : evE cf (.glb g q) Γ = .ok q.d Γ := (rfl)
@[simp] theorem q_d_int {a : Int} : (Cst.int a).d = .int a := (rfl)
@[simp] theorem q_d_bl {a : Bool} : (Cst.bl a).d = .bl a := (rfl)
@[simp] theorem q_d_str {a : Str} : (Cst.str a).d = .str a := (rfl)
@[simp] theorem q_d_non : (Cst.non).d = .non := (rfl)
@[simp] theorem q_tup : evE cf (.tup es) Γ = (evAs cf es Γ).bind fun os Γ1 => optR Γ1 ((alls os).map .tup) := (rfl)
@[simp] theorem q_lst : evE cf (.lst es) Γ = (evAs cf es Γ).bind fun os Γ1 => optR Γ1 ((alls os).map (.lst .own)) := (rfl)
@[simp] theorem q_op {f : Fm} {o : Op} : evE cf (.op f o es) Γ = (evAs cf es Γ).bind fun os Γ1 => optR Γ1 ((fetch Γ1 es os).bind (opF o)) := (rfl)
@[simp] theorem q_tst {t : Tx} : evE cf (.tst t) Γ = (evB cf t Γ).bind fun b Γ1 => .ok (.bl b) Γ1 := (rfl)
@[simp] theorem q_ite {t : Tx} {a b : Ex} : evE cf (.ite t a b) Γ = (evT cf t Γ).bind fun c Γ1 => if c = true then evE cf a Γ1 else evE cf b Γ1 := (rfl)
def callT (cf : CF) (f : Nat) (es : List Ex) : Option Tk → R D
  | some t => (cf f t.ds).r es t
  | none => .bad
@[simp] theorem q_call {f : Nat} : evE cf (.call f es) Γ = (evAs cf es Γ).bind fun os Γ1 => callT cf f es (take Γ1 es os) := by
  show ((evAs cf es Γ).bind fun os Γ1 => match take Γ1 es os with
    | some t => (cf f t.ds).r es t
    | none => .bad) = _
  congr 1
@[simp] theorem q_callT {f : Nat} {t : Tk} : callT cf f es (some t) = (cf f t.ds).r es t := (rfl)
@[simp] theorem q_callT0 {f : Nat} : callT cf f es none = .bad := (rfl)
@[simp] theorem q_Fr {t : Tk} {fs : List D} : F.r es t (.ok d fs) = if (!t.nc || (clean d && cleanB es fs)) = true then .ok d (back t.Γ es fs) else .bad := (rfl)
@[simp] theorem q_pop : evE cf (.pop j) Γ = match gt Γ j with
    | some (.lst .own xs) => match xs.getLast? with
      | some d => .ok d (Γ.set j (some (.lst .own xs.dropLast)))
      | none => .bad
    | _ => .bad := (rfl)
def idxR (Γ : En) (j : Nat) : D → Option D → R D
  | .int k, some (.lst o xs) => match ixD xs k with
      | some d => if dup d = true then .ok d Γ else .ok (frz d) (Γ.set j (some (.lst o (frzL xs))))
      | none => .bad
  | .int k, some (.tup xs) => match ixD xs k with
      | some d => if dup d = true then .ok d Γ else .ok (frz d) (Γ.set j (some (.tup (frzL xs))))
      | none => .bad
  | _, _ => .bad
@[simp] theorem q_idxF {i : Ex} : evE cf (.idxF j i) Γ = if (gt Γ j).isSome = true then (evE cf i Γ).bind fun k Γ1 => idxR Γ1 j k (gt Γ1 j) else .bad := by
  show (if (gt Γ j).isSome = true then _ else _) = _
  congr 1
def indexR (Γ : En) (c : Option D) (d : D) : R D := optR Γ (c.bind fun c => indexF c d)
@[simp] theorem q_index {i : Ex} : evE cf (.index j i) Γ = if isL Γ j = true then (evE cf i Γ).bind fun d Γ1 => optR Γ1 ((gt Γ1 j).bind fun c => indexF c d) else .bad := (rfl)
def lcR (Γ1 : En) (it : It) : R (List D) → R D
  | .ok ys Γ9 => if ys.length ≤ line then .ok (.lst .own ys) (unlendI Γ1 Γ9 it) else .bad
  | _ => .bad
@[simp] theorem q_lc {own : List Nat} {tg : Tg} {it : It} {c : Tx} {e : Ex} : evE cf (.lc own tg it c e) Γ = (evI cf it Γ).bind fun xs Γ1 => lcR Γ1 it (loopC (lcF cf own tg c e) xs (wipeE (lendI Γ1 it) own)) := by
  haveI : TC := ⟨[]⟩
  rw [evE_lc]
  rfl
@[simp] theorem q_lcR {it : It} {Γ9 : En} : lcR Γ1 it (.ok ys Γ9) = if ys.length ≤ line then .ok (.lst .own ys) (unlendI Γ1 Γ9 it) else .bad := (rfl)
/-! arguments -/
@[simp] theorem q_as0 : evAs cf [] Γ = .ok [] Γ := (rfl)
@[simp] theorem q_as_pk : evAs cf (.pk i :: es) Γ = if (gt Γ i).isSome = true then (evAs cf es Γ).bind fun os Γ1 => .ok (.r :: os) Γ1 else .bad := (rfl)
@[simp] theorem q_as_ob : evAs cf (.ob i :: es) Γ = if (gt Γ i).isSome = true then (evAs cf es Γ).bind fun os Γ1 => .ok (.r :: os) Γ1 else .bad := (rfl)
@[simp] theorem q_as_pki {ix : Ex} : evAs cf (.pki j ix :: es) Γ = if (gt Γ j).isSome = true then (evE cf ix Γ).bind fun d Γ1 => match d with
    | .int k => if (es.all triv && (((gt Γ1 j).bind items?).bind fun xs => ixD xs k).isSome) = true then (evAs cf es Γ1).bind fun os Γ2 => .ok (.ix k :: os) Γ2 else .bad
    | _ => .bad
    else .bad := (rfl)
theorem q_as_v {ex : Ex} (h : isVal ex = true) : evAs cf (ex :: es) Γ = (evE cf ex Γ).bind fun d Γ1 => (evAs cf es Γ1).bind fun os Γ2 => .ok (.v d :: os) Γ2 := haveI : TC := ⟨[]⟩; evAs_val h
@[simp] theorem q_as_var : evAs cf (.var i :: es) Γ = (evE cf (.var i) Γ).bind fun d Γ1 => (evAs cf es Γ1).bind fun os Γ2 => .ok (.v d :: os) Γ2 := (rfl)
@[simp] theorem q_as_cst {q : Cst} : evAs cf (.cst q :: es) Γ = (evAs cf es Γ).bind fun os Γ2 => .ok (.v q.d :: os) Γ2 := (rfl)
@[simp] theorem q_as_glb {q : Cst} {g : Nat} : evAs cf (.glb g q :: es) Γ = (evAs cf es Γ).bind fun os Γ2 => .ok (.v q.d :: os) Γ2 := (rfl)
@[simp] theorem q_as_tup {fs : List Ex} : evAs cf (.tup fs :: es) Γ = (evE cf (.tup fs) Γ).bind fun d Γ1 => (evAs cf es Γ1).bind fun os Γ2 => .ok (.v d :: os) Γ2 := (rfl)
@[simp] theorem q_as_lst {fs : List Ex} : evAs cf (.lst fs :: es) Γ = (evE cf (.lst fs) Γ).bind fun d Γ1 => (evAs cf es Γ1).bind fun os Γ2 => .ok (.v d :: os) Γ2 := (rfl)
@[simp] theorem q_as_op {f : Fm} {o : Op} {fs : List Ex} : evAs cf (.op f o fs :: es) Γ = (evE cf (.op f o fs) Γ).bind fun d Γ1 => (evAs cf es Γ1).bind fun os Γ2 => .ok (.v d :: os) Γ2 := (rfl)
@[simp] theorem q_as_tst {t : Tx} : evAs cf (.tst t :: es) Γ = (evE cf (.tst t) Γ).bind fun d Γ1 => (evAs cf es Γ1).bind fun os Γ2 => .ok (.v d :: os) Γ2 := (rfl)
@[simp] theorem q_as_ite {t : Tx} {a b : Ex} : evAs cf (.ite t a b :: es) Γ = (evE cf (.ite t a b) Γ).bind fun d Γ1 => (evAs cf es Γ1).bind fun os Γ2 => .ok (.v d :: os) Γ2 := (rfl)
@[simp] theorem q_as_call {f : Nat} {fs : List Ex} : evAs cf (.call f fs :: es) Γ = (evE cf (.call f fs) Γ).bind fun d Γ1 => (evAs cf es Γ1).bind fun os Γ2 => .ok (.v d :: os) Γ2 := (rfl)
@[simp] theorem q_as_idxF {ix : Ex} : evAs cf (.idxF j ix :: es) Γ = (evE cf (.idxF j ix) Γ).bind fun d Γ1 => (evAs cf es Γ1).bind fun os Γ2 => .ok (.v d :: os) Γ2 := (rfl)
@[simp] theorem q_as_pop : evAs cf (.pop j :: es) Γ = (evE cf (.pop j) Γ).bind fun d Γ1 => (evAs cf es Γ1).bind fun os Γ2 => .ok (.v d :: os) Γ2 := (rfl)
@[simp] theorem q_as_index {ix : Ex} : evAs cf (.index j ix :: es) Γ = (evE cf (.index j ix) Γ).bind fun d Γ1 => (evAs cf es Γ1).bind fun os Γ2 => .ok (.v d :: os) Γ2 := (rfl)
@[simp] theorem q_as_lc {own : List Nat} {tg : Tg} {it : It} {c : Tx} {e : Ex} : evAs cf (.lc own tg it c e :: es) Γ = (evE cf (.lc own tg it c e) Γ).bind fun d Γ1 => (evAs cf es Γ1).bind fun os Γ2 => .ok (.v d :: os) Γ2 := (rfl)
@[simp] theorem q_f0 : fetch Γ [] [] = some [] := (rfl)
@[simp] theorem q_f_pk : fetch Γ (.pk i :: es) (.r :: os) = (gt Γ i).bind fun d => (fetch Γ es os).map (d :: ·) := (rfl)
@[simp] theorem q_f_ob : fetch Γ (.ob i :: es) (.r :: os) = (gt Γ i).bind fun d => (fetch Γ es os).map (d :: ·) := (rfl)
@[simp] theorem q_f_pki {ix : Ex} {n : Int} : fetch Γ (.pki j ix :: es) (.ix n :: os) = (((gt Γ j).bind items?).bind fun xs => ixD xs n).bind fun d => (fetch Γ es os).map (d :: ·) := (rfl)
@[simp] theorem q_f_v {ex : Ex} : fetch Γ (ex :: es) (.v d :: os) = (fetch Γ es os).map (d :: ·) := by cases ex <;> rfl
@[simp] theorem q_t0 : take Γ [] [] = some ⟨[], Γ, false⟩ := (rfl)
@[simp] theorem q_t_pk : take Γ (.pk i :: es) (.r :: os) = (gt Γ i).bind fun d => (take (Γ.set i (some .gone)) es os).map fun t => ⟨d :: t.ds, t.Γ, t.nc⟩ := (rfl)
@[simp] theorem q_t_ob : take Γ (.ob i :: es) (.r :: os) = if (pkI es).contains i = true then none else (gt Γ i).bind fun d => (take Γ es os).map fun t => if dup d = true then ⟨d :: t.ds, t.Γ, t.nc⟩ else ⟨frz d :: t.ds, t.Γ, true⟩ := (rfl)
@[simp] theorem q_t_v {ex : Ex} : take Γ (ex :: es) (.v d :: os) = (take Γ es os).map fun t => ⟨d :: t.ds, t.Γ, t.nc⟩ := by cases ex <;> rfl
@[simp] theorem q_pkI0 : pkI [] = [] := (rfl)
@[simp] theorem q_back0 : back Γ [] ds = Γ := by cases ds <;> rfl
@[simp] theorem q_back_pk : back Γ (.pk i :: es) (d :: ds) = back (Γ.set i (some d)) es ds := (rfl)
theorem q_back_x {ex : Ex} (h : ∀ i, ex ≠ .pk i) : back Γ (ex :: es) (d :: ds) = back Γ es ds := by cases ex <;> first | rfl | exact absurd rfl (h _)
@[simp] theorem q_back_ob : back Γ (.ob i :: es) (d :: ds) = back Γ es ds := (rfl)
@[simp] theorem q_back_var : back Γ (.var i :: es) (d :: ds) = back Γ es ds := (rfl)
@[simp] theorem q_back_cst {q : Cst} : back Γ (.cst q :: es) (d :: ds) = back Γ es ds := (rfl)
@[simp] theorem q_back_glb {q : Cst} {g : Nat} : back Γ (.glb g q :: es) (d :: ds) = back Γ es ds := (rfl)
@[simp] theorem q_back_tup {fs : List Ex} : back Γ (.tup fs :: es) (d :: ds) = back Γ es ds := (rfl)
@[simp] theorem q_back_lst {fs : List Ex} : back Γ (.lst fs :: es) (d :: ds) = back Γ es ds := (rfl)
@[simp] theorem q_back_op {f : Fm} {o : Op} {fs : List Ex} : back Γ (.op f o fs :: es) (d :: ds) = back Γ es ds := (rfl)
@[simp] theorem q_back_tst {t : Tx} : back Γ (.tst t :: es) (d :: ds) = back Γ es ds := (rfl)
@[simp] theorem q_back_ite {t : Tx} {a b : Ex} : back Γ (.ite t a b :: es) (d :: ds) = back Γ es ds := (rfl)
@[simp] theorem q_back_call {f : Nat} {fs : List Ex} : back Γ (.call f fs :: es) (d :: ds) = back Γ es ds := (rfl)
@[simp] theorem q_back_lc {own : List Nat} {tg : Tg} {it : It} {c : Tx} {e : Ex} : back Γ (.lc own tg it c e :: es) (d :: ds) = back Γ es ds := (rfl)
@[simp] theorem q_alls0 : alls [] = some [] := (rfl)
@[simp] theorem q_alls1 : alls (.v d :: os) = (alls os).map (d :: ·) := (rfl)
/-! tests -/
@[simp] theorem q_T_yes : evT cf .yes Γ = .ok true Γ := (rfl)
def cmpR' (Γ : En) (o : OpC) : Option (List D) → R Bool
  | some [d, e] => optR Γ (cmpF o d e)
  | _ => .bad
@[simp] theorem q_cmpR' {o : OpC} : cmpR' Γ o (some [d, e]) = optR Γ (cmpF o d e) := (rfl)
@[simp] theorem q_T_cmp {o : OpC} : evT cf (.cmp o es) Γ = (evAs cf es Γ).bind fun os Γ1 => cmpR' Γ1 o (fetch Γ1 es os) := (rfl)
@[simp] theorem q_B_cmp {o : OpC} : evB cf (.cmp o es) Γ = (evAs cf es Γ).bind fun os Γ1 => cmpR' Γ1 o (fetch Γ1 es os) := (rfl)
def chnR (cf : CF) (Γ1 : En) (o p : OpC) (c : Ex) : Option (List D) → R Bool
  | some [d, e] => if flat e = true then (optR Γ1 (cmpF o d e)).bind fun k Γ2 => if k = true then (evE cf c Γ2).bind fun g Γ3 => optR Γ3 (cmpF p e g) else .ok false Γ2 else .bad
  | _ => .bad
@[simp] theorem q_chnR {o p : OpC} {c : Ex} : chnR cf Γ1 o p c (some [d, e]) = if flat e = true then (optR Γ1 (cmpF o d e)).bind fun k Γ2 => if k = true then (evE cf c Γ2).bind fun g Γ3 => optR Γ3 (cmpF p e g) else .ok false Γ2 else .bad := (rfl)
@[simp] theorem q_T_chn {o p : OpC} {c : Ex} : evT cf (.chn o p es c) Γ = (evAs cf es Γ).bind fun os Γ1 => chnR cf Γ1 o p c (fetch Γ1 es os) := (rfl)
@[simp] theorem q_B_chn {o p : OpC} {c : Ex} : evB cf (.chn o p es c) Γ = (evAs cf es Γ).bind fun os Γ1 => chnR cf Γ1 o p c (fetch Γ1 es os) := (rfl)
@[simp] theorem q_T_and {ts : List Tx} : evT cf (.and ts) Γ = evAnd cf ts Γ := (rfl)
@[simp] theorem q_T_or {ts : List Tx} : evT cf (.or ts) Γ = evOr cf ts Γ := (rfl)
@[simp] theorem q_T_not {t : Tx} : evT cf (.not t) Γ = (evT cf t Γ).bind fun b Γ1 => .ok (!b) Γ1 := (rfl)
@[simp] theorem q_and0 : evAnd cf [] Γ = .ok true Γ := (rfl)
@[simp] theorem q_and1 {t : Tx} {ts : List Tx} : evAnd cf (t :: ts) Γ = (evT cf t Γ).bind fun b Γ1 => if b = true then evAnd cf ts Γ1 else .ok false Γ1 := (rfl)
@[simp] theorem q_or0 : evOr cf [] Γ = .ok false Γ := (rfl)
@[simp] theorem q_or1 {t : Tx} {ts : List Tx} : evOr cf (t :: ts) Γ = (evT cf t Γ).bind fun b Γ1 => if b = true then .ok true Γ1 else evOr cf ts Γ1 := (rfl)
@[simp] theorem q_B_and {ts : List Tx} : evB cf (.and ts) Γ = evAndB cf ts Γ := (rfl)
@[simp] theorem q_B_or {ts : List Tx} : evB cf (.or ts) Γ = evOrB cf ts Γ := (rfl)
@[simp] theorem q_B_not {t : Tx} : evB cf (.not t) Γ = (evB cf t Γ).bind fun b Γ1 => .ok (!b) Γ1 := (rfl)
@[simp] theorem q_andB1 {t : Tx} : evAndB cf [t] Γ = evB cf t Γ := (rfl)
@[simp] theorem q_andB2 {t u : Tx} {ts : List Tx} : evAndB cf (t :: u :: ts) Γ = (evB cf t Γ).bind fun b Γ1 => if b = true then evAndB cf (u :: ts) Γ1 else .ok false Γ1 := (rfl)
@[simp] theorem q_orB1 {t : Tx} : evOrB cf [t] Γ = evB cf t Γ := (rfl)
@[simp] theorem q_orB2 {t u : Tx} {ts : List Tx} : evOrB cf (t :: u :: ts) Γ = (evB cf t Γ).bind fun b Γ1 => if b = true then .ok true Γ1 else evOrB cf (u :: ts) Γ1 := (rfl)
def trR (Γ : En) : Option (List D) → R Bool
  | some [d] => optR Γ (truF d)
  | _ => .bad
@[simp] theorem q_trR : trR Γ (some [d]) = optR Γ (truF d) := (rfl)
@[simp] theorem q_T_tr : evT cf (.tr es) Γ = (evAs cf es Γ).bind fun os Γ1 => trR Γ1 (fetch Γ1 es os) := (rfl)
def trB (Γ : En) : Option (List D) → R Bool
  | some [.bl b] => .ok b Γ
  | _ => .bad
@[simp] theorem q_trB {b : Bool} : trB Γ (some [.bl b]) = .ok b Γ := (rfl)
@[simp] theorem q_B_tr : evB cf (.tr es) Γ = (evAs cf es Γ).bind fun os Γ1 => trB Γ1 (fetch Γ1 es os) := (rfl)
@[simp] theorem q_tru_bl {b : Bool} : truF (.bl b) = some b := (rfl)
@[simp] theorem q_tru_int {a : Int} : truF (.int a) = some (a != 0) := (rfl)
@[simp] theorem q_tru_non : truF .non = some false := (rfl)
@[simp] theorem q_lt {a b : Int} : cmpF .lt (.int a) (.int b) = some (decide (a < b)) := (rfl)
@[simp] theorem q_le {a b : Int} : cmpF .le (.int a) (.int b) = some (decide (a ≤ b)) := (rfl)
@[simp] theorem q_cgt {a b : Int} : cmpF .gt (.int a) (.int b) = some (decide (b < a)) := (rfl)
@[simp] theorem q_cge {a b : Int} : cmpF .ge (.int a) (.int b) = some (decide (b ≤ a)) := (rfl)
@[simp] theorem q_ceq {a b : Int} : cmpF .eq (.int a) (.int b) = some (decide (a = b)) := by
  show some (eqD (.int a) (.int b)) = _
  congr 1
@[simp] theorem q_cne {a b : Int} : cmpF .ne (.int a) (.int b) = some (!decide (a = b)) := by
  show some (!eqD (.int a) (.int b)) = _
  congr 1
@[simp] theorem q_isn_non : cmpF .isn .non .non = some true := (rfl)
@[simp] theorem q_isn_int {a : Int} : cmpF .isn (.int a) .non = some false := (rfl)
@[simp] theorem q_isn_tup : cmpF .isn (.tup xs) .non = some false := (rfl)
@[simp] theorem q_isn_lst {o : Fl} : cmpF .isn (.lst o xs) .non = some false := (rfl)
@[simp] theorem q_isn_bl {b : Bool} : cmpF .isn (.bl b) .non = some false := (rfl)
@[simp] theorem q_notn_non : cmpF .notn .non .non = some false := (rfl)
@[simp] theorem q_notn_int {a : Int} : cmpF .notn (.int a) .non = some true := (rfl)
@[simp] theorem q_notn_tup : cmpF .notn (.tup xs) .non = some true := (rfl)
@[simp] theorem q_notn_lst {o : Fl} : cmpF .notn (.lst o xs) .non = some true := (rfl)
@[simp] theorem q_flat_int {a : Int} : flat (.int a) = true := (rfl)
/-! operators -/
@[simp] theorem q_add : opF .add [c, e] = addF c e := (rfl)
@[simp] theorem q_sub : opF .sub [c, e] = intF (fun _ _ => true) (fun i j => i - j) c e := (rfl)
@[simp] theorem q_mul : opF .mul [c, e] = mulF c e := (rfl)
@[simp] theorem q_fdiv : opF .fdiv [c, e] = intF (fun _ j => okDiv j) (fun i j => i / j) c e := (rfl)
@[simp] theorem q_mod : opF .mod [c, e] = intF (fun _ j => decide (0 < j)) (fun i j => i % j) c e := (rfl)
@[simp] theorem q_pow : opF .pow [c, e] = intF okPow (fun i j => i ^ j.toNat) c e := (rfl)
@[simp] theorem q_neg : opF .neg [c] = negF c := (rfl)
@[simp] theorem q_len : opF .len [c] = lenF c := (rfl)
@[simp] theorem q_abs : opF .abs [c] = absF c := (rfl)
@[simp] theorem q_int : opF .int [c] = int1F c := (rfl)
@[simp] theorem q_sum : opF .sum [c] = sumF c := (rfl)
@[simp] theorem q_max2 : opF .max [c, e] = max2F c e := (rfl)
@[simp] theorem q_min2 : opF .min [c, e] = min2F c e := (rfl)
@[simp] theorem q_max1 : opF .max [c] = maxF c := (rfl)
@[simp] theorem q_min1 : opF .min [c] = minF c := (rfl)
@[simp] theorem q_sorted : opF .sorted [c] = sortF c := (rfl)
@[simp] theorem q_list : opF .list [c] = listF c := (rfl)
@[simp] theorem q_range1 : opF .range1 [c] = rgF (.int 0) c := (rfl)
@[simp] theorem q_range2 : opF .range2 [c, e] = rgF c e := (rfl)
@[simp] theorem q_opidx : opF .idx [c, e] = idxF c e := (rfl)
@[simp] theorem q_opcut : opF .cut [c, d, e] = (int? d).bind fun i => (int? e).bind fun j => cutF c (some i) (some j) := (rfl)
@[simp] theorem q_opcutL : opF .cutL [c, d] = (int? d).bind fun i => cutF c (some i) none := (rfl)
@[simp] theorem q_opcutR : opF .cutR [c, e] = (int? e).bind fun j => cutF c none (some j) := (rfl)
@[simp] theorem q_oprev : opF .rev [c] = revF c := (rfl)
@[simp] theorem q_isI : opF .isI [d] = isF .int d := (rfl)
@[simp] theorem q_isB : opF .isB [d] = isF .bl d := (rfl)
@[simp] theorem q_isS : opF .isS [d] = isF .str d := (rfl)
@[simp] theorem q_isT : opF .isT [d] = isF .tup d := (rfl)
@[simp] theorem q_isL : opF .isL [d] = isF .lst d := (rfl)
@[simp] theorem q_addF {a b : Int} : addF (.int a) (.int b) = some (.int (a + b)) := (rfl)
@[simp] theorem q_addL {o p : Fl} : addF (.lst o xs) (.lst p ys) = guardO (dupL xs && dupL ys && decide (xs.length + ys.length ≤ line)) (some (.lst .own (xs ++ ys))) := (rfl)
@[simp] theorem q_intF {a b : Int} {g : Int → Int → Bool} {h : Int → Int → Int} : intF g h (.int a) (.int b) = guardO (g a b) (some (.int (h a b))) := (rfl)
@[simp] theorem q_mulF {a b : Int} : mulF (.int a) (.int b) = guardO (okMul a b) (some (.int (a * b))) := (rfl)
@[simp] theorem q_negF {a : Int} : negF (.int a) = some (.int (-a)) := (rfl)
@[simp] theorem q_lenF {o : Fl} : lenF (.lst o xs) = some (.int xs.length) := (rfl)
@[simp] theorem q_lenT : lenF (.tup xs) = some (.int xs.length) := (rfl)
@[simp] theorem q_absF {a : Int} : absF (.int a) = some (.int (if a < 0 then -a else a)) := (rfl)
@[simp] theorem q_int1F {a : Int} : int1F (.int a) = some (.int a) := (rfl)
@[simp] theorem q_max2F {a b : Int} : max2F (.int a) (.int b) = some (.int (if b > a then b else a)) := (rfl)
@[simp] theorem q_min2F {a b : Int} : min2F (.int a) (.int b) = some (.int (if b < a then b else a)) := (rfl)
@[simp] theorem q_intq {a : Int} : int? (.int a) = some a := (rfl)
@[simp] theorem q_idxL {o : Fl} {a : Int} : idxF (.lst o xs) (.int a) = ixO xs a := (rfl)
@[simp] theorem q_idxT {a : Int} : idxF (.tup xs) (.int a) = ixO xs a := (rfl)
@[simp] theorem q_guardT {x : Option α} : guardO true x = x := (rfl)
@[simp] theorem q_guardF {x : Option α} : guardO false x = none := (rfl)
@[simp] theorem q_guard {p : Prop} [Decidable p] {x : Option α} : guardO (decide p) x = if p then x else none := by
  unfold guardO
  by_cases h : p <;> simp [h]
@[simp] theorem q_ixO {a : Int} : ixO xs a = (ixD xs a).bind fun d => guardO (dup d) (some d) := (rfl)
@[simp] theorem q_ix0 : ixD xs 0 = xs[0]? := (rfl)
@[simp] theorem q_ix1 : ixD xs 1 = xs[1]? := (rfl)
@[simp] theorem q_ix2 : ixD xs 2 = xs[2]? := (rfl)
@[simp] theorem q_ix3 : ixD xs 3 = xs[3]? := (rfl)
@[simp] theorem q_ix4 : ixD xs 4 = xs[4]? := (rfl)
@[simp] theorem q_ix5 : ixD xs 5 = xs[5]? := (rfl)
@[simp] theorem q_ix6 : ixD xs 6 = xs[6]? := (rfl)
@[simp] theorem q_ix7 : ixD xs 7 = xs[7]? := (rfl)
@[simp] theorem q_ix8 : ixD xs 8 = xs[8]? := (rfl)
@[simp] theorem q_ix9 : ixD xs 9 = xs[9]? := (rfl)
@[simp] theorem q_ix10 : ixD xs 10 = xs[10]? := (rfl)
@[simp] theorem q_ix11 : ixD xs 11 = xs[11]? := (rfl)
theorem q_ixP {a : Int} (h : 0 ≤ a) : ixD xs a = xs[a.toNat]? := if_pos h
@[simp] theorem q_isF_I {a : Int} : isF .int (.int a) = some (.bl true) := (rfl)
@[simp] theorem q_isF_B {a : Int} : isF .bl (.int a) = some (.bl false) := (rfl)
@[simp] theorem q_isF_BT : isF .bl (.tup xs) = some (.bl false) := (rfl)
@[simp] theorem q_isF_BL {o : Fl} : isF .bl (.lst o xs) = some (.bl false) := (rfl)
@[simp] theorem q_isF_IT : isF .int (.tup xs) = some (.bl false) := (rfl)
@[simp] theorem q_isF_IL {o : Fl} : isF .int (.lst o xs) = some (.bl false) := (rfl)
@[simp] theorem q_isF_ST : isF .str (.tup xs) = some (.bl false) := (rfl)
@[simp] theorem q_isF_SL {o : Fl} : isF .str (.lst o xs) = some (.bl false) := (rfl)
@[simp] theorem q_isF_TT : isF .tup (.tup xs) = some (.bl true) := (rfl)
@[simp] theorem q_isF_TL {o : Fl} : isF .tup (.lst o xs) = some (.bl false) := (rfl)
@[simp] theorem q_isF_LT : isF .lst (.tup xs) = some (.bl false) := (rfl)
@[simp] theorem q_isF_LL {o : Fl} : isF .lst (.lst o xs) = some (.bl true) := (rfl)
/-! statements -/
@[simp] theorem q_ss0 : exSs cf [] Γ = .nx Γ := (rfl)
@[simp] theorem q_ss1 {s : Stm} {ss : List Stm} : exSs cf (s :: ss) Γ = (exS cf s Γ).seq fun Γ1 => exSs cf ss Γ1 := (rfl)
def asgR (Γ : Option En) : S := match Γ with
  | some Γ2 => .nx Γ2
  | none => .bad
@[simp] theorem q_asgR : asgR (some Γ) = .nx Γ := (rfl)
@[simp] theorem q_asg {tg : Tg} {ex : Ex} : exS cf (.asg tg ex) Γ = (evE cf ex Γ).s fun d Γ1 => asgR (setG Γ1 tg d) := (rfl)
@[simp] theorem q_setG {i : Nat} : setG Γ (.nm i) d = some (Γ.set i (some d)) := (rfl)
@[simp] theorem q_setGt {is : List Nat} : setG Γ (.tp is) (.tup xs) = if is.length = xs.length then some ((is.zip xs).foldl (fun Γ p => Γ.set p.1 (some p.2)) Γ) else none := (rfl)
@[simp] theorem q_setGl {is : List Nat} {o : Fl} : setG Γ (.tp is) (.lst o xs) = if is.length = xs.length then some ((is.zip xs).foldl (fun Γ p => Γ.set p.1 (some p.2)) Γ) else none := (rfl)
def augR (Γ : En) (i : Nat) : Option D → S
  | some v => .nx (Γ.set i (some v))
  | none => .bad
@[simp] theorem q_augR : augR Γ i (some d) = .nx (Γ.set i (some d)) := (rfl)
@[simp] theorem q_augR0 : augR Γ i none = .bad := (rfl)
def augK (cf : CF) (i : Nat) (o : Op) (e : Ex) (Γ : En) : Option D → S
  | some (.int a) => (evE cf e Γ).s fun d Γ1 => augD Γ1 i o a d
  | _ => .bad
where augD (Γ1 : En) (i : Nat) (o : Op) (a : Int) : D → S
  | .int b => augR Γ1 i (opF o [.int a, .int b])
  | _ => .bad
@[simp] theorem q_augK {o : Op} {ex : Ex} {a : Int} : augK cf i o ex Γ (some (.int a)) = (evE cf ex Γ).s fun d Γ1 => augK.augD Γ1 i o a d := (rfl)
@[simp] theorem q_augD {o : Op} {a b : Int} : augK.augD Γ i o a (.int b) = augR Γ i (opF o [.int a, .int b]) := (rfl)
@[simp] theorem q_aug {o : Op} {ex : Ex} : exS cf (.aug i o ex) Γ = augK cf i o ex Γ (gt Γ i) := by
  show (match gt Γ i with
    | some (.int a) => (evE cf ex Γ).s fun d Γ1 => match d with
      | .int b => match opF o [.int a, .int b] with
        | some v => .nx (Γ1.set i (some v))
        | none => .bad
      | _ => .bad
    | _ => .bad) = _
  cases gt Γ i with
  | none => rfl
  | some d =>
    cases d with
    | int a =>
      rfl
    | _ => rfl
def setIR (Γ : En) (j : Nat) (d k : D) : Option D → S := fun l => match k, l with
  | .int k, some (.lst .own xs) => if 0 ≤ k ∧ k < xs.length then .nx (Γ.set j (some (.lst .own (xs.set k.toNat d)))) else .bad
  | _, _ => .bad
@[simp] theorem q_setIR {k : Int} : setIR Γ j d (.int k) (some (.lst .own xs)) = if 0 ≤ k ∧ k < xs.length then .nx (Γ.set j (some (.lst .own (xs.set k.toNat d)))) else .bad := (rfl)
@[simp] theorem q_setI {ix ex : Ex} : exS cf (.setI j ix ex) Γ = (evE cf ex Γ).s fun d Γ1 => if isL Γ1 j = true then (evE cf ix Γ1).s fun k Γ2 => setIR Γ2 j d k (gt Γ2 j) else .bad := (rfl)
def isLo : Option D → Bool
  | some (.lst _ _) => true
  | _ => false
@[simp] theorem q_isL1 : isL Γ j = isLo (gt Γ j) := (rfl)
@[simp] theorem q_isLo {o : Fl} : isLo (some (.lst o xs)) = true := (rfl)
def augIR (cf : CF) (j : Nat) (o : Op) (e : Ex) (Γ1 : En) : D → Option D → S
  | .int k, some (.lst .own xs) => if 0 ≤ k ∧ k < xs.length then augJ k xs[k.toNat]? else .bad
  | _, _ => .bad
where
  augJ (k : Int) : Option D → S
  | some (.int c) => (evE cf e Γ1).s fun d Γ2 => augL k c Γ2 d
  | _ => .bad
  augL (k c : Int) (Γ2 : En) : D → S
  | .int b => augM k Γ2 (opF o [.int c, .int b]) (gt Γ2 j)
  | _ => .bad
  augM (k : Int) (Γ2 : En) : Option D → Option D → S
  | some v, some (.lst .own ys) => if k < ys.length then .nx (Γ2.set j (some (.lst .own (ys.set k.toNat v)))) else .bad
  | _, _ => .bad
@[simp] theorem q_augIR {o : Op} {ex : Ex} {k : Int} : augIR cf j o ex Γ (.int k) (some (.lst .own xs)) = if 0 ≤ k ∧ k < xs.length then augIR.augJ cf j o ex Γ k xs[k.toNat]? else .bad := (rfl)
@[simp] theorem q_augJ {o : Op} {ex : Ex} {k c : Int} : augIR.augJ cf j o ex Γ k (some (.int c)) = (evE cf ex Γ).s fun d Γ2 => augIR.augL j o k c Γ2 d := (rfl)
@[simp] theorem q_augL {o : Op} {k c b : Int} : augIR.augL j o k c Γ (.int b) = augIR.augM j k Γ (opF o [.int c, .int b]) (gt Γ j) := (rfl)
@[simp] theorem q_augM {k : Int} : augIR.augM j k Γ (some d) (some (.lst .own ys)) = if k < ys.length then .nx (Γ.set j (some (.lst .own (ys.set k.toNat d)))) else .bad := (rfl)
@[simp] theorem q_augI {o : Op} {ix ex : Ex} : exS cf (.augI j ix o ex) Γ = if isL Γ j = true then (evE cf ix Γ).s fun k Γ1 => augIR cf j o ex Γ1 k (gt Γ1 j) else .bad := (rfl)
def appR (Γ : En) (j : Nat) (d : D) : Option D → S
  | some (.lst .own xs) => if xs.length < line then .nx (Γ.set j (some (.lst .own (xs ++ [d])))) else .bad
  | _ => .bad
@[simp] theorem q_appR : appR Γ j d (some (.lst .own xs)) = if xs.length < line then .nx (Γ.set j (some (.lst .own (xs ++ [d])))) else .bad := (rfl)
@[simp] theorem q_app {ex : Ex} : exS cf (.app j ex) Γ = if isL Γ j = true then (evE cf ex Γ).s fun d Γ1 => appR Γ1 j d (gt Γ1 j) else .bad := (rfl)
@[simp] theorem q_exp {ex : Ex} : exS cf (.exp ex) Γ = (evE cf ex Γ).s fun _ Γ1 => .nx Γ1 := (rfl)
@[simp] theorem q_ret {ex : Ex} : exS cf (.ret ex) Γ = (evE cf ex Γ).s fun d Γ1 => .rt d Γ1 := (rfl)
@[simp] theorem q_retN : exS cf .retN Γ = .rt .non Γ := (rfl)
@[simp] theorem q_iff {t : Tx} {a b : List Stm} : exS cf (.iff t a b) Γ = (evT cf t Γ).s fun c Γ1 => if c = true then exSs cf a Γ1 else exSs cf b Γ1 := (rfl)
@[simp] theorem q_fr {tg : Tg} {it : It} {fg : List Nat} {b : List Stm} : exS cf (.fr tg it fg b) Γ = (evI cf it Γ).s fun xs Γ1 => mapS (fun Γ9 => unlendI Γ1 Γ9 it) (loopS (frF cf tg fg b) xs (wipeE (lendI Γ1 it) fg)) := (rfl)
@[simp] theorem q_whl {t : Tx} {fg : List Nat} {b : List Stm} : exS cf (.whl t fg b) Γ = loopW (evT cf t) (whF cf fg b) wfuel (wipeE Γ fg) := (rfl)
@[simp] theorem q_bk : exS cf .bk Γ = .bk Γ := (rfl)
@[simp] theorem q_ct : exS cf .ct Γ = .ct Γ := (rfl)
@[simp] theorem q_pass : exS cf .pass Γ = .nx Γ := (rfl)
@[simp] theorem q_wipe0 : wipeE Γ [] = Γ := (rfl)
@[simp] theorem q_wipe1 {is : List Nat} : wipeE Γ (i :: is) = (wipeE Γ is).set i none := (rfl)
@[simp] theorem q_leave_rt {p : Def} : leave p (.rt d Γ) = .ok d (finL p.io Γ) := (rfl)
@[simp] theorem q_leave_nx {p : Def} : leave p (.nx Γ) = .ok .non (finL p.io Γ) := (rfl)
@[simp] theorem q_fin0 : finL [] Γ = [] := (rfl)
@[simp] theorem q_finT {bs : List Bool} : finL (true :: bs) (some d :: Γ) = d :: finL bs Γ := (rfl)
@[simp] theorem q_finN {bs : List Bool} : finL (true :: bs) (none :: Γ) = .gone :: finL bs Γ := (rfl)
@[simp] theorem q_finF {bs : List Bool} {o : Option D} : finL (false :: bs) (o :: Γ) = .gone :: finL bs Γ := (rfl)
/-! what is walked -/
@[simp] theorem q_I_pk : evI cf (.seq (.pk j)) Γ = optR Γ ((gt Γ j).bind walk?) := (rfl)
theorem q_I_v {ex : Ex} (h : isVal ex = true) : evI cf (.seq ex) Γ = (evE cf ex Γ).bind fun d Γ1 => optR Γ1 (walk? d) := haveI : TC := ⟨[]⟩; evI_seq h
def rgR (Γ : En) (lo : Int) : D → R (List D)
  | .int j => if (okRg lo && okRg j) = true then .ok (rangeL lo j) Γ else .bad
  | _ => .bad
@[simp] theorem q_rgR {lo j : Int} : rgR Γ lo (.int j) = if (okRg lo && okRg j) = true then .ok (rangeL lo j) Γ else .bad := (rfl)
@[simp] theorem q_rng1 {a : Ex} : evI cf (.rng1 a) Γ = (evE cf a Γ).bind fun d Γ1 => rgR Γ1 0 d := by
  show ((evE cf a Γ).bind fun d Γ1 => match d with
    | .int j => if okRg j = true then .ok (rangeL 0 j) Γ1 else .bad
    | _ => .bad) = _
  congr 1
def rg2R (Γ : En) (d e : D) : R (List D) := match d with
  | .int lo => rgR Γ lo e
  | _ => .bad
@[simp] theorem q_rg2R {lo : Int} : rg2R Γ (.int lo) e = rgR Γ lo e := (rfl)
@[simp] theorem q_rng2 {a b : Ex} : evI cf (.rng2 a b) Γ = (evE cf a Γ).bind fun d Γ1 => (evE cf b Γ1).bind fun e Γ2 => rg2R Γ2 d e := by
  show ((evE cf a Γ).bind fun d Γ1 => (evE cf b Γ1).bind fun e Γ2 => match d, e with
    | .int i, .int j => if (okRg i && okRg j) = true then .ok (rangeL i j) Γ2 else .bad
    | _, _ => .bad) = _
  congr 1
  funext d Γ1
  congr 1
  funext e Γ2
  cases d <;> first | rfl | (cases e <;> rfl)
@[simp] theorem q_lendI1 {a : Ex} : lendI Γ (.rng1 a) = Γ := (rfl)
@[simp] theorem q_lendI2 {a b : Ex} : lendI Γ (.rng2 a b) = Γ := (rfl)
@[simp] theorem q_unlI1 {a : Ex} : unlendI Γ1 Γ (.rng1 a) = Γ := (rfl)
@[simp] theorem q_unlI2 {a b : Ex} : unlendI Γ1 Γ (.rng2 a b) = Γ := (rfl)
@[simp] theorem q_mapS_nx {g : En → En} : mapS g (.nx Γ) = .nx (g Γ) := (rfl)
@[simp] theorem q_mapS_rt {g : En → En} : mapS g (.rt d Γ) = .rt d (g Γ) := (rfl)
@[simp] theorem q_loopS0 {f : D → En → S} : loopS f [] Γ = .nx Γ := (rfl)
def loopN (f : D → En → S) (xs : List D) : S → S
  | .nx Γ1 => loopS f xs Γ1
  | .ct Γ1 => loopS f xs Γ1
  | .bk Γ1 => .nx Γ1
  | .rt d Γ1 => .rt d Γ1
  | .ex c ds Γ1 => .ex c ds Γ1
  | .bad => .bad
@[simp] theorem q_loopN_nx {f : D → En → S} : loopN f xs (.nx Γ) = loopS f xs Γ := (rfl)
@[simp] theorem q_loopN_ct {f : D → En → S} : loopN f xs (.ct Γ) = loopS f xs Γ := (rfl)
@[simp] theorem q_loopN_bk {f : D → En → S} : loopN f xs (.bk Γ) = .nx Γ := (rfl)
@[simp] theorem q_loopN_rt {f : D → En → S} : loopN f xs (.rt d Γ) = .rt d Γ := (rfl)
theorem q_loopS1 {f : D → En → S} : loopS f (d :: xs) Γ = loopN f xs (f d Γ) := by
  show (match f d Γ with
    | .nx Γ1 => loopS f xs Γ1
    | .ct Γ1 => loopS f xs Γ1
    | .bk Γ1 => .nx Γ1
    | .rt d Γ1 => .rt d Γ1
    | .ex c ds Γ1 => .ex c ds Γ1
    | .bad => .bad) = _
  cases f d Γ <;> rfl
@[simp] theorem q_fg_nx {fg : List Nat} : fgS fg (.nx Γ) = .nx (wipeE Γ fg) := (rfl)
@[simp] theorem q_fg_ct {fg : List Nat} : fgS fg (.ct Γ) = .ct (wipeE Γ fg) := (rfl)
@[simp] theorem q_fg_bk {fg : List Nat} : fgS fg (.bk Γ) = .bk (wipeE Γ fg) := (rfl)
@[simp] theorem q_fg_rt {fg : List Nat} : fgS fg (.rt d Γ) = .rt d Γ := (rfl)
end

/-! lists walked by their names, comprehensions -/
section
variable {cf : CF} {Γ Γ0 Γ1 : En} {i j : Nat} {d : D} {xs ys : List D}
def lendJ (Γ : En) (j : Nat) : Option D → En
  | some (.lst .shr _) => Γ
  | some (.lst _ xs) => Γ.set j (some (.lst .lent (frzL xs)))
  | some (.tup xs) => if dupL xs = true then Γ else Γ.set j (some (.tup (frzL xs)))
  | _ => Γ
@[simp] theorem q_lendI : lendI Γ (.seq (.pk j)) = lendJ Γ j (gt Γ j) := (rfl)
@[simp] theorem q_lendJ_own : lendJ Γ j (some (.lst .own xs)) = Γ.set j (some (.lst .lent (frzL xs))) := (rfl)
@[simp] theorem q_lendJ_lent : lendJ Γ j (some (.lst .lent xs)) = Γ.set j (some (.lst .lent (frzL xs))) := (rfl)
@[simp] theorem q_lendJ_shr : lendJ Γ j (some (.lst .shr xs)) = Γ := (rfl)
@[simp] theorem q_lendJ_tup : lendJ Γ j (some (.tup xs)) = if dupL xs = true then Γ else Γ.set j (some (.tup (frzL xs))) := (rfl)
def unlJ (Γ : En) (j : Nat) : Option D → Option D → En
  | some (.lst .own _), some (.lst .lent ys) => Γ.set j (some (.lst .own ys))
  | _, _ => Γ
@[simp] theorem q_unlI : unlendI Γ0 Γ (.seq (.pk j)) = unlJ Γ j (gt Γ0 j) (gt Γ j) := by
  show unlendE Γ0 Γ (.pk j) = _
  unfold unlendE unlJ
  rfl
@[simp] theorem q_unlJ_own : unlJ Γ j (some (.lst .own xs)) (some (.lst .lent ys)) = Γ.set j (some (.lst .own ys)) := (rfl)
@[simp] theorem q_unlJ_lent {o : Option D} : unlJ Γ j (some (.lst .lent xs)) o = Γ := (rfl)
@[simp] theorem q_unlJ_shr {o : Option D} : unlJ Γ j (some (.lst .shr xs)) o = Γ := (rfl)
@[simp] theorem q_unlJ_tup {o : Option D} : unlJ Γ j (some (.tup xs)) o = Γ := (rfl)
@[simp] theorem q_lendI_lc {own : List Nat} {tg : Tg} {it : It} {c : Tx} {e : Ex} : lendI Γ (.seq (.lc own tg it c e)) = Γ := (rfl)
@[simp] theorem q_lendI_op {f : Fm} {o : Op} {es : List Ex} : lendI Γ (.seq (.op f o es)) = Γ := (rfl)
@[simp] theorem q_lendI_call {f : Nat} {es : List Ex} : lendI Γ (.seq (.call f es)) = Γ := (rfl)
@[simp] theorem q_lendI_var : lendI Γ (.seq (.var i)) = Γ := (rfl)
@[simp] theorem q_unlI_op {f : Fm} {o : Op} {es : List Ex} : unlendI Γ0 Γ (.seq (.op f o es)) = Γ := (rfl)
@[simp] theorem q_unlI_call {f : Nat} {es : List Ex} : unlendI Γ0 Γ (.seq (.call f es)) = Γ := (rfl)
@[simp] theorem q_unlI_var : unlendI Γ0 Γ (.seq (.var i)) = Γ := (rfl)
@[simp] theorem q_I_op {f : Fm} {o : Op} {es : List Ex} : evI cf (.seq (.op f o es)) Γ = (evE cf (.op f o es) Γ).bind fun d Γ1 => optR Γ1 (walk? d) := (rfl)
@[simp] theorem q_I_call {f : Nat} {es : List Ex} : evI cf (.seq (.call f es)) Γ = (evE cf (.call f es) Γ).bind fun d Γ1 => optR Γ1 (walk? d) := (rfl)
@[simp] theorem q_I_var : evI cf (.seq (.var i)) Γ = (evE cf (.var i) Γ).bind fun d Γ1 => optR Γ1 (walk? d) := (rfl)
@[simp] theorem q_walk_own : walk? (.lst .own xs) = some (frzL xs) := (rfl)
@[simp] theorem q_walk_lent : walk? (.lst .lent xs) = some (frzL xs) := (rfl)
@[simp] theorem q_walk_shr : walk? (.lst .shr xs) = some xs := (rfl)
@[simp] theorem q_walk_tup : walk? (.tup xs) = some (if dupL xs = true then xs else frzL xs) := (rfl)
@[simp] theorem q_frz0 : frzL [] = [] := (rfl)
@[simp] theorem q_frz1 : frzL (d :: xs) = frz d :: frzL xs := (rfl)
@[simp] theorem q_frz_int {a : Int} : frz (.int a) = .int a := (rfl)
@[simp] theorem q_frz_own : frz (.lst .own xs) = .lst .shr (frzL xs) := (rfl)
@[simp] theorem q_frz_lent : frz (.lst .lent xs) = .lst .shr (frzL xs) := (rfl)
@[simp] theorem q_frz_shr : frz (.lst .shr xs) = .lst .shr (frzL xs) := (rfl)
@[simp] theorem q_frz_tup : frz (.tup xs) = .tup (frzL xs) := (rfl)
@[simp] theorem q_frz_ints : ∀ ns : List Int, frzL (ns.map D.int) = ns.map D.int
  | [] => rfl
  | n :: ns => by rw [List.map_cons, q_frz1, q_frz_int, q_frz_ints ns]
@[simp] theorem q_dup_ints : ∀ ns : List Int, dupL (ns.map D.int) = true
  | [] => rfl
  | n :: ns => by rw [List.map_cons, q_dupL1, q_dup_ints ns]; rfl
@[simp] theorem q_ints_ints : ∀ ns : List Int, ints? (ns.map D.int) = some ns
  | [] => rfl
  | n :: ns => by
    rw [List.map_cons]
    show (ints? (ns.map D.int)).map (n :: ·) = _
    rw [q_ints_ints ns]
    rfl
@[simp] theorem q_ints0 : ints? [] = some [] := (rfl)
@[simp] theorem q_ints1 {a : Int} : ints? (.int a :: xs) = (ints? xs).map (a :: ·) := (rfl)
@[simp] theorem q_sumF {o : Fl} : sumF (.lst o xs) = (ints? xs).map fun ns => .int ns.sum := (rfl)
@[simp] theorem q_cutF {o : Fl} {lo hi : Option Int} : cutF (.lst o xs) lo hi = guardO (dupL xs) (some (.lst .own (cutD xs lo hi))) := (rfl)
def lcK (cf : CF) (own : List Nat) (c : Tx) (e : Ex) : Option En → R (Option D)
  | some Γ4 => (evT cf c Γ4).bind fun b Γ5 => if b = true then (evE cf e Γ5).bind fun y Γ6 => .ok (some y) (wipeE Γ6 own) else .ok none (wipeE Γ5 own)
  | none => .bad
@[simp] theorem q_lcF {own : List Nat} {tg : Tg} {c : Tx} {e : Ex} : lcF cf own tg c e d Γ = lcK cf own c e (setG (wipeE Γ own) tg d) := by
  unfold lcF lcK
  rfl
@[simp] theorem q_lcK {own : List Nat} {c : Tx} {e : Ex} : lcK cf own c e (some Γ) = (evT cf c Γ).bind fun b Γ5 => if b = true then (evE cf e Γ5).bind fun y Γ6 => .ok (some y) (wipeE Γ6 own) else .ok none (wipeE Γ5 own) := (rfl)
theorem loopC_fm {f : D → En → R (Option D)} {g : D → Option D} : ∀ {xs : List D}, (∀ x, x ∈ xs → f x Γ = .ok (g x) Γ) → loopC f xs Γ = .ok (xs.filterMap g) Γ
  | [], _ => rfl
  | x :: xs, h => by
    unfold loopC
    rw [h x List.mem_cons_self, q_bind_ok, loopC_fm fun y hy => h y (List.mem_cons_of_mem _ hy), q_bind_ok, List.filterMap_cons]
    cases g x <;> rfl
/-- .. over ints: kept, and what is made of each -/
theorem loopC_ints {f : D → En → R (Option D)} {p : Int → Bool} {g : Int → Int} {ns : List Int} (h : ∀ n, n ∈ ns → f (.int n) Γ = .ok (if p n = true then some (.int (g n)) else none) Γ) : loopC f (ns.map D.int) Γ = .ok (((ns.filter p).map g).map D.int) Γ := by
  induction ns with
  | nil => rfl
  | cons n ns ih =>
    rw [List.map_cons]
    unfold loopC
    rw [h n List.mem_cons_self, q_bind_ok, ih fun m hm => h m (List.mem_cons_of_mem _ hm), q_bind_ok]
    by_cases hp : p n = true
    · rw [if_pos hp, List.filter_cons_of_pos hp]
      rfl
    · rw [if_neg hp, List.filter_cons_of_neg hp]
end
theorem run_of {T : Nat → Option Def} {k i : Nat} {p : Def} {ds : List D} (h : T i = some p) (hl : ds.length = p.np) (hk : p.kd = .plain := by rfl) : run T (k + 1) i ds = leave p (exSs (run T k) p.body (enter p ds)) := by
  show (match T i with
    | some p => if ds.length = p.np then runK p (leave p (exSs (run T k) p.body (enter p ds))) ds else .bad
    | none => .bad) = _
  rw [h]
  refine (if_pos hl).trans ?_
  unfold runK
  rw [hk]
theorem run_tld {T : Nat → Option Def} {k i : Nat} {p : Def} {ds : List D} (h : T i = some p) (hl : ds.length = p.np) (hk : p.kd = .told := by rfl) : run T (k + 1) i ds = toldRun p ds := by
  show (match T i with
    | some p => if ds.length = p.np then runK p (leave p (exSs (run T k) p.body (enter p ds))) ds else .bad
    | none => .bad) = _
  rw [h]
  refine (if_pos hl).trans ?_
  unfold runK
  rw [hk]
/-- a range walked by an invariant -/
theorem loop_range {f : D → En → S} {lo hi : Int} (G : Nat → En) (h : ∀ i : Nat, i < (hi - lo).toNat → f (.int (lo + i)) (G i) = .nx (G (i + 1))) : loopS f (rangeL lo hi) (G 0) = .nx (G (hi - lo).toNat) := by
  have key : ∀ (n m : Nat), (∀ i : Nat, i < n → f (.int (lo + ((m + i : Nat) : Int))) (G (m + i)) = .nx (G (m + i + 1))) → loopS f ((List.range' m n).map fun (k : Nat) => D.int (lo + k)) (G m) = .nx (G (m + n)) := by
    intro n
    induction n with
    | zero => intro m _; rfl
    | succ n ih =>
      intro m hm
      rw [List.range'_succ, List.map_cons, q_loopS1]
      have h0 := hm 0 (Nat.zero_lt_succ _)
      rw [Nat.add_zero] at h0
      rw [h0, q_loopN_nx]
      have := ih (m + 1) fun i hi => by
        have := hm (i + 1) (Nat.succ_lt_succ hi)
        rw [show m + 1 + i = m + (i + 1) by omega]
        exact this
      rw [this]
      congr 2
      omega
  have := key (hi - lo).toNat 0 fun i hi' => by
    have := h i hi'
    simpa using this
  rw [Nat.zero_add] at this
  unfold rangeL
  rw [List.range_eq_range']
  exact this
end VE

end
section
set_option maxHeartbeats 2000000
/-! VEt: the purse of a law, draws. -/
namespace VE
open PySem
theorem dT {p : Prop} [Decidable p] (h : p) : decide p = true := decide_eq_true h
theorem dF {p : Prop} [Decidable p] (h : ¬ p) : decide p = false := decide_eq_false h
theorem okMulL {i : Int} (j : Int) (h : -18446744073709551616 < i ∧ i < 18446744073709551616) : okMul i j = true := by
  unfold okMul
  simp [h.1, h.2]
theorem okMulR (i : Int) {j : Int} (h : -18446744073709551616 < j ∧ j < 18446744073709551616) : okMul i j = true := by
  unfold okMul
  simp [h.1, h.2]
theorem okRgI {i : Int} (h : -1000000 ≤ i ∧ i ≤ 1000000) : okRg i = true := by
  unfold okRg
  simp [h.1, h.2]
theorem exSs_app {cf : CF} {b : List Stm} : ∀ {a : List Stm} {Γ : En}, exSs cf (a ++ b) Γ = (exSs cf a Γ).seq fun Γ1 => exSs cf b Γ1
  | [], Γ => rfl
  | s :: a, Γ => by
    rw [List.cons_append, q_ss1, q_ss1]
    cases exS cf s Γ with
    | nx Γ1 => rw [q_seq_nx, q_seq_nx, exSs_app]
    | _ => rfl
theorem loop_upto {f : D → En → S} {hi : Int} {Γ : En} (n : Nat) (G : Nat → En) (hn : hi = n) (e0 : Γ = G 0) (h : ∀ i : Nat, i < n → f (.int i) (G i) = .nx (G (i + 1))) : loopS f (rangeL 0 hi) Γ = .nx (G n) := by
  subst hn e0
  have := loop_range (f := f) (lo := 0) (hi := (n : Int)) G fun i hi => by
    rw [Int.zero_add]
    exact h i (by omega)
  rw [this]
  congr 2
/-- the purse -/
structure Pu where
  a : Int
  b : Int
  c : Int
def pu (p : Pu) : D := .lst .own [.int p.a, .int p.b, .int p.c]
def pb (p : Pu) : Int := (p.b * 48271 + (p.c + 1) * 69621) % 2147483647
def dv (p : Pu) (m : Int) : Int := if 0 < p.a then p.a % m else (pb p * 16807 + (p.c + 1) * 7919) % 2147483629 / 8 % m
def nx (p : Pu) (m : Int) : Pu := if 0 < p.a then ⟨p.a / m, p.b, p.c⟩ else ⟨p.a, pb p, p.c + 1⟩
theorem dv_lo (p : Pu) {m : Int} (h : 0 < m) : 0 ≤ dv p m := by
  unfold dv; split <;> exact Int.emod_nonneg _ (by omega)
theorem dv_hi (p : Pu) {m : Int} (h : 0 < m) : dv p m < m := by
  unfold dv; split <;> exact Int.emod_lt_of_pos _ h
/-- the value drawn, as a Nat -/
theorem dv_nat (p : Pu) {m : Nat} (h : 0 < m) : ∃ v : Nat, v < m ∧ dv p m = v := by
  have h1 := dv_lo p (m := m) (by omega)
  have h2 := dv_hi p (m := m) (by omega)
  exact ⟨(dv p m).toNat, by omega, by omega⟩
def bPurse : List Stm := [.asg (.nm 2) (.ite (.cmp .lt [.pk 1, .op .call .len [.pk 0]]) (.op .call .int [.op .sub .idx [.pk 0, .pk 1]]) (.op .bin .mul [.cst (.int 31), .op .call .sum [.lc [4] (.nm 4) (.seq (.op .cut .cutR [.pk 0, .cst (.int 4)])) (.yes) (.op .call .int [.pk 4])]])), .asg (.nm 3) (.op .bin .add [.op .bin .mul [.cst (.int 2), .op .call .abs [.pk 2]], .ite (.cmp .lt [.pk 2, .cst (.int 0)]) (.cst (.int 1)) (.cst (.int 0))]), .ret (.lst [.ite (.cmp .ge [.pk 3, .op .bin .pow [.cst (.int 10), .cst (.int 18)]]) (.var 3) (.cst (.int 0)), .op .bin .mod [.op .call .int [.op .bin .add [.op .bin .add [.pk 3, .op .bin .mul [.pk 1, .cst (.int 104729)]], .cst (.int 12345)]], .cst (.int 2147483629)], .var 1])]
def dPurse : Def := ⟨2, [true, true], 5, bPurse, .plain⟩
def bDraw : List Stm := [.iff (.cmp .gt [.op .sub .idx [.pk 0, .cst (.int 0)], .cst (.int 0)]) [.asg (.nm 2) (.op .bin .mod [.op .call .int [.op .sub .idx [.pk 0, .cst (.int 0)]], .pk 1]), .setI 0 (.cst (.int 0)) (.op .bin .fdiv [.op .sub .idx [.pk 0, .cst (.int 0)], .pk 1]), .ret (.var 2)] [], .augI 0 (.cst (.int 2)) .add (.cst (.int 1)), .setI 0 (.cst (.int 1)) (.op .bin .mod [.op .call .int [.op .bin .add [.op .bin .mul [.op .sub .idx [.pk 0, .cst (.int 1)], .cst (.int 48271)], .op .bin .mul [.op .sub .idx [.pk 0, .cst (.int 2)], .cst (.int 69621)]]], .cst (.int 2147483647)]), .ret (.op .bin .mod [.op .bin .fdiv [.op .bin .mod [.op .call .int [.op .bin .add [.op .bin .mul [.op .sub .idx [.pk 0, .cst (.int 1)], .cst (.int 16807)], .op .bin .mul [.op .sub .idx [.pk 0, .cst (.int 2)], .cst (.int 7919)]]], .cst (.int 2147483629)], .cst (.int 8)], .pk 1])]
def dDraw : Def := ⟨2, [true, true], 3, bDraw, .plain⟩
section
variable {T : Nat → Option Def} {i : Nat}
theorem draw_ok (hT : T i = some dDraw) (k : Nat) (p : Pu) (m : Int) (hm : 0 < m) (hm2 : m < 1073741824) : run T (k + 1) i [pu p, .int m] = .ok (.int (dv p m)) [pu (nx p m), .int m] := by
  rw [run_of (p := dDraw) hT rfl]
  have h1 : okDiv m = true := by unfold okDiv; simp [hm, hm2]
  have m1 : ∀ i, okMul i 48271 = true := fun i => okMulR i (by decide)
  have m2 : ∀ i, okMul i 69621 = true := fun i => okMulR i (by decide)
  have m3 : ∀ i, okMul i 16807 = true := fun i => okMulR i (by decide)
  have m4 : ∀ i, okMul i 7919 = true := fun i => okMulR i (by decide)
  obtain ⟨a, b, c⟩ := p
  by_cases ha : 0 < a
  · simp [dDraw, bDraw, enter, ha, hm, h1, pu, dv, nx]
  · simp [dDraw, bDraw, enter, ha, hm, h1, pu, dv, nx, pb, okDiv, m1, m2, m3, m4]
theorem purse_b (cf : CF) (s : D) (c : Int) (n : Nat) : ∃ (p : Pu) (Γ : En), exSs cf (bPurse.drop 1) [some s, some (.int n), some (.int c), none, none] = .rt (pu p) (some s :: some (.int n) :: Γ) := by
  have pw : (10 : Int) ^ 18 = 1000000000000000000 := by decide
  have po : okPow 10 18 = true := by decide
  have m1 : ∀ i, okMul 2 i = true := fun i => okMulL i (by decide)
  have m2 : ∀ i, okMul i 104729 = true := fun i => okMulR i (by decide)
  have key : ∀ (e : Int), (c < 0 → e = 1) → (¬ c < 0 → e = 0) → ∃ (p : Pu) (Γ : En), exSs cf (bPurse.drop 1) [some s, some (.int n), some (.int c), none, none] = .rt (pu p) (some s :: some (.int n) :: Γ) := by
    intro e he1 he2
    by_cases h : c < 0
    · have h' : (if c < 0 then -c else c) = -c := if_pos h
      by_cases h3 : 1000000000000000000 ≤ 2 * -c + 1
      · exact ⟨⟨_, _, _⟩, _, by simp -implicitDefEqProofs [bPurse, m1, m2, h, pw, po, h3, pu]; exact ⟨⟨rfl, rfl, rfl⟩, rfl⟩⟩
      · exact ⟨⟨_, _, _⟩, _, by simp -implicitDefEqProofs [bPurse, m1, m2, h, pw, po, h3, pu]; exact ⟨⟨rfl, rfl, rfl⟩, rfl⟩⟩
    · by_cases h3 : 1000000000000000000 ≤ 2 * c
      · exact ⟨⟨_, _, _⟩, _, by simp -implicitDefEqProofs [bPurse, m1, m2, h, pw, po, h3, pu]; exact ⟨⟨rfl, rfl, rfl⟩, rfl⟩⟩
      · exact ⟨⟨_, _, _⟩, _, by simp -implicitDefEqProofs [bPurse, m1, m2, h, pw, po, h3, pu]; exact ⟨⟨rfl, rfl, rfl⟩, rfl⟩⟩
  by_cases h : c < 0
  · exact key 1 (fun _ => rfl) (fun q => absurd h q)
  · exact key 0 (fun q => absurd q h) (fun _ => rfl)
theorem purse_a (cf : CF) (ns : List Int) (n : Nat) : ∃ c, exSs cf (bPurse.take 1) [some (.lst .shr (ns.map D.int)), some (.int n), none, none, none] = .nx [some (.lst .shr (ns.map D.int)), some (.int n), some (.int c), none, none] := by
  have m1 : ∀ i, okMul 31 i = true := fun i => okMulL i (by decide)
  by_cases h : n < ns.length
  · have h' : (n : Int) < (ns.length : Int) := by omega
    refine ⟨ns[n], ?_⟩
    have e : ixD (ns.map D.int) n = some (.int ns[n]) := by
      unfold ixD
      rw [if_pos (by omega)]
      simp [h]
    simp -implicitDefEqProofs [bPurse, h', ixO, e]
  · have h' : ¬ (n : Int) < (ns.length : Int) := by omega
    obtain ⟨ms, hms⟩ : ∃ ms, ms = ns.take 4 := ⟨_, rfl⟩
    refine ⟨31 * ms.sum, ?_⟩
    have e : cutD (ns.map D.int) none (some 4) = ms.map D.int := by
      subst hms
      unfold cutD
      simp [cutI]
    have l4 : ms.length ≤ line := by
      have : ms.length ≤ 4 := by subst hms; simp; omega
      unfold line; omega
    have lc : loopC (lcF cf [4] (.nm 4) .yes (.op .call .int [.pk 4])) (ms.map D.int) [some (.lst .shr (ns.map D.int)), some (.int n), none, none, none] = .ok (ms.map D.int) [some (.lst .shr (ns.map D.int)), some (.int n), none, none, none] := by
      have := loopC_ints (f := lcF cf [4] (.nm 4) .yes (.op .call .int [.pk 4])) (p := fun _ => true) (g := fun i => i) (ns := ms) (Γ := [some (.lst .shr (ns.map D.int)), some (.int n), none, none, none]) (fun m _ => by simp)
      rw [this, List.map_id', show ms.filter (fun _ => true) = ms from List.filter_eq_self.mpr fun _ _ => rfl]
    simp -implicitDefEqProofs [bPurse, h', e, lc, l4, m1]
theorem purse_ok (hT : T i = some dPurse) (k : Nat) (ns : List Int) (n : Nat) : ∃ p, run T (k + 1) i [.lst .shr (ns.map D.int), .int n] = .ok (pu p) [.lst .shr (ns.map D.int), .int n] := by
  rw [run_of (p := dPurse) hT rfl]
  obtain ⟨c, e1⟩ := purse_a (run T k) ns n
  obtain ⟨p, Γ, e2⟩ := purse_b (run T k) (.lst .shr (ns.map D.int)) c n
  refine ⟨p, ?_⟩
  have e0 : enter dPurse [.lst .shr (ns.map D.int), .int n] = [some (.lst .shr (ns.map D.int)), some (.int n), none, none, none] := rfl
  have eb : dPurse.body = (bPurse.take 1) ++ bPurse.drop 1 := rfl
  rw [e0, eb, exSs_app, e1, q_seq_nx, e2]
  rfl
end
end VE

end
section
set_option maxHeartbeats 2000000
/-! VEu: further steps as rules, loops by induction. -/
namespace VE
open PySem
/-- the body of the loop at place i -/
def stmB : Option Stm → List Stm
  | some (.fr _ _ _ b) => b
  | some (.frM _ _ _ b) => b
  | some (.frT _ _ _ b) => b
  | some (.whl _ _ b) => b
  | _ => []
def bodyAt (b : List Stm) (i : Nat) : List Stm := stmB b[i]?
@[simp] theorem okRg0 : okRg 0 = true := by decide
@[simp] theorem okRg1 : okRg 1 = true := by decide
@[simp] theorem okRg2 : okRg 2 = true := by decide
@[simp] theorem okRg3 : okRg 3 = true := by decide
@[simp] theorem okRg4 : okRg 4 = true := by decide
theorem fm_some {α β : Type} (f : α → β) : ∀ l : List α, l.filterMap (fun x => some (f x)) = l.map f
  | [] => rfl
  | x :: l => by rw [List.filterMap_cons, fm_some f l]; rfl
section
variable {α β : Type} {cf : CF} {Γ Γ1 : En} {es : List Ex} {os : List Ob} {i j n m k : Nat} {d e c : D} {ds xs ys : List D}
@[simp] theorem q_frzE {ex : Ex} : evE cf (.frz ex) Γ = (evE cf ex Γ).bind fun d Γ1 => .ok (frz d) Γ1 := (rfl)
@[simp] theorem q_as_frz {ex : Ex} : evAs cf (.frz ex :: es) Γ = (evE cf (.frz ex) Γ).bind fun d Γ1 => (evAs cf es Γ1).bind fun os Γ2 => .ok (.v d :: os) Γ2 := (rfl)
@[simp] theorem q_as_popAt {ix : Ex} : evAs cf (.popAt j ix :: es) Γ = (evE cf (.popAt j ix) Γ).bind fun d Γ1 => (evAs cf es Γ1).bind fun os Γ2 => .ok (.v d :: os) Γ2 := (rfl)
@[simp] theorem q_opAll : opF .all [c] = allF c := (rfl)
@[simp] theorem q_opAny : opF .any [c] = anyF c := (rfl)
@[simp] theorem q_opTuple : opF .tuple [c] = tupF c := (rfl)
@[simp] theorem q_opSortR : opF .sortR [c] = sortRF c := (rfl)
@[simp] theorem q_band : opF .band [c, e] = intF (fun _ _ => true) Builtin.bitAnd c e := (rfl)
@[simp] theorem q_bor : opF .bor [c, e] = intF (fun _ _ => true) Builtin.bitOr c e := (rfl)
@[simp] theorem q_shl : opF .shl [c, e] = intF okPow (fun i j => i * 2 ^ j.toNat) c e := (rfl)
@[simp] theorem q_shr : opF .shr [c, e] = intF (fun _ j => decide (0 ≤ j)) (fun i j => i / 2 ^ j.toNat) c e := (rfl)
/-- an index, peeked -/
def pkiR (cf : CF) (j : Nat) (es : List Ex) (Γ1 : En) : D → R (List Ob)
  | .int k => if (es.all triv && (((gt Γ1 j).bind items?).bind fun xs => ixD xs k).isSome) = true then (evAs cf es Γ1).bind fun os Γ2 => .ok (.ix k :: os) Γ2 else .bad
  | _ => .bad
theorem q_as_pki' {ix : Ex} : evAs cf (.pki j ix :: es) Γ = if (gt Γ j).isSome = true then (evE cf ix Γ).bind fun d Γ1 => pkiR cf j es Γ1 d else .bad := (rfl)
@[simp] theorem q_pkiR {a : Int} : pkiR cf j es Γ (.int a) = if (es.all triv && (((gt Γ j).bind items?).bind fun xs => ixD xs a).isSome) = true then (evAs cf es Γ).bind fun os Γ2 => .ok (.ix a :: os) Γ2 else .bad := (rfl)
def popR (Γ1 : En) (j : Nat) : D → Option D → R D
  | .int k, some (.lst .own xs) => if 0 ≤ k ∧ k ≤ 1000000 then popX Γ1 j xs k xs[k.toNat]? else .bad
  | _, _ => .bad
where popX (Γ1 : En) (j : Nat) (xs : List D) (k : Int) : Option D → R D
  | some d => .ok d (Γ1.set j (some (.lst .own (xs.eraseIdx k.toNat))))
  | none => .bad
@[simp] theorem q_popR {a : Int} : popR Γ j (.int a) (some (.lst .own xs)) = if 0 ≤ a ∧ a ≤ 1000000 then popR.popX Γ j xs a xs[a.toNat]? else .bad := (rfl)
@[simp] theorem q_popX {a : Int} : popR.popX Γ j xs a (some d) = .ok d (Γ.set j (some (.lst .own (xs.eraseIdx a.toNat)))) := (rfl)
@[simp] theorem q_popAt {ix : Ex} : evE cf (.popAt j ix) Γ = if isL Γ j = true then (evE cf ix Γ).bind fun k Γ1 => popR Γ1 j k (gt Γ1 j) else .bad := by
  show (if isL Γ j = true then (evE cf ix Γ).bind fun k Γ1 => match k, gt Γ1 j with
    | .int k, some (.lst .own xs) => if 0 ≤ k ∧ k ≤ 1000000 then match xs[k.toNat]? with
      | some d => .ok d (Γ1.set j (some (.lst .own (xs.eraseIdx k.toNat))))
      | none => .bad
      else .bad
    | _, _ => .bad
    else .bad) = _
  have : (fun (k : D) (Γ1 : En) => (match k, gt Γ1 j with
    | .int k, some (.lst .own xs) => if 0 ≤ k ∧ k ≤ 1000000 then match xs[k.toNat]? with
      | some d => R.ok d (Γ1.set j (some (.lst .own (xs.eraseIdx k.toNat))))
      | none => .bad
      else .bad
    | _, _ => .bad)) = fun k Γ1 => popR Γ1 j k (gt Γ1 j) := by
    funext k Γ1
    unfold popR popR.popX
    rfl
  rw [this]
def appIR (Γ1 : En) (j m : Nat) : D → Option D → Option D → S
  | .int k, some (.lst .own xs), some d => if 0 ≤ k ∧ k < xs.length ∧ m ≠ j ∧ dup d = true then appX Γ1 j xs k d xs[k.toNat]? else .bad
  | _, _, _ => .bad
where appX (Γ1 : En) (j : Nat) (xs : List D) (k : Int) (d : D) : Option D → S
  | some (.lst .own ys) => if ys.length < line then .nx (Γ1.set j (some (.lst .own (xs.set k.toNat (.lst .own (ys ++ [d])))))) else .bad
  | _ => .bad
@[simp] theorem q_appIR {a : Int} : appIR Γ j m (.int a) (some (.lst .own xs)) (some d) = if 0 ≤ a ∧ a < xs.length ∧ m ≠ j ∧ dup d = true then appIR.appX Γ j xs a d xs[a.toNat]? else .bad := (rfl)
@[simp] theorem q_appX {a : Int} : appIR.appX Γ j xs a d (some (.lst .own ys)) = if ys.length < line then .nx (Γ.set j (some (.lst .own (xs.set a.toNat (.lst .own (ys ++ [d])))))) else .bad := (rfl)
@[simp] theorem q_appI {ix : Ex} : exS cf (.appI j ix m) Γ = if isL Γ j = true then (evE cf ix Γ).s fun k Γ1 => appIR Γ1 j m k (gt Γ1 j) (gt Γ1 m) else .bad := by
  show kAppI j m (evE cf ix Γ) Γ = _
  unfold kAppI
  have : (fun (k : D) (Γ1 : En) => (match k, gt Γ1 j, gt Γ1 m with
    | .int k, some (.lst .own xs), some d => if 0 ≤ k ∧ k < xs.length ∧ m ≠ j ∧ dup d = true then match xs[k.toNat]? with
      | some (.lst .own ys) => if ys.length < line then S.nx (Γ1.set j (some (.lst .own (xs.set k.toNat (.lst .own (ys ++ [d])))))) else .bad
      | _ => .bad
      else .bad
    | _, _, _ => .bad)) = fun k Γ1 => appIR Γ1 j m k (gt Γ1 j) (gt Γ1 m) := by
    funext k Γ1
    unfold appIR appIR.appX
    rfl
  exact congrArg (fun F => if isL Γ j = true then (evE cf ix Γ).s F else .bad) this
def extR (Γ1 : En) (j : Nat) : D → Option D → S
  | .lst .own ys, some (.lst .own xs) => if xs.length + ys.length ≤ line then .nx (Γ1.set j (some (.lst .own (xs ++ ys)))) else .bad
  | _, _ => .bad
@[simp] theorem q_extR : extR Γ j (.lst .own ys) (some (.lst .own xs)) = if xs.length + ys.length ≤ line then .nx (Γ.set j (some (.lst .own (xs ++ ys)))) else .bad := (rfl)
@[simp] theorem q_ext {ex : Ex} : exS cf (.ext j ex) Γ = if isL Γ j = true then (evE cf ex Γ).s fun d Γ1 => extR Γ1 j d (gt Γ1 j) else .bad := by
  show kExt j (evE cf ex Γ) Γ = _
  unfold kExt
  have : (fun (d : D) (Γ1 : En) => (match d, gt Γ1 j with
    | .lst .own ys, some (.lst .own xs) => if xs.length + ys.length ≤ line then S.nx (Γ1.set j (some (.lst .own (xs ++ ys)))) else .bad
    | _, _ => .bad)) = fun d Γ1 => extR Γ1 j d (gt Γ1 j) := by
    funext d Γ1
    unfold extR
    rfl
  exact congrArg (fun F => if isL Γ j = true then (evE cf ex Γ).s F else .bad) this
/-! loops -/
theorem loopS_nil {f : D → En → S} : loopS f [] Γ = .nx Γ := rfl
theorem loopS_cons {f : D → En → S} {x : D} (h : f x Γ = .nx Γ1) : loopS f (x :: xs) Γ = loopS f xs Γ1 := by
  rw [q_loopS1, h]
  rfl
/-- nothing is carried -/
theorem loopS_id {f : D → En → S} : ∀ {xs : List D}, (∀ x ∈ xs, f x Γ = .nx Γ) → loopS f xs Γ = .nx Γ
  | [], _ => rfl
  | x :: xs, h => by
    rw [loopS_cons (h x List.mem_cons_self)]
    exact loopS_id fun y hy => h y (List.mem_cons_of_mem _ hy)
theorem loopW_go {t : En → R Bool} {f : En → S} {n : Nat} {Γ2 : En} (h1 : t Γ = .ok true Γ1) (h2 : f Γ1 = .nx Γ2) : loopW t f (n + 1) Γ = loopW t f n Γ2 := by
  show (match t Γ with
    | .ok true Γ1 => match f Γ1 with
      | .nx Γ2 => loopW t f n Γ2
      | .ct Γ2 => loopW t f n Γ2
      | .bk Γ2 => .nx Γ2
      | .rt d Γ2 => .rt d Γ2
      | .ex c ds Γ2 => .ex c ds Γ2
      | .bad => .bad
    | .ok false Γ1 => .nx Γ1
    | .ex _ _ _ => .bad
    | .bad => .bad) = _
  rw [h1]
  dsimp only
  rw [h2]
theorem loopW_end {t : En → R Bool} {f : En → S} {n : Nat} (h1 : t Γ = .ok false Γ1) : loopW t f (n + 1) Γ = .nx Γ1 := by
  show (match t Γ with
    | .ok true Γ1 => match f Γ1 with
      | .nx Γ2 => loopW t f n Γ2
      | .ct Γ2 => loopW t f n Γ2
      | .bk Γ2 => .nx Γ2
      | .rt d Γ2 => .rt d Γ2
      | .ex c ds Γ2 => .ex c ds Γ2
      | .bad => .bad
    | .ok false Γ1 => .nx Γ1
    | .ex _ _ _ => .bad
    | .bad => .bad) = _
  rw [h1]
/-- a comprehension over data made by g -/
theorem loopC_keep {α : Type} {f : D → En → R (Option D)} {g h : α → D} {b : α → Bool} : ∀ {l : List α}, (∀ x ∈ l, f (g x) Γ = .ok (if b x = true then some (h x) else none) Γ) → loopC f (l.map g) Γ = .ok ((l.filter b).map h) Γ
  | [], _ => rfl
  | x :: l, H => by
    rw [List.map_cons]
    unfold loopC
    rw [H x List.mem_cons_self, q_bind_ok, loopC_keep fun y hy => H y (List.mem_cons_of_mem _ hy), q_bind_ok]
    by_cases c : b x = true
    · rw [if_pos c, List.filter_cons_of_pos c]
      rfl
    · rw [if_neg c, List.filter_cons_of_neg c]
/-! lists of ints -/
theorem any_int (x : Int) : ∀ L : List Int, (L.map D.int).any (fun y => eqF y (.int x)) = decide (x ∈ L)
  | [] => by simp
  | y :: L => by
    rw [List.map_cons, List.any_cons, any_int x L]
    show ((y == x) || decide (x ∈ L)) = _
    by_cases h : y = x
    · subst h; simp
    · have : ¬ x = y := fun e => h e.symm
      simp [h, this]
theorem flat_ints : ∀ L : List Int, (L.map D.int).all flat = true
  | [] => rfl
  | y :: L => by rw [List.map_cons, List.all_cons, flat_ints L]; rfl
@[simp] theorem q_mem_int {x : Int} {o : Fl} {L : List Int} : cmpF .mem (.int x) (.lst o (L.map D.int)) = some (decide (x ∈ L)) := by
  show (if (flat (.int x) && (L.map D.int).all flat) = true then some ((L.map D.int).any fun y => eqF y (.int x)) else _) = _
  rw [flat_ints, any_int]
  exact if_pos rfl
@[simp] theorem q_nmem_int {x : Int} {o : Fl} {L : List Int} : cmpF .nmem (.int x) (.lst o (L.map D.int)) = some (!decide (x ∈ L)) := by
  show (if (flat (.int x) && (L.map D.int).all flat) = true then some (!(L.map D.int).any fun y => eqF y (.int x)) else _) = _
  rw [flat_ints, any_int]
  exact if_pos rfl
theorem shal_ints (n : Nat) : ∀ L : List Int, (L.map D.int).all (shal n) = true
  | [] => rfl
  | y :: L => by rw [List.map_cons, List.all_cons, shal_ints n L]; cases n <;> rfl
/-- a list against the empty one -/
theorem q_ne_nil {o p : Fl} {xs : List D} (h : shal 8 (.lst o xs) = true) : cmpF .ne (.lst o xs) (.lst p []) = some (!xs.isEmpty) := by
  show guardO (shal 8 (.lst o xs) && shal 8 (.lst p [])) (some (!eqD (.lst o xs) (.lst p []))) = _
  rw [h]
  cases xs with
  | nil => rfl
  | cons x xs => rfl
@[simp] theorem q_ne_nilI {o p : Fl} {L : List Int} : cmpF .ne (.lst o (L.map D.int)) (.lst p []) = some (!L.isEmpty) := by
  rw [q_ne_nil (show (L.map D.int).all (shal 7) = true from shal_ints 7 L)]
  cases L <;> rfl
@[simp] theorem q_sortI {o : Fl} {L : List Int} : sortF (.lst o (L.map D.int)) = some (.lst .own ((sortI L).map D.int)) := by
  show (match ints? (L.map D.int) with
    | some ns => some (D.lst .own ((sortI ns).map .int))
    | none => match rows? (L.map D.int) with
      | some rs => some (.lst .own ((sortRows rs).map rowD))
      | none => (trows? (L.map D.int)).bind fun rs => if (rs.all fun r => !r.isEmpty) = true then some (.lst .own ((sortRows rs).map trowD)) else none) = _
  rw [q_ints_ints]
@[simp] theorem q_sort2 {o : Fl} {a b : Int} : sortF (.lst o [.int a, .int b]) = some (.lst .own ((sortI [a, b]).map D.int)) := q_sortI (L := [a, b])
@[simp] theorem q_rgF {a b : Int} : rgF (.int a) (.int b) = guardO (okRg a && okRg b) (some (.lst .own (rangeL a b))) := (rfl)
@[simp] theorem q_listF {o : Fl} : listF (.lst o xs) = guardO (dupL xs) (some (.lst .own xs)) := (rfl)
end
end VE

end
section
/-! VEv: rules for calls that may raise, raise, try; the parts of a class's text. -/
namespace VE
open PySem PySem.Spec PyProof.Rows L2
/-- the i-th statement of a class's body -/
def clsPart (s : Stmt) (i : Nat) : Stmt := match s with
  | .ClassDef _ _ _ b _ _ _ _ _ _ _ => b.getD i s
  | s => s
section
variable {cf : CF} {Γ : En} {es : List Ex} {d : D}
def callXT (cf : CF) (m : CM) (f : Nat) (es : List Ex) : Option Tk → S
  | some t => kCallE m ((cf f t.ds).r es t)
  | none => .bad
@[simp] theorem q_callX {m : CM} {f : Nat} : exS cf (.callX m f es) Γ = (evAs cf es Γ).s fun os Γ1 => callXT cf m f es (take Γ1 es os) := by
  show kCallX cf m f es (evAs cf es Γ) = _
  unfold kCallX
  refine congrArg (R.s (evAs cf es Γ)) (funext fun os => funext fun Γ1 => ?_)
  cases take Γ1 es os <;> rfl
@[simp] theorem q_callXT {m : CM} {f : Nat} {t : Tk} : callXT cf m f es (some t) = kCallE m ((cf f t.ds).r es t) := (rfl)
@[simp] theorem q_callXT0 {m : CM} {f : Nat} : callXT cf m f es none = .bad := (rfl)
@[simp] theorem q_callE_ok {m : CM} : kCallE m (.ok d Γ) = kCM m d Γ := (rfl)
@[simp] theorem q_callE_ex {m : CM} {c : Xn} {ds : List D} : kCallE m (.ex c ds Γ) = .ex c ds Γ := (rfl)
@[simp] theorem q_callE_bad {m : CM} : kCallE m .bad = .bad := (rfl)
@[simp] theorem q_cm_exp : kCM .exp d Γ = .nx Γ := (rfl)
@[simp] theorem q_cm_ret : kCM .ret d Γ = .rt d Γ := (rfl)
@[simp] theorem q_cm_asg {i : Nat} : kCM (.asg i) d Γ = .nx (Γ.set i (some d)) := (rfl)
@[simp] theorem q_Fr_ex {t : Tk} {c : Xn} {ds fs : List D} : F.r es t (.ex c ds fs) = if (!t.nc || (cleanL ds && cleanB es fs)) = true then .ex c ds (back t.Γ es fs) else .bad := (rfl)
def rseR (c : Xn) (Γ : En) : Option (List D) → S
  | some [d] => if flat d = true then .ex c [d] Γ else .bad
  | _ => .bad
@[simp] theorem q_rse {c : Xn} : exS cf (.rse c es) Γ = (evAs cf es Γ).s fun os Γ1 => rseR c Γ1 (alls os) := by
  show kRse c (evAs cf es Γ) = _
  unfold kRse
  refine congrArg (R.s (evAs cf es Γ)) (funext fun os => funext fun Γ1 => ?_)
  unfold rseR
  cases alls os with
  | none => rfl
  | some l =>
    cases l with
    | nil => rfl
    | cons x l => cases l <;> rfl
@[simp] theorem q_rseR {c : Xn} : rseR c Γ (some [d]) = if flat d = true then .ex c [d] Γ else .bad := (rfl)
@[simp] theorem q_fl_non : flat .non = true := (rfl)
@[simp] theorem q_fl_bl {b : Bool} : flat (.bl b) = true := (rfl)
@[simp] theorem q_fl_int {i : Int} : flat (.int i) = true := (rfl)
@[simp] theorem q_fl_str {x : Str} : flat (.str x) = true := (rfl)
@[simp] theorem q_try {b : List Stm} {hs : List Hd} : exS cf (.tryX b hs) Γ = kTry hs (exSs cf b Γ) := (rfl)
@[simp] theorem q_try_nx {hs : List Hd} : kTry hs (.nx Γ) = .nx Γ := (rfl)
@[simp] theorem q_try_rt {hs : List Hd} : kTry hs (.rt d Γ) = .rt d Γ := (rfl)
@[simp] theorem q_try_bk {hs : List Hd} : kTry hs (.bk Γ) = .bk Γ := (rfl)
@[simp] theorem q_try_ct {hs : List Hd} : kTry hs (.ct Γ) = .ct Γ := (rfl)
@[simp] theorem q_try_bad {hs : List Hd} : kTry hs .bad = .bad := (rfl)
@[simp] theorem q_try_ex {hs : List Hd} {c : Xn} : kTry hs (.ex c [d] Γ) = if flat d = true then kHds c d Γ hs else .bad := (rfl)
@[simp] theorem q_hds {h : Hd} {hs : List Hd} {c : Xn} : kHds c d Γ (h :: hs) = if h.cs.any c.is = true then kHd h d Γ else kHds c d Γ hs := (rfl)
@[simp] theorem q_seq_ex {f : En → S} {c : Xn} {ds : List D} : (S.ex c ds Γ).seq f = .ex c ds Γ := (rfl)
@[simp] theorem q_leave_ex {p : Def} {c : Xn} {ds : List D} : leave p (.ex c ds Γ) = .ex c ds (finL p.io Γ) := (rfl)
@[simp] theorem q_kHd {h : Hd} : kHd h d Γ = if inE Γ h.sl = true then (match h.to with
  | none => .rt (h.rt.d d) (wipe1 Γ h.sl)
  | some i => .nx ((wipe1 Γ h.sl).set i (some (h.rt.d d)))) else .bad := (rfl)
@[simp] theorem q_wipe10 : wipe1 Γ none = Γ := (rfl)
@[simp] theorem q_wipe11 {i : Nat} : wipe1 Γ (some i) = Γ.set i none := (rfl)
@[simp] theorem q_HV1 {h : HI} : HV.d d (.one h) = HI.d d h := (rfl)
@[simp] theorem q_HVt {hs : List HI} : HV.d d (.tup hs) = .tup (hs.map (HI.d d)) := (rfl)
@[simp] theorem q_HIc {c : Cst} : HI.d d (.cst c) = c.d := (rfl)
@[simp] theorem q_HIf : HI.d d .fld = d := (rfl)
@[simp] theorem q_inE0 : inE Γ none = true := (rfl)
@[simp] theorem q_inE1 {i : Nat} : inE Γ (some i) = decide (i < Γ.length) := (rfl)
@[simp] theorem q_max3 {a b c : D} : opF .max [a, b, c] = max3F a b c := (rfl)
@[simp] theorem q_max3F {a b c : Int} : max3F (.int a) (.int b) (.int c) = some (.int (if b > a then (if c > b then c else b) else (if c > a then c else a))) := (rfl)
@[simp] theorem q_rem {j : Nat} {e : Ex} : exS cf (.rem j e) Γ = if isL Γ j = true then (evE cf e Γ).s fun d Γ1 => remE Γ1 j d (gt Γ1 j) else .bad := (rfl)
@[simp] theorem q_lset {o : Fl} {xs : List D} : opF .lset [.lst o xs] = (ints? xs).bind fun ns => guardO (decide (ns.length ≤ 4000)) (some (.int ((dedI ns).length : Nat))) := (rfl)
@[simp] theorem q_range3 {i j : Int} : opF .range3 [.int i, .int j] = guardO (okRg i && okRg j) (some (.lst .own (rangeD i j))) := (rfl)
@[simp] theorem q_ins {j : Nat} : exS cf (.ins j es) Γ = if isL Γ j = true then (evAs cf es Γ).s fun os Γ1 => insE Γ1 j (alls os) (gt Γ1 j) else .bad := (rfl)
@[simp] theorem q_insE {j : Nat} {i : Int} {xs : List D} : insE Γ j (some [.int i, d]) (some (.lst .own xs)) = if 0 ≤ i ∧ i ≤ xs.length ∧ xs.length < line then .nx (Γ.set j (some (.lst .own (xs.take i.toNat ++ [d] ++ xs.drop i.toNat)))) else .bad := (rfl)
/-! a comprehension over a list just made -/
@[simp] theorem q_lcT {own : List Nat} {tg : Tg} {s : Ex} {t : Tx} {ex : Ex} : evE cf (.lcT own tg s t ex) Γ = (evE cf s Γ).bind fun d Γ1 => lcTR cf own tg t ex Γ1 d := (rfl)
def lcTQ : R (List D) → R D
  | .ok ys Γ9 => if ys.length ≤ line then .ok (.lst .own ys) Γ9 else .bad
  | _ => .bad
@[simp] theorem q_lcTR {own : List Nat} {tg : Tg} {t : Tx} {ex : Ex} {xs : List D} : lcTR cf own tg t ex Γ (.lst .own xs) = lcTQ (loopC (lcF cf own tg t ex) xs (wipeE Γ own)) := by
  unfold lcTR lcTQ
  dsimp only
  all_goals (cases loopC (lcF cf own tg t ex) xs (wipeE Γ own) <;> rfl)
@[simp] theorem q_lcTQ {ys : List D} : lcTQ (.ok ys Γ) = if ys.length ≤ line then .ok (.lst .own ys) Γ else .bad := (rfl)
@[simp] theorem q_as_lcT {own : List Nat} {tg : Tg} {s : Ex} {t : Tx} {ex : Ex} {es2 : List Ex} : evAs cf (.lcT own tg s t ex :: es2) Γ = (evE cf (.lcT own tg s t ex) Γ).bind fun d Γ1 => (evAs cf es2 Γ1).bind fun os Γ2 => .ok (.v d :: os) Γ2 := (rfl)
/-! items of a list just made -/
def frTR (cf : CF) (tg : Tg) (fg : List Nat) (b : List Stm) (Γ : En) : D → S
  | .lst .own xs => loopS (frF cf tg fg b) xs (wipeE Γ fg)
  | _ => .bad
@[simp] theorem q_frT {tg : Tg} {ex : Ex} {fg : List Nat} {b : List Stm} : exS cf (.frT tg ex fg b) Γ = (evE cf ex Γ).s fun d Γ1 => frTR cf tg fg b Γ1 d := by
  show kFrT tg fg (exSs cf b) (evE cf ex Γ) = _
  unfold kFrT
  refine congrArg (R.s (evE cf ex Γ)) (funext fun d => funext fun Γ1 => ?_)
  cases d with
  | lst o xs => cases o <;> rfl
  | _ => rfl
@[simp] theorem q_frTR {tg : Tg} {fg : List Nat} {b : List Stm} {xs : List D} : frTR cf tg fg b Γ (.lst .own xs) = loopS (frF cf tg fg b) xs (wipeE Γ fg) := (rfl)
/-! moved out -/
def mvR (Γ : En) (j : Nat) : Option D → R D
  | some d => .ok d (Γ.set j none)
  | none => .bad
@[simp] theorem q_mv {j : Nat} : evE cf (.mv j) Γ = mvR Γ j (gt Γ j) := by
  show kMv j Γ = _
  unfold kMv
  cases gt Γ j <;> rfl
@[simp] theorem q_mvR {j : Nat} : mvR Γ j (some d) = .ok d (Γ.set j none) := (rfl)
def mvIR (Γ1 : En) (j : Nat) : D → Option D → R D
  | .int k, some (.lst .own xs) => if 0 ≤ k then mvIX xs[k.toNat]? (Γ1.set j (some (.lst .own (xs.set k.toNat .gone)))) else .bad
  | .int k, some (.tup xs) => if 0 ≤ k then mvIX xs[k.toNat]? (Γ1.set j (some (.tup (xs.set k.toNat .gone)))) else .bad
  | _, _ => .bad
where mvIX : Option D → En → R D
  | some d, Γ => .ok d Γ
  | none, _ => .bad
@[simp] theorem q_mvI {j : Nat} {ix : Ex} : evE cf (.mvI j ix) Γ = if (gt Γ j).isSome = true then (evE cf ix Γ).bind fun k Γ1 => mvIR Γ1 j k (gt Γ1 j) else .bad := by
  show kMvI j (evE cf ix Γ) Γ = _
  unfold kMvI
  congr 1
  refine congrArg (R.bind (evE cf ix Γ)) (funext fun k => funext fun Γ1 => ?_)
  generalize gt Γ1 j = o
  cases k with
  | int i =>
    cases o with
    | none => rfl
    | some d =>
      cases d with
      | lst f xs =>
        cases f with
        | own =>
          unfold mvIR
          dsimp only
          by_cases h : 0 ≤ i
          · rw [if_pos h, if_pos h]
            cases xs[i.toNat]? <;> rfl
          · rw [if_neg h, if_neg h]
        | _ => rfl
      | tup xs =>
        unfold mvIR
        dsimp only
        by_cases h : 0 ≤ i
        · rw [if_pos h, if_pos h]
          cases xs[i.toNat]? <;> rfl
        · rw [if_neg h, if_neg h]
      | _ => rfl
  | _ => rfl
@[simp] theorem q_as_mv {j : Nat} {es2 : List Ex} : evAs cf (.mv j :: es2) Γ = (evE cf (.mv j) Γ).bind fun d Γ1 => (evAs cf es2 Γ1).bind fun os Γ2 => .ok (.v d :: os) Γ2 := (rfl)
@[simp] theorem q_as_mvI {j : Nat} {ix : Ex} {es2 : List Ex} : evAs cf (.mvI j ix :: es2) Γ = (evE cf (.mvI j ix) Γ).bind fun d Γ1 => (evAs cf es2 Γ1).bind fun os Γ2 => .ok (.v d :: os) Γ2 := (rfl)
/-! items moved out -/
def frMR (cf : CF) (tg : Tg) (j : Nat) (fg : List Nat) (b : List Stm) (Γ : En) : Option D → S
  | some (.lst .own xs) => mapS (fun Γ9 => unlendE Γ Γ9 (.pk j)) (loopS (frF cf tg fg b) xs (wipeE (Γ.set j (some (.lst .lent (xs.map fun _ => VE.D.gone)))) fg))
  | _ => .bad
@[simp] theorem q_frM {tg : Tg} {j : Nat} {fg : List Nat} {b : List Stm} : exS cf (.frM tg j fg b) Γ = frMR cf tg j fg b Γ (gt Γ j) := by
  show kFrM tg j fg (exSs cf b) Γ = _
  unfold kFrM
  cases gt Γ j with
  | none => rfl
  | some d => cases d with
    | lst o xs => cases o <;> rfl
    | _ => rfl
@[simp] theorem q_frMR {tg : Tg} {j : Nat} {fg : List Nat} {b : List Stm} {xs : List D} : frMR cf tg j fg b Γ (some (.lst .own xs)) = mapS (fun Γ9 => unlendE Γ Γ9 (.pk j)) (loopS (frF cf tg fg b) xs (wipeE (Γ.set j (some (.lst .lent (xs.map fun _ => VE.D.gone)))) fg)) := (rfl)
/-! items moved out and laid back -/
def frBR (cf : CF) (x j : Nat) (fg : List Nat) (b : List Stm) (Γ : En) : Option D → S
  | some (.lst .own xs) => loopB x j fg (exSs cf b) xs [] (wipeE (Γ.set j (some (.lst .lent (xs.map fun _ => VE.D.gone)))) fg)
  | _ => .bad
@[simp] theorem q_frB {x j : Nat} {fg : List Nat} {b : List Stm} : exS cf (.frB x j fg b) Γ = frBR cf x j fg b Γ (gt Γ j) := by
  show kFrB x j fg (exSs cf b) Γ = _
  unfold kFrB
  cases gt Γ j with
  | none => rfl
  | some d => cases d with
    | lst o xs => cases o <;> rfl
    | _ => rfl
@[simp] theorem q_frBR {x j : Nat} {fg : List Nat} {b : List Stm} {xs : List D} : frBR cf x j fg b Γ (some (.lst .own xs)) = loopB x j fg (exSs cf b) xs [] (wipeE (Γ.set j (some (.lst .lent (xs.map fun _ => VE.D.gone)))) fg) := (rfl)
/-! a call handed to a def -/
def toldT (cf : CF) (f g : Nat) (es : List Ex) : Option Tk → R D
  | some t => kToldO cf f es t (cf g t.ds)
  | none => .bad
def toldE (es : List Ex) (t : Tk) (fs : List D) : F → R D
  | .ok d2 _ => .ok d2 (back t.Γ es fs)
  | _ => .bad
@[simp] theorem q_told {f g : Nat} : evE cf (.told f g es) Γ = (evAs cf es Γ).bind fun os Γ1 => toldT cf f g es (take Γ1 es os) := by
  show kTold cf f g es (evAs cf es Γ) = _
  unfold kTold
  refine congrArg (R.bind (evAs cf es Γ)) (funext fun os => funext fun Γ1 => ?_)
  cases take Γ1 es os <;> rfl
@[simp] theorem q_as_told {f g : Nat} {es2 : List Ex} : evAs cf (.told f g es :: es2) Γ = (evE cf (.told f g es) Γ).bind fun d Γ1 => (evAs cf es2 Γ1).bind fun os Γ2 => .ok (.v d :: os) Γ2 := (rfl)
@[simp] theorem q_toldT {f g : Nat} {t : Tk} : toldT cf f g es (some t) = kToldO cf f es t (cf g t.ds) := (rfl)
@[simp] theorem q_toldT0 {f g : Nat} : toldT cf f g es none = .bad := (rfl)
@[simp] theorem q_toldO {f : Nat} {t : Tk} {fs : List D} : kToldO cf f es t (.ok d fs) = if (!t.nc || (clean d && cleanB es fs)) = true then toldE es t fs (cf f [.tup [d]]) else .bad := by
  show (if (!t.nc || (clean d && cleanB es fs)) = true then (match cf f [.tup [d]] with
      | .ok d2 _ => R.ok d2 (back t.Γ es fs)
      | _ => .bad) else .bad) = _
  cases cf f [.tup [d]] <;> rfl
@[simp] theorem q_toldX {f : Nat} {t : Tk} {c : Xn} {fs : List D} : kToldO cf f es t (.ex c [d] fs) = if ((!t.nc || cleanB es fs) && flat d) = true then toldE es t fs (cf f [.tup [.str c.x, .str c.fn, d]]) else .bad := by
  show (if ((!t.nc || cleanB es fs) && flat d) = true then (match cf f [.tup [.str c.x, .str c.fn, d]] with
      | .ok d2 _ => R.ok d2 (back t.Γ es fs)
      | _ => .bad) else .bad) = _
  cases cf f [.tup [.str c.x, .str c.fn, d]] <;> rfl
@[simp] theorem q_toldE {t : Tk} {fs fs2 : List D} : toldE es t fs (.ok d fs2) = .ok d (back t.Γ es fs) := (rfl)
end
end VE

end
section
set_option maxHeartbeats 2000000
/-! VW1: choose, whatever the law. -/
namespace VE
open PySem
/-! the mathematics -/
/-- all choices of m of the items, in the order of their places -/
def comb {α : Type} : Nat → List α → List (List α)
  | 0, _ => [[]]
  | _ + 1, [] => []
  | m + 1, x :: xs => (comb m xs).map (x :: ·) ++ comb (m + 1) xs
theorem comb_zero {α : Type} (xs : List α) : comb 0 xs = [[]] := by cases xs <;> rfl
theorem comb_few {α : Type} : ∀ (m : Nat) (xs : List α), xs.length < m → comb m xs = []
  | 0, _, h => absurd h (Nat.not_lt_zero _)
  | m + 1, [], _ => rfl
  | m + 1, x :: xs, h => by
    rw [List.length_cons] at h
    show (comb m xs).map (x :: ·) ++ comb (m + 1) xs = []
    rw [comb_few m xs (by omega), comb_few (m + 1) xs (by omega)]
    rfl
theorem comb_map {α β : Type} (g : α → β) : ∀ (m : Nat) (xs : List α), comb m (xs.map g) = (comb m xs).map (List.map g)
  | 0, xs => by rw [comb_zero, comb_zero]; rfl
  | m + 1, [] => rfl
  | m + 1, x :: xs => by
    show (comb m (xs.map g)).map (g x :: ·) ++ comb (m + 1) (xs.map g) = ((comb m xs).map (x :: ·) ++ comb (m + 1) xs).map (List.map g)
    rw [comb_map g m xs, comb_map g (m + 1) xs, List.map_append, List.map_map, List.map_map]
    rfl
theorem comb_mem {α : Type} : ∀ {m : Nat} {xs c : List α}, c ∈ comb m xs ↔ c.Sublist xs ∧ c.length = m
  | 0, xs, c => by
    rw [comb_zero, List.mem_singleton]
    constructor
    · rintro rfl
      exact ⟨List.nil_sublist _, rfl⟩
    · rintro ⟨_, h⟩
      exact List.length_eq_zero_iff.mp h
  | m + 1, [], c => by
    show c ∈ [] ↔ _
    constructor
    · intro h; cases h
    · rintro ⟨h, hl⟩
      rw [List.sublist_nil] at h
      subst h
      cases hl
  | m + 1, x :: xs, c => by
    show c ∈ (comb m xs).map (x :: ·) ++ comb (m + 1) xs ↔ _
    rw [List.mem_append, List.mem_map, comb_mem (m := m + 1) (xs := xs)]
    constructor
    · rintro (⟨d, hd, rfl⟩ | ⟨h, hl⟩)
      · rw [comb_mem] at hd
        exact ⟨hd.1.cons_cons x, by rw [List.length_cons, hd.2]⟩
      · exact ⟨h.cons x, hl⟩
    · rintro ⟨h, hl⟩
      cases h with
      | cons _ h => exact .inr ⟨h, hl⟩
      | cons_cons _ h => exact .inl ⟨_, comb_mem.mpr ⟨h, by rw [List.length_cons] at hl; omega⟩, rfl⟩
/-- n over m -/
def chs : Nat → Nat → Nat
  | _, 0 => 1
  | 0, _ + 1 => 0
  | n + 1, m + 1 => chs n m + chs n (m + 1)
theorem comb_length {α : Type} : ∀ (m : Nat) (xs : List α), (comb m xs).length = chs xs.length m
  | 0, xs => by cases xs <;> rfl
  | m + 1, [] => rfl
  | m + 1, x :: xs => by
    show ((comb m xs).map (x :: ·) ++ comb (m + 1) xs).length = chs xs.length m + chs xs.length (m + 1)
    rw [List.length_append, List.length_map, comb_length m xs, comb_length (m + 1) xs]
theorem chs_pow : ∀ n m : Nat, chs n m ≤ 2 ^ n
  | n, 0 => by cases n <;> exact Nat.one_le_two_pow
  | 0, m + 1 => Nat.zero_le _
  | n + 1, m + 1 => by
    show chs n m + chs n (m + 1) ≤ 2 ^ (n + 1)
    have := chs_pow n m
    have := chs_pow n (m + 1)
    rw [Nat.pow_succ]
    omega
/-- what is made of a choice so far, if r are wanted still -/
def expd (xs : List D) (r : Nat) (p : List D × Nat) : List (List D) := (comb r (xs.drop p.2)).map (p.1 ++ ·)
def stp (xs : List D) (n : Nat) (p : List D × Nat) : List (List D × Nat) := (List.range n).map fun i => (p.1 ++ [xs.getD (p.2 + i) .gone], p.2 + i + 1)
theorem expd_stp (xs : List D) (r : Nat) (c : List D) : ∀ (k s : Nat), xs.length - s = k → expd xs (r + 1) (c, s) = (stp xs (xs.length - r - s) (c, s)).flatMap (expd xs r) := by
  intro k
  induction k with
  | zero =>
    intro s h
    unfold expd stp
    rw [show xs.length - r - s = 0 by omega, List.drop_eq_nil_of_le (by omega)]
    rfl
  | succ k ih =>
    intro s h
    have hs : s < xs.length := by omega
    have e : xs.drop s = xs[s] :: xs.drop (s + 1) := by rw [List.drop_eq_getElem_cons hs]
    by_cases hr : xs.length - r - s = 0
    · unfold expd stp
      rw [hr, comb_few (r + 1) _ (by rw [List.length_drop]; omega)]
      rfl
    · have ih := ih (s + 1) (by omega)
      unfold expd at ih ⊢
      dsimp only at ih ⊢
      rw [e]
      show ((comb r (xs.drop (s + 1))).map (xs[s] :: ·) ++ comb (r + 1) (xs.drop (s + 1))).map (c ++ ·) = _
      rw [List.map_append, ih]
      unfold stp
      dsimp only
      rw [show xs.length - r - s = (xs.length - r - (s + 1)) + 1 by omega, List.range_succ_eq_map, List.map_cons, List.flatMap_cons, List.map_map, List.map_map]
      have e1 : xs.getD (s + 0) .gone = xs[s] := by rw [Nat.add_zero, List.getD_eq_getElem?_getD, List.getElem?_eq_getElem hs]; rfl
      congr 1
      · rw [e1]
        dsimp only
        rw [Nat.add_zero]
        refine List.map_congr_left fun d _ => ?_
        show c ++ xs[s] :: d = (c ++ [xs[s]]) ++ d
        simp
      · refine congrArg (fun L => List.flatMap _ L) (List.map_congr_left fun i _ => ?_)
        show (c ++ [xs.getD (s + 1 + i) .gone], s + 1 + i + 1) = (c ++ [xs.getD (s + (i + 1)) .gone], s + (i + 1) + 1)
        rw [show s + 1 + i = s + (i + 1) by omega]
theorem fm_fm {α β γ : Type} (f : α → List β) (g : β → List γ) : ∀ l : List α, (l.flatMap f).flatMap g = l.flatMap fun x => (f x).flatMap g
  | [] => rfl
  | x :: l => by rw [List.flatMap_cons, List.flatMap_append, fm_fm f g l, List.flatMap_cons]
theorem expd_ne {xs : List D} {r : Nat} {p : List D × Nat} (h : p.2 + r ≤ xs.length) : 0 < (expd xs r p).length := by
  unfold expd
  rw [List.length_map]
  refine List.length_pos_of_mem (a := (xs.drop p.2).take r) (comb_mem.mpr ⟨List.take_sublist _ _, ?_⟩)
  rw [List.length_take, List.length_drop]
  omega
theorem len_fm {α β : Type} {f : α → List β} : ∀ {l : List α}, (∀ x ∈ l, 0 < (f x).length) → l.length ≤ (l.flatMap f).length
  | [], _ => Nat.zero_le _
  | x :: l, h => by
    rw [List.flatMap_cons, List.length_append, List.length_cons]
    have := h x List.mem_cons_self
    have := len_fm fun y hy => h y (List.mem_cons_of_mem _ hy)
    omega
/-! the walk -/
def cp (o : Fl) (p : List D × Nat) : D := .tup [.lst o p.1, .int p.2]
theorem frz_id : ∀ {xs : List D}, (∀ x ∈ xs, frz x = x) → frzL xs = xs
  | [], _ => rfl
  | x :: xs, h => by rw [q_frz1, h x List.mem_cons_self, frz_id fun y hy => h y (List.mem_cons_of_mem _ hy)]
theorem dup_all : ∀ {xs : List D}, (∀ x ∈ xs, dup x = true) → dupL xs = true
  | [], _ => rfl
  | x :: xs, h => by
    rw [q_dupL1, h x List.mem_cons_self, dup_all fun y hy => h y (List.mem_cons_of_mem _ hy)]
    rfl
theorem frz_cp {o : Fl} {p : List D × Nat} (h : ∀ x ∈ p.1, frz x = x) : frz (cp o p) = cp .shr p := by
  unfold cp
  cases o <;> simp [frz_id h]
theorem frz_cps {o : Fl} : ∀ {ps : List (List D × Nat)}, (∀ p ∈ ps, ∀ x ∈ p.1, frz x = x) → frzL (ps.map (cp o)) = ps.map (cp .shr)
  | [], _ => rfl
  | p :: ps, h => by rw [List.map_cons, List.map_cons, q_frz1, frz_cp (h p List.mem_cons_self), frz_cps fun y hy => h y (List.mem_cons_of_mem _ hy)]
def chB1 : List Stm := [.app 4 (.tup [.op .bin .add [.pk 5, .lst [.op .sub .idx [.pk 0, .pk 7]]], .op .bin .add [.pk 7, .cst (.int 1)]])]
def chB2 : List Stm := [.fr (.nm 7) (.rng2 (.var 6) (.op .bin .sub [.op .call .len [.pk 0], .op .bin .sub [.op .bin .sub [.pk 1, .pk 3], .cst (.int 1)]])) [7] chB1]
def chB3 : List Stm := [.asg (.nm 4) (.lst []), .fr (.tp [5, 6]) (.seq (.pk 2)) [5, 6, 7] chB2, .asg (.nm 2) (.var 4)]
section
variable {cf : CF} {o : Fl} {xs : List D} {R : En}
theorem ch_in (hd : ∀ x ∈ xs, dup x = true) (c : List D) (hc : ∀ x ∈ c, dup x = true) (hcl : c.length < 1000) {m f t : D} {s : Nat} (hi : Int) (hh : hi ≤ xs.length) (acc : List D) (ha : acc.length + (hi - s).toNat < 1000000) {cf : CF} (R : En) :
    loopS (frF cf (.nm 7) [7] chB1) (rangeL s hi) (some (.lst o xs) :: m :: some f :: some t :: some (.lst .own acc) :: some (.lst .shr c) :: some (.int s) :: none :: R) =
      .nx (some (.lst o xs) :: m :: some f :: some t :: some (.lst .own (acc ++ (stp xs (hi - s).toNat (c, s)).map (cp .own))) :: some (.lst .shr c) :: some (.int s) :: none :: R) := by
  have key := loop_range (f := frF cf (.nm 7) [7] chB1) (lo := (s : Int)) (hi := hi) (fun i => some (.lst o xs) :: m :: some f :: some t :: some (.lst .own (acc ++ (stp xs i (c, s)).map (cp .own))) :: some (.lst .shr c) :: some (.int s) :: none :: R) fun i hi' => by
    have h1 : s + i < xs.length := by omega
    have e1 : ixD xs ((s : Int) + i) = some (xs.getD (s + i) .gone) := by
      rw [q_ixP (by omega), show ((s : Int) + i).toNat = s + i by omega, List.getElem?_eq_getElem h1, List.getD_eq_getElem?_getD, List.getElem?_eq_getElem h1]
      rfl
    have d1 : dup (xs.getD (s + i) .gone) = true := by
      rw [List.getD_eq_getElem?_getD, List.getElem?_eq_getElem h1]
      exact hd _ (List.getElem_mem h1)
    have d2 := dup_all hc
    have l1 : c.length + 1 ≤ line := by unfold line; omega
    have l2 : acc.length + (stp xs i (c, s)).length < line := by unfold stp line; rw [List.length_map, List.length_range]; omega
    have e2 : stp xs (i + 1) (c, s) = stp xs i (c, s) ++ [(c ++ [xs.getD (s + i) .gone], s + i + 1)] := by
      unfold stp
      rw [List.range_succ, List.map_append]
      rfl
    have e3 : ((s : Int) + i + 1) = ((s + i + 1 : Nat) : Int) := by omega
    rw [e2, List.map_append]
    have e4 : [(c ++ [xs.getD (s + i) .gone], s + i + 1)].map (cp .own) = [.tup [.lst .own (c ++ [xs.getD (s + i) .gone]), .int ((s : Int) + i + 1)]] := by rw [e3]; rfl
    rw [e4]
    generalize xs.getD (s + i) .gone = z at *
    simp -implicitDefEqProofs [frF, chB1, e1, d1, d2, l1, l2]
  rw [← key]
  unfold stp
  simp
theorem ch_mid (hd : ∀ x ∈ xs, dup x = true) (hf : ∀ x ∈ xs, frz x = x) (many turn : Nat) (ht : turn < many) (hm : many < 1000) (hx : xs.length < 1000) {F : D} {cf : CF} (R : En) : ∀ (ps : List (List D × Nat)) (acc : List D), (∀ p ∈ ps, (∀ x ∈ p.1, x ∈ xs) ∧ p.1.length < 1000 ∧ p.2 ≤ xs.length) → acc.length + (ps.flatMap (fun p => stp xs (xs.length - (many - turn - 1) - p.2) p)).length < 1000000 →
    loopS (frF cf (.tp [5, 6]) [5, 6, 7] chB2) (ps.map (cp .shr)) (some (.lst o xs) :: some (.int many) :: some F :: some (.int turn) :: some (.lst .own acc) :: none :: none :: none :: R) =
      .nx (some (.lst o xs) :: some (.int many) :: some F :: some (.int turn) :: some (.lst .own (acc ++ (ps.flatMap fun p => stp xs (xs.length - (many - turn - 1) - p.2) p).map (cp .own))) :: none :: none :: none :: R)
  | [], acc, _, _ => by simp
  | p :: ps, acc, h, hz => by
    obtain ⟨h1, h2, h3⟩ := h p List.mem_cons_self
    rw [List.flatMap_cons, List.length_append] at hz
    have e0 : ((xs.length : Int) - ((many : Int) - turn - 1) - p.2).toNat = xs.length - (many - turn - 1) - p.2 := by omega
    have hz1 : acc.length + ((xs.length : Int) - ((many : Int) - turn - 1) - p.2).toNat < 1000000 := by
      rw [e0]
      have : (stp xs (xs.length - (many - turn - 1) - p.2) p).length = xs.length - (many - turn - 1) - p.2 := by unfold stp; rw [List.length_map, List.length_range]
      omega
    have inn := ch_in (o := o) hd p.1 (fun x hx => hd x (h1 x hx)) h2 (m := .int many) (f := F) (t := .int turn) (s := p.2) ((xs.length : Int) - ((many : Int) - turn - 1)) (by omega) acc hz1 (cf := cf) R
    rw [e0] at inn
    have g1 : okRg (p.2 : Int) = true := okRgI (by omega)
    have g2 : okRg ((xs.length : Int) - ((many : Int) - turn - 1)) = true := okRgI (by omega)
    have st : frF cf (.tp [5, 6]) [5, 6, 7] chB2 (cp .shr p) (some (.lst o xs) :: some (.int many) :: some F :: some (.int turn) :: some (.lst .own acc) :: none :: none :: none :: R) =
        .nx (some (.lst o xs) :: some (.int many) :: some F :: some (.int turn) :: some (.lst .own (acc ++ (stp xs (xs.length - (many - turn - 1) - p.2) p).map (cp .own))) :: none :: none :: none :: R) := by
      simp -implicitDefEqProofs [frF, chB2, cp, g1, g2, inn]
    rw [List.map_cons, loopS_cons st, ch_mid hd hf many turn ht hm hx R ps _ (fun q hq => h q (List.mem_cons_of_mem _ hq)) ?_, List.flatMap_cons, List.map_append, List.append_assoc]
    rw [List.length_append, List.length_map]
    omega
/-- one turn -/
theorem ch_turn (hd : ∀ x ∈ xs, dup x = true) (hf : ∀ x ∈ xs, frz x = x) (many turn : Nat) (ht : turn < many) (hm : many < 1000) (hx : xs.length < 1000) {fo po : Fl} (hfo : fo = .own ∨ (fo = .shr ∧ po = .shr)) (ps : List (List D × Nat)) (h : ∀ p ∈ ps, (∀ x ∈ p.1, x ∈ xs) ∧ p.1.length < 1000 ∧ p.2 ≤ xs.length)
    (hz : (ps.flatMap (fun p => stp xs (xs.length - (many - turn - 1) - p.2) p)).length < 1000000) {cf : CF} (R : En) :
    frF cf (.nm 3) [3, 4, 5, 6, 7] chB3 (.int turn) (some (.lst o xs) :: some (.int many) :: some (.lst fo (ps.map (cp po))) :: none :: none :: none :: none :: none :: R) =
      .nx (some (.lst o xs) :: some (.int many) :: some (.lst .shr ((ps.flatMap fun p => stp xs (xs.length - (many - turn - 1) - p.2) p).map (cp .shr))) :: none :: none :: none :: none :: none :: R) := by
  have fz : frzL (ps.map (cp po)) = ps.map (cp .shr) := frz_cps fun p hp x hx => hf x ((h p hp).1 x hx)
  have sub : ∀ q ∈ ps.flatMap (fun p => stp xs (xs.length - (many - turn - 1) - p.2) p), ∀ x ∈ q.1, x ∈ xs := fun q hq x hx2 => by
    obtain ⟨p, hp, hq⟩ := List.mem_flatMap.mp hq
    unfold stp at hq
    obtain ⟨i, hi, rfl⟩ := List.mem_map.mp hq
    rw [List.mem_range] at hi
    rcases List.mem_append.mp hx2 with z | z
    · exact (h p hp).1 x z
    · rw [List.mem_singleton] at z
      subst z
      have h1 : p.2 + i < xs.length := by omega
      rw [List.getD_eq_getElem?_getD, List.getElem?_eq_getElem h1]
      exact List.getElem_mem h1
  have fz2 : frzL ((ps.flatMap fun p => stp xs (xs.length - (many - turn - 1) - p.2) p).map (cp .own)) = (ps.flatMap fun p => stp xs (xs.length - (many - turn - 1) - p.2) p).map (cp .shr) := frz_cps fun q hq x hx => hf x (sub q hq x hx)
  have mid := fun F => ch_mid (o := o) hd hf many turn ht hm hx (F := F) (cf := cf) R ps [] h (by simpa using hz)
  simp only [List.nil_append] at mid
  rcases hfo with rfl | ⟨rfl, rfl⟩
  · simp -implicitDefEqProofs [frF, chB3, fz, mid, fz2]
  · simp -implicitDefEqProofs [frF, chB3, mid, fz2]
/-- the choices begun, behind t turns -/
def pst (xs : List D) (many : Nat) : Nat → List (List D × Nat)
  | 0 => [([], 0)]
  | t + 1 => (pst xs many t).flatMap fun p => stp xs (xs.length - (many - t - 1) - p.2) p
theorem pst_succ (xs : List D) (many t : Nat) : pst xs many (t + 1) = (pst xs many t).flatMap fun p => stp xs (xs.length - (many - t - 1) - p.2) p := rfl
theorem pst_expd (xs : List D) (many : Nat) : ∀ t, t ≤ many → (pst xs many t).flatMap (expd xs (many - t)) = comb many xs
  | 0, _ => by
    unfold pst expd
    rw [List.flatMap_cons, List.flatMap_nil, List.append_nil, List.drop_zero]
    simp
  | t + 1, h => by
    have ih := pst_expd xs many t (by omega)
    rw [← ih, pst_succ, fm_fm]
    refine congrArg (fun f => List.flatMap f (pst xs many t)) (funext fun p => ?_)
    obtain ⟨c, s⟩ := p
    rw [show many - t = (many - (t + 1)) + 1 by omega, expd_stp xs (many - (t + 1)) c _ s rfl]
    rfl
theorem pst_ok (xs : List D) (many : Nat) : ∀ t, t ≤ many → ∀ p ∈ pst xs many t, (∀ x ∈ p.1, x ∈ xs) ∧ p.1.length = t ∧ p.2 ≤ xs.length ∧ (0 < t ∨ many ≤ xs.length → p.2 + (many - t) ≤ xs.length)
  | 0, _, p, hp => by
    unfold pst at hp
    rw [List.mem_singleton] at hp
    subst hp
    exact ⟨fun x h => (by cases h), rfl, Nat.zero_le _, fun h => by dsimp only; omega⟩
  | t + 1, h, p, hp => by
    rw [pst_succ] at hp
    obtain ⟨q, hq, hp⟩ := List.mem_flatMap.mp hp
    obtain ⟨q1, q2, q3, q4⟩ := pst_ok xs many t (by omega) q hq
    unfold stp at hp
    obtain ⟨i, hi, rfl⟩ := List.mem_map.mp hp
    rw [List.mem_range] at hi
    have h1 : q.2 + i < xs.length := by omega
    refine ⟨fun x hx => ?_, by rw [List.length_append, q2]; rfl, by dsimp only; omega, fun _ => by dsimp only; omega⟩
    rcases List.mem_append.mp hx with z | z
    · exact q1 x z
    · rw [List.mem_singleton] at z
      subst z
      rw [List.getD_eq_getElem?_getD, List.getElem?_eq_getElem h1]
      exact List.getElem_mem h1
theorem pst_len (xs : List D) (many : Nat) {t : Nat} (h : t ≤ many) (h0 : 0 < t) : (pst xs many t).length ≤ (comb many xs).length := by
  rw [← pst_expd xs many t h]
  exact len_fm fun p hp => expd_ne ((pst_ok xs many t h p hp).2.2.2 (.inl h0))
theorem pst_end (xs : List D) (many : Nat) : (pst xs many many).map (·.1) = comb many xs := by
  rw [← pst_expd xs many many (Nat.le_refl _), Nat.sub_self]
  have : ∀ l : List (List D × Nat), l.flatMap (expd xs 0) = l.map (·.1) := by
    intro l
    induction l with
    | nil => rfl
    | cons p l ih =>
      rw [List.flatMap_cons, ih]
      unfold expd
      rw [comb_zero]
      simp
  exact (this _).symm
def fndAt (xs : List D) (many t : Nat) : D := if t = 0 then .lst .own [cp .own ([], 0)] else .lst .shr ((pst xs many t).map (cp .shr))
theorem ch_loop (hd : ∀ x ∈ xs, dup x = true) (hf : ∀ x ∈ xs, frz x = x) (many : Nat) (hm : many < 1000) (hx : xs.length < 1000) (hz : (comb many xs).length < 1000000) {cf : CF} (R : En) :
    loopS (frF cf (.nm 3) [3, 4, 5, 6, 7] chB3) (rangeL 0 many) (some (.lst o xs) :: some (.int many) :: some (fndAt xs many 0) :: none :: none :: none :: none :: none :: R) =
      .nx (some (.lst o xs) :: some (.int many) :: some (fndAt xs many many) :: none :: none :: none :: none :: none :: R) := by
  refine loop_upto many (fun t => some (.lst o xs) :: some (.int many) :: some (fndAt xs many t) :: none :: none :: none :: none :: none :: R) rfl rfl fun t ht => ?_
  have h : ∀ p ∈ pst xs many t, (∀ x ∈ p.1, x ∈ xs) ∧ p.1.length < 1000 ∧ p.2 ≤ xs.length := fun p hp => by
    obtain ⟨h1, h2, h3, _⟩ := pst_ok xs many t (by omega) p hp
    exact ⟨h1, by omega, h3⟩
  have hz2 : ((pst xs many t).flatMap (fun p => stp xs (xs.length - (many - t - 1) - p.2) p)).length < 1000000 := Nat.lt_of_le_of_lt (pst_len xs many (t := t + 1) (by omega) (by omega)) hz
  have e1 : fndAt xs many (t + 1) = .lst .shr (((pst xs many t).flatMap fun p => stp xs (xs.length - (many - t - 1) - p.2) p).map (cp .shr)) := by
    unfold fndAt
    rw [if_neg (by omega)]
    rfl
  rw [e1]
  by_cases h0 : t = 0
  · subst h0
    exact ch_turn (o := o) hd hf many 0 ht hm hx (.inl rfl) (pst xs many 0) h hz2 R
  · have e2 : fndAt xs many t = .lst .shr ((pst xs many t).map (cp .shr)) := by
      unfold fndAt
      rw [if_neg h0]
    rw [e2]
    exact ch_turn (o := o) hd hf many t ht hm hx (.inr ⟨rfl, rfl⟩) (pst xs many t) h hz2 R
def bChooseL : List Stm := [.asg (.nm 2) (.lst [.tup [.lst [], .cst (.int 0)]]), .fr (.nm 3) (.rng1 (.var 1)) [3, 4, 5, 6, 7] chB3, .ret (.lc [8] (.nm 8) (.seq (.pk 2)) (.yes) (.op .sub .idx [.pk 8, .cst (.int 0)]))]
/-- _law_choose -/
def dChooseL : Def := ⟨2, [true, true], 9, bChooseL, .plain⟩
/-- its answer -/
def combD (many : Nat) (xs : List D) : D := .lst .own ((comb many xs).map (.lst .shr))
theorem chooseL_ok {T : Nat → Option Def} {i : Nat} (hT : T i = some dChooseL) (k : Nat) (o : Fl) {xs : List D} (hd : ∀ x ∈ xs, dup x = true) (hf : ∀ x ∈ xs, frz x = x) (many : Nat) (hm : many < 1000) (hx : xs.length < 1000) (hz : (comb many xs).length < 1000000) :
    run T (k + 1) i [.lst o xs, .int many] = .ok (combD many xs) [.lst o xs, .int many] := by
  rw [run_of (p := dChooseL) hT rfl]
  have lp := ch_loop (o := o) hd hf many hm hx hz (cf := run T k) [none]
  have o1 : okRg (many : Int) = true := okRgI (by omega)
  have e0 : fndAt xs many 0 = .lst .own [.tup [.lst .own [], .int 0]] := rfl
  obtain ⟨F, hF⟩ : ∃ F, F = fndAt xs many many := ⟨_, rfl⟩
  have lc : ∀ F', loopC (lcF (run T k) [8] (.nm 8) .yes (.op .sub .idx [.pk 8, .cst (.int 0)])) ((pst xs many many).map (cp .shr)) [some (.lst o xs), some (.int many), F', none, none, none, none, none, none] =
      .ok ((comb many xs).map (.lst .shr)) [some (.lst o xs), some (.int many), F', none, none, none, none, none, none] := fun F' => by
    have := loopC_keep (f := lcF (run T k) [8] (.nm 8) .yes (.op .sub .idx [.pk 8, .cst (.int 0)])) (g := cp .shr) (h := fun p => D.lst .shr p.1) (b := fun _ => true) (l := pst xs many many) (Γ := [some (.lst o xs), some (.int many), F', none, none, none, none, none, none]) fun p _ => by
      simp -implicitDefEqProofs [cp]
    rw [this, List.filter_eq_self.mpr fun _ _ => rfl, ← pst_end xs many, List.map_map]
    rfl
  have lz : (comb many xs).length ≤ line := by unfold line; omega
  rw [← hF] at lp
  rw [e0] at lp
  have lp2 : loopS (frF (run T k) (.nm 3) [3, 4, 5, 6, 7] chB3) (rangeL 0 many) [some (.lst o xs), some (.int many), some (.lst .own [.tup [.lst .own [], .int 0]]), none, none, none, none, none, none] = .nx [some (.lst o xs), some (.int many), some F, none, none, none, none, none, none] := lp
  unfold combD
  by_cases h0 : many = 0
  · subst h0
    have r0 : rangeL 0 0 = [] := rfl
    have l1 : 1 ≤ line := by decide
    simp -implicitDefEqProofs [dChooseL, bChooseL, enter, r0, comb_zero, loopC, l1]
  · have hF2 : F = .lst .shr ((pst xs many many).map (cp .shr)) := by rw [hF]; unfold fndAt; rw [if_neg h0]
    rw [hF2] at lp2
    simp -implicitDefEqProofs [dChooseL, bChooseL, enter, o1, lp2, lc, lz]
end
end VE

end
section
set_option maxHeartbeats 2000000
/-! VW2: _law_matches, _law_mix, lists compared, whatever the law. -/
namespace VE
open PySem
theorem eqv_int (a b : Int) : PyData.eqv (.int a) (.int b) = decide (a = b) := by
  have : cmpF .eq (.int a) (.int b) = some (decide (a = b)) := q_ceq
  exact Option.some.inj this
theorem toPyL_ints : ∀ L : List Int, toPyL (L.map D.int) = L.map PyData.int
  | [] => rfl
  | x :: L => by
    show PyData.int x :: toPyL (L.map D.int) = _
    rw [toPyL_ints L]
    rfl
theorem eqvAll_ints : ∀ A B : List Int, PyData.eqvAll (A.map .int) (B.map .int) = decide (A = B)
  | [], [] => by simp [PyData.eqvAll]
  | [], _ :: _ => by simp [PyData.eqvAll]
  | _ :: _, [] => by simp [PyData.eqvAll]
  | a :: A, b :: B => by
    rw [List.map_cons, List.map_cons, PyData.eqvAll, eqv_int, eqvAll_ints A B]
    simp
theorem eqD_ints (o p : Fl) (A B : List Int) : eqD (.lst o (A.map .int)) (.lst p (B.map .int)) = decide (A = B) := by
  show PyData.eqv (.list (toPyL (A.map .int))) (.list (toPyL (B.map .int))) = _
  rw [toPyL_ints, toPyL_ints, PyData.eqv, eqvAll_ints]
theorem eq_ints (o p : Fl) (A B : List Int) : cmpF .eq (.lst o (A.map .int)) (.lst p (B.map .int)) = some (decide (A = B)) := by
  show guardO ((A.map D.int).all (shal 7) && (B.map D.int).all (shal 7)) (some (eqD (.lst o (A.map .int)) (.lst p (B.map .int)))) = _
  rw [shal_ints, shal_ints, eqD_ints]
  rfl
theorem eq_nil {o p : Fl} {A : List Int} : cmpF .eq (.lst o (A.map .int)) (.lst p []) = some (decide (A = [])) := eq_ints o p A []

/-- data alike, whoever owns them; t: how deep -/
def Sm0 (a b : D) : Prop := a = b ∧ ((∃ i, a = .int i) ∨ a = .non ∨ ∃ s, a = .str s ∧ PyData.strOk s = true)
structure SmL (P : D → D → Prop) (xs ys : List D) : Prop where
  len : xs.length = ys.length
  all : ∀ (i : Nat) (x y : D), xs[i]? = some x → ys[i]? = some y → P x y ∧ dup x = true ∧ dup y = true
  few : ys.length ≤ 1000
def Sm : Nat → D → D → Prop
  | 0, a, b => Sm0 a b
  | t + 1, a, b => Sm0 a b ∨ (∃ o p xs ys, a = .lst o xs ∧ b = .lst p ys ∧ SmL (Sm t) xs ys) ∨ ∃ xs ys, a = .tup xs ∧ b = .tup ys ∧ SmL (Sm t) xs ys

theorem sm_int (t : Nat) (i : Int) : Sm t (.int i) (.int i) := by
  cases t with
  | zero => exact ⟨rfl, .inl ⟨i, rfl⟩⟩
  | succ t => exact .inl ⟨rfl, .inl ⟨i, rfl⟩⟩
theorem sm_non (t : Nat) : Sm t .non .non := by
  cases t with
  | zero => exact ⟨rfl, .inr (.inl rfl)⟩
  | succ t => exact .inl ⟨rfl, .inr (.inl rfl)⟩
theorem sm_str (t : Nat) {s : Str} (h : PyData.strOk s = true) : Sm t (.str s) (.str s) := by
  cases t with
  | zero => exact ⟨rfl, .inr (.inr ⟨s, rfl, h⟩)⟩
  | succ t => exact .inl ⟨rfl, .inr (.inr ⟨s, rfl, h⟩)⟩
theorem smL_map {α : Type} {P : D → D → Prop} {f : α → D} {L : List α} (h : ∀ x ∈ L, P (f x) (f x) ∧ dup (f x) = true) (hl : L.length ≤ 1000) : SmL P (L.map f) (L.map f) := by
  refine ⟨rfl, fun i x y ex ey => ?_, by rw [List.length_map]; exact hl⟩
  rw [ex] at ey
  cases ey
  obtain ⟨z, hz, rfl⟩ := List.mem_map.mp (List.mem_of_getElem? ex)
  obtain ⟨h1, h2⟩ := h z hz
  exact ⟨h1, h2, h2⟩
theorem sm_ints (t : Nat) (o p : Fl) {L : List Int} (hl : L.length ≤ 1000) : Sm (t + 1) (.lst o (L.map .int)) (.lst p (L.map .int)) :=
  .inr (.inl ⟨o, p, _, _, rfl, rfl, smL_map (fun x _ => ⟨sm_int t x, rfl⟩) hl⟩)
theorem sm_rows (t : Nat) (o p : Fl) {r : List (List Int)} (hl : r.length ≤ 1000) (h : ∀ l ∈ r, l.length ≤ 1000) : Sm (t + 2) (.lst o (r.map rowD)) (.lst p (r.map rowD)) :=
  .inr (.inl ⟨o, p, _, _, rfl, rfl, smL_map (fun l hm => ⟨sm_ints t .shr .shr (h l hm), rfl⟩) hl⟩)
theorem sm_two (t : Nat) {a b : Str} (ha : PyData.strOk a = true) (hb : PyData.strOk b = true) : Sm (t + 1) (.tup [.str a, .str b]) (.tup [.str a, .str b]) :=
  .inr (.inr ⟨_, _, rfl, rfl, smL_map (f := D.str) (L := [a, b]) (fun x hx => by
    rcases List.mem_cons.mp hx with rfl | hx
    · exact ⟨sm_str t ha, rfl⟩
    · rw [List.mem_singleton] at hx
      subst hx
      exact ⟨sm_str t hb, rfl⟩) (by show 2 ≤ 1000; decide)⟩)

def bMatch (i : Nat) : List Stm := [.iff (.or [.cmp .isn [.pk 1, .cst .non], .cmp .isn [.pk 0, .cst .non]]) [.ret (.tst (.and [.cmp .isn [.pk 1, .cst .non], .cmp .isn [.pk 0, .cst .non]]))] [], .iff (.or [.tr [.op .isi .isB [.pk 1]], .tr [.op .isi .isB [.pk 0]]]) [.ret (.tst (.and [.tr [.op .isi .isB [.pk 1]], .tr [.op .isi .isB [.pk 0]], .cmp .eq [.pk 0, .pk 1]]))] [], .iff (.tr [.op .isi .isI [.pk 1]]) [.ret (.tst (.and [.tr [.op .isi .isI [.pk 0]], .cmp .eq [.pk 0, .pk 1]]))] [], .iff (.tr [.op .isi .isS [.pk 1]]) [.ret (.tst (.and [.tr [.op .isi .isS [.pk 0]], .cmp .eq [.pk 0, .pk 1]]))] [], .iff (.and [.tr [.op .isi .isT [.pk 1]], .not (.tr [.op .isi .isT [.pk 0]])]) [.ret (.cst (.bl false))] [], .iff (.and [.tr [.op .isi .isL [.pk 1]], .not (.tr [.op .isi .isL [.pk 0]])]) [.ret (.cst (.bl false))] [], .iff (.cmp .ne [.op .call .len [.pk 0], .op .call .len [.pk 1]]) [.ret (.cst (.bl false))] [], .fr (.nm 2) (.rng1 (.op .call .len [.pk 1])) [2] [.iff (.not (.tr [.call i [.op .sub .idx [.pk 0, .pk 2], .op .sub .idx [.pk 1, .pk 2]]])) [.ret (.cst (.bl false))] []], .ret (.cst (.bl true))]
/-- _law_matches, which calls itself as i -/
def dMatch (i : Nat) : Def := ⟨2, [true, true], 3, bMatch i, .plain⟩
section
variable {T : Nat → Option Def} {iM : Nat} (hT : T iM = some (dMatch iM))
include hT
theorem match_int (k : Nat) (i : Int) : run T (k + 1) iM [.int i, .int i] = .ok (.bl true) [.int i, .int i] := by
  rw [run_of (p := dMatch iM) hT rfl]
  simp -implicitDefEqProofs [dMatch, bMatch, enter]
theorem match_non (k : Nat) : run T (k + 1) iM [.non, .non] = .ok (.bl true) [.non, .non] := by
  rw [run_of (p := dMatch iM) hT rfl]
  simp -implicitDefEqProofs [dMatch, bMatch, enter]
theorem match_str (k : Nat) {s : Str} (hs : PyData.strOk s = true) : run T (k + 1) iM [.str s, .str s] = .ok (.bl true) [.str s, .str s] := by
  rw [run_of (p := dMatch iM) hT rfl]
  have e1 : cmpF .isn (.str s) .non = some false := rfl
  have e2 : opF .isB [.str s] = some (.bl false) := rfl
  have e3 : opF .isI [.str s] = some (.bl false) := rfl
  have e4 : opF .isS [.str s] = some (.bl true) := rfl
  have e5 : cmpF .eq (.str s) (.str s) = some true := by
    show guardO (shal 8 (.str s) && shal 8 (.str s)) (some (eqD (.str s) (.str s))) = some true
    have h1 : shal 8 (.str s) = true := hs
    have h2 : eqD (.str s) (.str s) = true := by
      unfold eqD toPy PyData.eqv
      simp
    rw [h1, h2]
    rfl
  simp -implicitDefEqProofs [dMatch, bMatch, enter, e1, e2, e3, e4, e5]
def ma7 (i : Nat) : List Stm := bodyAt (bMatch i) 7
omit hT in
theorem ma_step (iM : Nat) (cf : CF) {a b : D} {x y : D} {i : Nat} {xs ys : List D} (ha : (∃ o, a = .lst o xs) ∨ a = .tup xs) (hb : (∃ o, b = .lst o ys) ∨ b = .tup ys) (hx : xs[i]? = some x) (hy : ys[i]? = some y) (dx : dup x = true) (dy : dup y = true) (hr : cf iM [x, y] = .ok (.bl true) [x, y]) :
    frF cf (.nm 2) [2] (ma7 iM) (.int i) [some a, some b, none] = .nx [some a, some b, none] := by
  have ix : ∀ {zs : List D} {z : D}, zs[i]? = some z → ixD zs (i : Int) = some z := fun {zs z} h => by
    unfold ixD
    rw [if_pos (Int.natCast_nonneg i), Int.toNat_natCast]
    exact h
  have i1 := ix hx
  have i2 := ix hy
  rcases ha with ⟨o, rfl⟩ | rfl <;> rcases hb with ⟨p, rfl⟩ | rfl <;> simp -implicitDefEqProofs [frF, ma7, bodyAt, stmB, bMatch, i1, i2, dx, dy, hr]
theorem ma_head (k : Nat) {a b : D} {xs ys : List D} (l : xs.length = ys.length) (few : ys.length ≤ 1000) (h : (∃ o p, a = .lst o xs ∧ b = .lst p ys) ∨ (a = .tup xs ∧ b = .tup ys))
    (lp : loopS (frF (run T k) (.nm 2) [2] (ma7 iM)) (rangeL 0 (ys.length : Int)) [some a, some b, none] = .nx [some a, some b, none]) : run T (k + 1) iM [a, b] = .ok (.bl true) [a, b] := by
  rw [run_of (p := dMatch iM) hT rfl]
  have rg : okRg (ys.length : Int) = true := okRgI (by omega)
  have rg0 : okRg 0 = true := by decide
  have eb : ma7 iM = [.iff (.not (.tr [.call iM [.op .sub .idx [.pk 0, .pk 2], .op .sub .idx [.pk 1, .pk 2]]])) [.ret (.cst (.bl false))] []] := rfl
  rw [eb] at lp
  have n1 : ∀ (o : Fl) (zs : List D), cmpF .isn (.lst o zs) .non = some false := fun _ _ => rfl
  have n2 : ∀ zs : List D, cmpF .isn (.tup zs) .non = some false := fun _ => rfl
  have b1 : ∀ (o : Fl) (zs : List D), opF .isB [.lst o zs] = some (.bl false) := fun _ _ => rfl
  have b2 : ∀ zs : List D, opF .isB [.tup zs] = some (.bl false) := fun _ => rfl
  have c1 : ∀ (o : Fl) (zs : List D), opF .isI [.lst o zs] = some (.bl false) := fun _ _ => rfl
  have c2 : ∀ zs : List D, opF .isI [.tup zs] = some (.bl false) := fun _ => rfl
  have d1 : ∀ (o : Fl) (zs : List D), opF .isS [.lst o zs] = some (.bl false) := fun _ _ => rfl
  have d2 : ∀ zs : List D, opF .isS [.tup zs] = some (.bl false) := fun _ => rfl
  have e1 : ∀ (o : Fl) (zs : List D), opF .isT [.lst o zs] = some (.bl false) := fun _ _ => rfl
  have e2 : ∀ zs : List D, opF .isT [.tup zs] = some (.bl true) := fun _ => rfl
  have f1 : ∀ (o : Fl) (zs : List D), opF .isL [.lst o zs] = some (.bl true) := fun _ _ => rfl
  have f2 : ∀ zs : List D, opF .isL [.tup zs] = some (.bl false) := fun _ => rfl
  rcases h with ⟨o, p, rfl, rfl⟩ | ⟨rfl, rfl⟩
  · simp -implicitDefEqProofs [dMatch, bMatch, enter, n1, b1, c1, d1, e1, f1, l, rg, rg0, lp]
  · simp -implicitDefEqProofs [dMatch, bMatch, enter, n2, b2, c2, d2, e2, f2, l, rg, rg0, lp]
/-- _law_matches on data alike -/
theorem match_ok : ∀ (t k : Nat) {a b : D}, Sm t a b → run T (k + t + 1) iM [a, b] = .ok (.bl true) [a, b] := by
  have base : ∀ (k : Nat) {a b : D}, Sm0 a b → run T (k + 1) iM [a, b] = .ok (.bl true) [a, b] := fun k {a b} h => by
    obtain ⟨rfl, h⟩ := h
    rcases h with ⟨i, rfl⟩ | rfl | ⟨s, rfl, hs⟩
    · exact match_int hT k i
    · exact match_non hT k
    · exact match_str hT k hs
  intro t
  induction t with
  | zero => exact fun k {a b} h => base k h
  | succ t ih =>
    intro k a b h
    have go : ∀ {xs ys : List D}, SmL (Sm t) xs ys → ((∃ o p, a = .lst o xs ∧ b = .lst p ys) ∨ (a = .tup xs ∧ b = .tup ys)) → run T (k + (t + 1) + 1) iM [a, b] = .ok (.bl true) [a, b] := fun {xs ys} hl hk => by
      refine ma_head hT (k + (t + 1)) hl.len hl.few hk ?_
      refine loop_upto ys.length (fun _ => [some a, some b, none]) rfl rfl fun i hi => ?_
      obtain ⟨m1, m2, m3⟩ := hl.all i _ _ (List.getElem?_eq_getElem (by rw [hl.len]; exact hi)) (List.getElem?_eq_getElem hi)
      refine ma_step iM _ (xs := xs) (ys := ys) ?_ ?_ (List.getElem?_eq_getElem (by rw [hl.len]; exact hi)) (List.getElem?_eq_getElem hi) m2 m3 (ih k m1)
      · rcases hk with ⟨o, p, rfl, rfl⟩ | ⟨rfl, rfl⟩
        · exact .inl ⟨o, rfl⟩
        · exact .inr rfl
      · rcases hk with ⟨o, p, rfl, rfl⟩ | ⟨rfl, rfl⟩
        · exact .inl ⟨p, rfl⟩
        · exact .inr rfl
    rcases h with h | ⟨o, p, xs, ys, e1, e2, hl⟩ | ⟨xs, ys, e1, e2, hl⟩
    · exact base (k + (t + 1)) h
    · exact go hl (.inl ⟨o, p, e1, e2⟩)
    · exact go hl (.inr ⟨e1, e2⟩)

end
theorem frz_map {α : Type} {g : α → D} (h : ∀ a, frz (g a) = g a) (l : List α) : frzL (l.map g) = l.map g := frz_id fun x hx => by
  obtain ⟨a, _, rfl⟩ := List.mem_map.mp hx
  exact h a
theorem dup_map {α : Type} {g : α → D} (h : ∀ a, dup (g a) = true) (l : List α) : dupL (l.map g) = true := dup_all fun x hx => by
  obtain ⟨a, _, rfl⟩ := List.mem_map.mp hx
  exact h a
theorem rangeL_map (lo hi : Int) : rangeL lo hi = ((List.range (hi - lo).toNat).map fun (k : Nat) => lo + k).map D.int := by
  unfold rangeL
  rw [List.map_map]
  rfl
theorem erase_map {α β : Type} (g : α → β) : ∀ (l : List α) (i : Nat), (l.map g).eraseIdx i = (l.eraseIdx i).map g
  | [], _ => rfl
  | _ :: _, 0 => rfl
  | a :: l, i + 1 => by
    show g a :: (l.map g).eraseIdx i = g a :: (l.eraseIdx i).map g
    rw [erase_map g l i]
theorem erase_perm {α : Type} : ∀ {l : List α} {i : Nat} (h : i < l.length), (l[i] :: l.eraseIdx i).Perm l
  | [], _, h => absurd h (Nat.not_lt_zero _)
  | a :: l, 0, _ => List.Perm.refl _
  | a :: l, i + 1, h => by
    have h' : i < l.length := Nat.lt_of_succ_lt_succ h
    show (l[i] :: a :: l.eraseIdx i).Perm (a :: l)
    exact (List.Perm.swap _ _ _).trans ((erase_perm h').cons a)
def bMix (iD : Nat) : List Stm := [.asg (.nm 2) (.op .call .list [.pk 1]), .asg (.nm 3) (.lst []), .fr (.nm 4) (.rng1 (.op .call .len [.pk 1])) [4] [.app 3 (.popAt 2 (.call iD [.pk 0, .op .call .len [.pk 2]]))], .ret (.var 3)]
/-- _law_mix, which draws by iD -/
def dMix (iD : Nat) : Def := ⟨2, [true, true], 5, bMix iD, .plain⟩
def mx2 (iD : Nat) : List Stm := bodyAt (bMix iD) 2
section
variable {T : Nat → Option Def} {iX iD : Nat} (hT : T iX = some (dMix iD)) (hD : T iD = some dDraw)
include hD
theorem mx_loop {α : Type} (k : Nat) (g : α → D) {R : D} : ∀ (ts : List Int) (left mixed : List α) (p : Pu), left.length = ts.length → mixed.length + left.length ≤ 1000 →
    ∃ (ys : List α) (p' : Pu), ys.Perm left ∧ loopS (frF (run T (k + 1)) (.nm 4) [4] (mx2 iD)) (ts.map D.int) [some (pu p), some R, some (.lst .own (left.map g)), some (.lst .own (mixed.map g)), none] =
      .nx [some (pu p'), some R, some (.lst .own []), some (.lst .own ((mixed ++ ys).map g)), none]
  | [], left, mixed, p, hl, _ => by
    have : left = [] := List.length_eq_zero_iff.mp hl
    subst this
    exact ⟨[], p, List.Perm.refl _, by rw [List.append_nil]; rfl⟩
  | t :: ts, left, mixed, p, hl, hz => by
    rw [List.length_cons] at hl
    obtain ⟨v, hv, ev⟩ := dv_nat p (m := left.length) (by omega)
    have dr := draw_ok (i := iD) hD k p (left.length : Int) (by omega) (by omega)
    rw [ev] at dr
    have gv : (left.map g)[v]? = some (g left[v]) := by
      rw [List.getElem?_map, List.getElem?_eq_getElem hv]
      rfl
    have er : (left.map g).eraseIdx v = (left.eraseIdx v).map g := erase_map g left v
    obtain ⟨ys, p', hp, e⟩ := mx_loop k g (R := R) ts (left.eraseIdx v) (mixed ++ [left[v]]) (nx p left.length) (by rw [List.length_eraseIdx_of_lt hv]; omega) (by rw [List.length_eraseIdx_of_lt hv]; simp; omega)
    refine ⟨left[v] :: ys, p', (hp.cons _).trans (erase_perm hv), ?_⟩
    have l1 : mixed.length < line := by unfold line; omega
    have b1 : (v : Int) ≤ 1000000 := by omega
    have ma : (mixed ++ [left[v]]).map g = mixed.map g ++ [g left[v]] := by simp
    rw [List.map_cons, loopS_cons (Γ1 := [some (pu (nx p left.length)), some R, some (.lst .own ((left.eraseIdx v).map g)), some (.lst .own ((mixed ++ [left[v]]).map g)), none]) ?_, e]
    · simp
    · rw [ma]
      have dr' : run T (k + 1) iD [pu p, .int (left.length : Int)] = .ok (.int v) [pu (nx p left.length), .int left.length] := dr
      simp -implicitDefEqProofs [frF, mx2, bodyAt, stmB, bMix, dr', gv, er, l1, b1]
include hT in
theorem mix_ok {α : Type} (k : Nat) {g : α → D} (hf : ∀ a, frz (g a) = g a) (hd : ∀ a, dup (g a) = true) (o : Fl) (xs : List α) (hx : xs.length ≤ 1000) (p : Pu) :
    ∃ (ys : List α) (p' : Pu), ys.Perm xs ∧ run T (k + 2) iX [pu p, .lst o (xs.map g)] = .ok (.lst .shr (ys.map g)) [pu p', .lst o (xs.map g)] := by
  obtain ⟨ys, p', hp, e⟩ := mx_loop hD k g (R := .lst o (xs.map g)) ((List.range xs.length).map fun (k : Nat) => (0 : Int) + k) xs [] p (by simp) (by simp; omega)
  refine ⟨ys, p', hp, ?_⟩
  rw [run_of (p := dMix iD) hT rfl]
  have e0 := rangeL_map 0 (xs.length : Int)
  rw [show ((xs.length : Int) - 0).toNat = xs.length by omega] at e0
  rw [← e0] at e
  simp only [mx2, bodyAt, stmB, bMix, List.getElem?_cons_succ, List.getElem?_cons_zero, List.nil_append, List.map_nil] at e
  have d1 := dup_map hd xs
  have f1 := frz_map hf ys
  have o1 : okRg (xs.length : Int) = true := okRgI (by omega)
  simp -implicitDefEqProofs [dMix, bMix, enter, d1, f1, o1, e]
end
/-! a draw, its outcome named -/
section
variable {T : Nat → Option Def} {iD : Nat} (hD : T iD = some dDraw)
include hD
theorem dr (k : Nat) (p : Pu) (m : Int) (h1 : 0 < m) (h2 : m < 1073741824) : ∃ (v : Int) (p' : Pu), run T (k + 1) iD [pu p, .int m] = .ok (.int v) [pu p', .int m] ∧ 0 ≤ v ∧ v < m := ⟨_, _, draw_ok hD k p m h1 h2, dv_lo p h1, dv_hi p h1⟩
theorem drN (k : Nat) (p : Pu) (m : Nat) (h1 : 0 < m) (h2 : m < 1073741824) : ∃ (v : Nat) (p' : Pu), run T (k + 1) iD [pu p, .int m] = .ok (.int v) [pu p', .int m] ∧ v < m := by
  obtain ⟨v, p', e, a, b⟩ := dr hD k p m (by omega) (by omega)
  exact ⟨v.toNat, p', by rw [Int.toNat_of_nonneg a]; exact e, by omega⟩
end
/-! looks at ints and lists of ints -/
def bMeets : List Stm := [.fr (.nm 2) (.seq (.pk 0)) [2] [.iff (.cmp .mem [.pk 2, .pk 1]) [.ret (.cst (.bl true))] []], .ret (.cst (.bl false))]
def dMeets : Def := ⟨2, [true, true], 3, bMeets, .plain⟩
def bWithin : List Stm := [.fr (.nm 2) (.seq (.pk 0)) [2] [.iff (.cmp .nmem [.pk 2, .pk 1]) [.ret (.cst (.bl false))] []], .ret (.cst (.bl true))]
def dWithin : Def := ⟨2, [true, true], 3, bWithin, .plain⟩
def bWithout : List Stm := [.ret (.lc [2] (.nm 2) (.seq (.pk 0)) (.cmp .nmem [.pk 2, .pk 1]) (.var 2))]
def dWithout : Def := ⟨2, [true, true], 3, bWithout, .plain⟩
def bMost : List Stm := [.iff (.cmp .gt [.pk 1, .pk 2]) [.rse ⟨"TooMany", "what"⟩ [.var 0]] []]
def dMost : Def := ⟨3, [true, true, true], 3, bMost, .plain⟩
def bFrom : List Stm := [.iff (.not (.chn .le .le [.pk 1, .pk 0] (.var 2))) [.rse ⟨"BadPlan", "what"⟩ [.cst (.str "numbers")]] []]
def dFrom : Def := ⟨3, [true, true, true], 3, bFrom, .plain⟩
/-- a loop whose turn goes on or ends it with a value -/
theorem loopS_find {α : Type} {f : D → En → S} {g : α → D} {Γ : En} {b : α → Bool} {R : α → S} (hR : ∀ x, loopN f [] (R x) = R x ∧ ∀ l, loopN f l (R x) = R x) : ∀ {l : List α}, (∀ x ∈ l, f (g x) Γ = if b x = true then R x else .nx Γ) → loopS f (l.map g) Γ = match l.find? b with
    | some x => R x
    | none => .nx Γ
  | [], _ => rfl
  | x :: l, h => by
    rw [List.map_cons, q_loopS1, h x List.mem_cons_self, List.find?_cons]
    cases c : b x with
    | true => exact (hR x).2 _
    | false =>
      rw [if_neg Bool.false_ne_true, q_loopN_nx, loopS_find hR fun y hy => h y (List.mem_cons_of_mem _ hy)]
theorem loopS_findR {α : Type} {f : D → En → S} {g : α → D} {Γ : En} {b : α → Bool} {d : α → D} {G : α → En} {l : List α} (h : ∀ x ∈ l, f (g x) Γ = if b x = true then .rt (d x) (G x) else .nx Γ) : loopS f (l.map g) Γ = match l.find? b with
    | some x => .rt (d x) (G x)
    | none => .nx Γ := loopS_find (R := fun x => .rt (d x) (G x)) (fun x => ⟨rfl, fun _ => rfl⟩) h
theorem loopS_findX {α : Type} {f : D → En → S} {g : α → D} {Γ : En} {b : α → Bool} {c : α → Xn} {d : α → List D} {G : α → En} {l : List α} (h : ∀ x ∈ l, f (g x) Γ = if b x = true then .ex (c x) (d x) (G x) else .nx Γ) : loopS f (l.map g) Γ = match l.find? b with
    | some x => .ex (c x) (d x) (G x)
    | none => .nx Γ := loopS_find (R := fun x => .ex (c x) (d x) (G x)) (fun x => ⟨rfl, fun _ => rfl⟩) h
theorem find_any {α : Type} (b : α → Bool) : ∀ l : List α, (l.find? b).isSome = l.any b
  | [] => rfl
  | x :: l => by
    rw [List.find?_cons, List.any_cons, ← find_any b l]
    cases b x <;> rfl
/-- a list of ints -/
def li (o : Fl) (A : List Int) : D := .lst o (A.map .int)
section
variable {T : Nat → Option Def} {i : Nat}
theorem meets_ok (hT : T i = some dMeets) (k : Nat) (o p : Fl) (A B : List Int) : run T (k + 1) i [li o A, li p B] = .ok (.bl (A.any fun x => decide (x ∈ B))) [li o A, li p B] := by
  rw [run_of (p := dMeets) hT rfl]
  unfold li
  have lp := fun q => loopS_findR (f := frF (run T k) (.nm 2) [2] [.iff (.cmp .mem [.pk 2, .pk 1]) [.ret (.cst (.bl true))] []]) (g := D.int) (Γ := [some (.lst q (A.map .int)), some (.lst p (B.map .int)), none]) (b := fun x => decide (x ∈ B)) (d := fun _ => .bl true) (G := fun x => [some (.lst q (A.map .int)), some (.lst p (B.map .int)), some (.int x)]) (l := A) fun x _ => by
    by_cases h : x ∈ B <;> simp -implicitDefEqProofs [frF, h]
  have e : (A.any fun x => decide (x ∈ B)) = (A.find? fun x => decide (x ∈ B)).isSome := (find_any _ A).symm
  rw [e]
  cases h : A.find? fun x => decide (x ∈ B) with
  | some x =>
    rw [h] at lp
    cases o <;> simp -implicitDefEqProofs [dMeets, bMeets, enter, lp]
  | none =>
    rw [h] at lp
    cases o <;> simp -implicitDefEqProofs [dMeets, bMeets, enter, lp]
theorem within_ok (hT : T i = some dWithin) (k : Nat) (o p : Fl) (A B : List Int) : run T (k + 1) i [li o A, li p B] = .ok (.bl (A.all fun x => decide (x ∈ B))) [li o A, li p B] := by
  rw [run_of (p := dWithin) hT rfl]
  unfold li
  have lp := fun q => loopS_findR (f := frF (run T k) (.nm 2) [2] [.iff (.cmp .nmem [.pk 2, .pk 1]) [.ret (.cst (.bl false))] []]) (g := D.int) (Γ := [some (.lst q (A.map .int)), some (.lst p (B.map .int)), none]) (b := fun x => !decide (x ∈ B)) (d := fun _ => .bl false) (G := fun x => [some (.lst q (A.map .int)), some (.lst p (B.map .int)), some (.int x)]) (l := A) fun x _ => by
    by_cases h : x ∈ B <;> simp -implicitDefEqProofs [frF, h]
  have e : (A.all fun x => decide (x ∈ B)) = !(A.find? fun x => !decide (x ∈ B)).isSome := by
    rw [find_any, List.any_eq_not_all_not]
    simp
  rw [e]
  cases h : A.find? fun x => !decide (x ∈ B) with
  | some x =>
    rw [h] at lp
    cases o <;> simp -implicitDefEqProofs [dWithin, bWithin, enter, lp]
  | none =>
    rw [h] at lp
    cases o <;> simp -implicitDefEqProofs [dWithin, bWithin, enter, lp]
theorem without_ok (hT : T i = some dWithout) (k : Nat) (o p : Fl) (A B : List Int) (hA : A.length ≤ 1000000) : run T (k + 1) i [li o A, li p B] = .ok (li .own (A.filter fun x => !decide (x ∈ B))) [li o A, li p B] := by
  rw [run_of (p := dWithout) hT rfl]
  unfold li
  have lc := fun q => loopC_keep (f := lcF (run T k) [2] (.nm 2) (.cmp .nmem [.pk 2, .pk 1]) (.var 2)) (g := D.int) (h := D.int) (b := fun x => !decide (x ∈ B)) (l := A) (Γ := [some (.lst q (A.map .int)), some (.lst p (B.map .int)), none]) fun x _ => by
    by_cases h : x ∈ B <;> simp -implicitDefEqProofs [h]
  have hl : (A.filter fun x => !decide (x ∈ B)).length ≤ line := Nat.le_trans (List.length_filter_le _ _) hA
  cases o <;> simp -implicitDefEqProofs [dWithout, bWithout, enter, lc, hl]
theorem most_ok (hT : T i = some dMost) (k : Nat) {s : Str} {a b : Int} (h : a ≤ b) : run T (k + 1) i [.str s, .int a, .int b] = .ok .non [.str s, .int a, .int b] := by
  rw [run_of (p := dMost) hT rfl]
  have e : ¬ b < a := by omega
  simp [dMost, bMost, enter, e]
theorem most_ex (hT : T i = some dMost) (k : Nat) {s : Str} {a b : Int} (h : b < a) : run T (k + 1) i [.str s, .int a, .int b] = .ex ⟨"TooMany", "what"⟩ [.str s] [.str s, .int a, .int b] := by
  rw [run_of (p := dMost) hT rfl]
  simp [dMost, bMost, enter, h]
theorem from_ok (hT : T i = some dFrom) (k : Nat) {a b c : Int} (h1 : b ≤ a) (h2 : a ≤ c) : run T (k + 1) i [.int a, .int b, .int c] = .ok .non [.int a, .int b, .int c] := by
  rw [run_of (p := dFrom) hT rfl]
  simp [dFrom, bFrom, enter, h1, h2]
theorem from_ex (hT : T i = some dFrom) (k : Nat) {a b c : Int} (h : ¬ (b ≤ a ∧ a ≤ c)) : run T (k + 1) i [.int a, .int b, .int c] = .ex ⟨"BadPlan", "what"⟩ [.str "numbers"] [.int a, .int b, .int c] := by
  rw [run_of (p := dFrom) hT rfl]
  by_cases h1 : b ≤ a
  · have h2 : ¬ a ≤ c := fun z => h ⟨h1, z⟩
    simp [dFrom, bFrom, enter, h1, h2]
  · simp [dFrom, bFrom, enter, h1]
end
end VE

end
section
set_option maxHeartbeats 2000000
/-! VW3: loops. -/
namespace VE
open PySem
theorem rangeL_cons {a b : Int} (h : a < b) : rangeL a b = .int a :: rangeL (a + 1) b := by
  unfold rangeL
  rw [show (b - a).toNat = (b - (a + 1)).toNat + 1 by omega, List.range_succ_eq_map, List.map_cons, List.map_map]
  congr 1
  · simp
  · refine List.map_congr_left fun k _ => ?_
    show D.int (a + ((k + 1 : Nat) : Int)) = D.int (a + 1 + (k : Int))
    congr 1
    omega
theorem rangeL_nil {a b : Int} (h : b ≤ a) : rangeL a b = [] := by
  unfold rangeL
  rw [show (b - a).toNat = 0 by omega]
  rfl
/-- something is gathered -/
theorem loopS_acc {α β : Type} {f : D → En → S} {g : α → D} {G : List β → En} {h : α → List β} {N : Nat} : ∀ {l : List α} {acc : List β}, (∀ x ∈ l, ∀ a, a.length + (h x).length ≤ N → f (g x) (G a) = .nx (G (a ++ h x))) → acc.length + (l.flatMap h).length ≤ N → loopS f (l.map g) (G acc) = .nx (G (acc ++ l.flatMap h))
  | [], acc, _, _ => by simp
  | x :: l, acc, H, hz => by
    rw [List.flatMap_cons, List.length_append] at hz
    rw [List.map_cons, loopS_cons (H x List.mem_cons_self acc (by omega)), loopS_acc (fun y hy => H y (List.mem_cons_of_mem _ hy)) (by rw [List.length_append]; omega), List.flatMap_cons, List.append_assoc]
/-- the numbers below n -/
theorem rangeL_nat (n : Nat) : rangeL 0 n = (List.range n).map fun (k : Nat) => D.int k := by
  unfold rangeL
  rw [show ((n : Int) - 0).toNat = n by omega]
  refine List.map_congr_left fun k _ => ?_
  rw [Int.zero_add]
theorem combD_map {α : Type} (g : α → D) (m : Nat) (xs : List α) : combD m (xs.map g) = .lst .own ((comb m xs).map fun c => .lst .shr (c.map g)) := by
  unfold combD
  rw [comb_map, List.map_map]
  rfl
@[simp] theorem frz_li (o : Fl) (A : List Int) : frz (li o A) = li .shr A := by
  unfold li
  cases o <;> simp
@[simp] theorem isLo_li (o : Fl) (A : List Int) : isLo (some (li o A)) = true := rfl
@[simp] theorem app_li (Γ : En) (j : Nat) (x : Int) (A : List Int) : appR Γ j (.int x) (some (li .own A)) = if A.length < line then .nx (Γ.set j (some (li .own (A ++ [x])))) else .bad := by
  unfold li
  simp
@[simp] theorem dup_li (A : List Int) : dup (li .shr A) = true := rfl
@[simp] theorem len_li (o : Fl) (A : List Int) : lenF (li o A) = some (.int A.length) := by
  unfold li
  simp
@[simp] theorem mem_li (o : Fl) (A : List Int) (x : Int) : cmpF .mem (.int x) (li o A) = some (decide (x ∈ A)) := q_mem_int
@[simp] theorem nmem_li (o : Fl) (A : List Int) (x : Int) : cmpF .nmem (.int x) (li o A) = some (!decide (x ∈ A)) := q_nmem_int
@[simp] theorem walk_li (o : Fl) (A : List Int) : walk? (li o A) = some (A.map .int) := by
  unfold li
  cases o <;> simp
@[simp] theorem lend_li (Γ : En) (j : Nat) (A : List Int) : lendJ Γ j (some (li .shr A)) = Γ := rfl
@[simp] theorem lend_liO (Γ : En) (j : Nat) (A : List Int) : lendJ Γ j (some (li .own A)) = Γ.set j (some (li .lent A)) := by
  unfold li
  simp
@[simp] theorem lend_liL (Γ : En) (j : Nat) (A : List Int) : lendJ Γ j (some (li .lent A)) = Γ.set j (some (li .lent A)) := by
  unfold li
  simp
@[simp] theorem unl_li (Γ : En) (j : Nat) (A : List Int) (o : Option D) : unlJ Γ j (some (li .shr A)) o = Γ := rfl
@[simp] theorem unl_liL (Γ : En) (j : Nat) (A : List Int) (o : Option D) : unlJ Γ j (some (li .lent A)) o = Γ := rfl
@[simp] theorem unl_liO (Γ : En) (j : Nat) (A B : List Int) : unlJ Γ j (some (li .own A)) (some (li .lent B)) = Γ.set j (some (li .own B)) := rfl
@[simp] theorem sort_li (o : Fl) (A : List Int) : sortF (li o A) = some (li .own (sortI A)) := q_sortI
@[simp] theorem list_li (o : Fl) (A : List Int) : listF (li o A) = some (li .own A) := by
  unfold li
  simp
@[simp] theorem flat_li (o : Fl) (A : List Int) : flat (li o A) = false := rfl
@[simp] theorem add_li (o p : Fl) (A B : List Int) : addF (li o A) (li p B) = if A.length + B.length ≤ line then some (li .own (A ++ B)) else none := by
  unfold li
  simp
theorem fm_if {α : Type} (b : α → Bool) : ∀ l : List α, (l.flatMap fun x => if b x = true then [x] else []) = l.filter b
  | [] => rfl
  | x :: l => by
    rw [List.flatMap_cons, fm_if b l]
    by_cases h : b x = true
    · rw [if_pos h, List.filter_cons_of_pos h]; rfl
    · rw [if_neg h, List.filter_cons_of_neg h]; rfl
/-! data that read alike -/
mutual
theorem py_refl : ∀ d : D, PyData.eqv (toPy d) (toPy d) = true
  | .non => rfl
  | .gone => rfl
  | .bl b => by unfold toPy; simp [PyData.eqv]
  | .int i => by unfold toPy; simp [PyData.eqv]
  | .str s => by unfold toPy; simp [PyData.eqv]
  | .lst _ xs => by unfold toPy; rw [PyData.eqv]; exact pyL_refl xs
  | .tup xs => by unfold toPy; rw [PyData.eqv]; exact pyL_refl xs
theorem pyL_refl : ∀ ds : List D, PyData.eqvAll (toPyL ds) (toPyL ds) = true
  | [] => rfl
  | d :: ds => by unfold toPyL; rw [PyData.eqvAll, py_refl d, pyL_refl ds]; rfl
end
theorem eq_same {d e : D} (h : toPy d = toPy e) (h1 : shal 8 d = true) (h2 : shal 8 e = true) : cmpF .eq d e = some true := by
  show guardO (shal 8 d && shal 8 e) (some (eqD d e)) = _
  rw [h1, h2]
  unfold eqD
  rw [h, py_refl e]
  rfl
theorem ne_same {d e : D} (h : toPy d = toPy e) (h1 : shal 8 d = true) (h2 : shal 8 e = true) : cmpF .ne d e = some false := by
  show guardO (shal 8 d && shal 8 e) (some (!eqD d e)) = _
  rw [h1, h2]
  unfold eqD
  rw [h, py_refl e]
  rfl
theorem toPy_lst (o p : Fl) (xs : List D) : toPy (.lst o xs) = toPy (.lst p xs) := by unfold toPy; rfl
/-! a sorted list of ints -/
theorem insI_ne {x : Int} : ∀ {l : List Int}, l.Pairwise (· < ·) → x ∉ l → (insI x l).Pairwise (· < ·) ∧ ∀ y, y ∈ insI x l ↔ y = x ∨ y ∈ l
  | [], _, _ => ⟨by simp [insI], by simp [insI]⟩
  | a :: l, h, n => by
    rw [List.pairwise_cons] at h
    rw [List.mem_cons, not_or] at n
    unfold insI
    by_cases c : x ≤ a
    · rw [if_pos c]
      refine ⟨?_, by simp⟩
      rw [List.pairwise_cons, List.pairwise_cons]
      refine ⟨fun y hy => ?_, h⟩
      rcases List.mem_cons.mp hy with rfl | hy
      · omega
      · have := h.1 y hy
        omega
    · rw [if_neg c]
      obtain ⟨i1, i2⟩ := insI_ne h.2 n.2
      refine ⟨?_, fun y => ?_⟩
      · rw [List.pairwise_cons]
        refine ⟨fun y hy => ?_, i1⟩
        rcases (i2 y).mp hy with rfl | hy
        · omega
        · exact h.1 y hy
      · rw [List.mem_cons, i2, List.mem_cons]
        constructor
        · rintro (h | h | h)
          · exact .inr (.inl h)
          · exact .inl h
          · exact .inr (.inr h)
        · rintro (h | h | h)
          · exact .inr (.inl h)
          · exact .inl h
          · exact .inr (.inr h)
/-- unlike ints, sorted: they rise -/
theorem sortI_nd : ∀ {l : List Int}, l.Nodup → (sortI l).Pairwise (· < ·) ∧ (∀ y, y ∈ sortI l ↔ y ∈ l) ∧ (sortI l).length = l.length
  | [], _ => ⟨by simp [sortI], by simp [sortI], rfl⟩
  | a :: l, h => by
    rw [List.nodup_cons] at h
    obtain ⟨i1, i2, i3⟩ := sortI_nd h.2
    have n : a ∉ sortI l := fun z => h.1 ((i2 a).mp z)
    obtain ⟨j1, j2⟩ := insI_ne i1 n
    refine ⟨j1, fun y => ?_, ?_⟩
    · show y ∈ insI a (sortI l) ↔ _
      rw [j2, i2, List.mem_cons]
    · show (insI a (sortI l)).length = _
      rw [(insI_perm a (sortI l)).length_eq, List.length_cons, i3, List.length_cons]
end VE

end
section
set_option maxRecDepth 100000
set_option maxHeartbeats 1000000
namespace VE
/-! VW4: n over m by products; ceilings -/
theorem chs_rec (n m : Nat) : chs (n + 1) (m + 1) = chs n m + chs n (m + 1) := rfl
theorem chs_zero (n : Nat) : chs n 0 = 1 := by cases n <;> rfl
theorem chs_sum : ∀ n m : Nat, (m + 1) * chs n (m + 1) + m * chs n m = n * chs n m
  | 0, 0 => by decide
  | 0, m + 1 => by
    show (m + 2) * 0 + (m + 1) * 0 = 0 * 0
    omega
  | n + 1, 0 => by
    have := chs_sum n 0
    rw [chs_zero] at this ⊢
    rw [chs_rec, chs_zero]
    omega
  | n + 1, m + 1 => by
    have h1 := chs_sum n (m + 1)
    have h0 := chs_sum n m
    rw [chs_rec n (m + 1), chs_rec n m]
    generalize chs n (m + 1 + 1) = c2 at *
    generalize chs n (m + 1) = c1 at *
    generalize chs n m = c0 at *
    simp only [Nat.add_mul, Nat.mul_add, Nat.one_mul, Nat.mul_one] at *
    omega
theorem chs_few : ∀ n m : Nat, n < m → chs n m = 0
  | _, 0, h => by omega
  | 0, _ + 1, _ => rfl
  | n + 1, m + 1, h => by rw [chs_rec, chs_few n m (by omega), chs_few n (m + 1) (by omega)]
theorem chs_self : ∀ n : Nat, chs n n = 1
  | 0 => rfl
  | n + 1 => by rw [chs_rec, chs_self n, chs_few n (n + 1) (by omega)]
theorem chs_pos : ∀ n m : Nat, m ≤ n → 0 < chs n m
  | n, 0, _ => by rw [chs_zero]; omega
  | 0, _ + 1, h => by omega
  | n + 1, m + 1, h => by
    rw [chs_rec]
    have := chs_pos n m (by omega)
    omega
theorem chs_symm : ∀ n m : Nat, m ≤ n → chs n (n - m) = chs n m
  | n, 0, _ => by rw [Nat.sub_zero, chs_self, chs_zero]
  | 0, _ + 1, h => by omega
  | n + 1, m + 1, h => by
    by_cases e : m = n
    · subst e
      rw [Nat.sub_self, chs_self, chs_zero]
    · obtain ⟨d, hd⟩ : ∃ d, n - m = d + 1 := ⟨n - m - 1, by omega⟩
      have e1 : n + 1 - (m + 1) = d + 1 := by omega
      rw [e1, chs_rec, chs_rec, ← hd, chs_symm n m (by omega), show d = n - (m + 1) by omega, chs_symm n (m + 1) (by omega), Nat.add_comm]
theorem chs_abs {n m : Nat} (h : m ≤ n) : chs n m * (n - m) = chs n (m + 1) * (m + 1) := by
  have := chs_sum n m
  obtain ⟨d, rfl⟩ : ∃ d, n = m + d := ⟨n - m, by omega⟩
  rw [Nat.add_sub_cancel_left, Nat.mul_comm, Nat.mul_comm (chs _ (m + 1))]
  rw [Nat.add_mul m d] at this
  omega
theorem chs_div {n m : Nat} (h : m ≤ n) : ((chs n m : Nat) : Int) * ((n : Int) - m) / ((m : Int) + 1) = (chs n (m + 1) : Nat) := by
  have e1 : (n : Int) - m = ((n - m : Nat) : Int) := by omega
  have e2 : (m : Int) + 1 = ((m + 1 : Nat) : Int) := by omega
  rw [e1, e2, ← Int.natCast_mul, chs_abs h, ← Int.natCast_ediv, Nat.mul_div_cancel _ (by omega)]
/-- the number of ways, as the program tells it -/
def bz (n s : Int) : Int := if s < 0 ∨ n < s then 0 else (chs n.toNat s.toNat : Nat)
def bBinB : List Stm := [.asg (.nm 2) (.op .bin .fdiv [.op .bin .mul [.pk 2, .op .bin .sub [.pk 0, .pk 3]], .op .bin .add [.pk 3, .cst (.int 1)]])]
def bBinL : List Stm := [.iff (.or [.cmp .lt [.pk 1, .cst (.int 0)], .cmp .gt [.pk 1, .pk 0]]) [.ret (.cst (.int 0))] [], .asg (.nm 2) (.cst (.int 1)), .fr (.nm 3) (.rng1 (.var 1)) [3] bBinB, .ret (.var 2)]
def dBinL : Def := ⟨2, [true, true], 4, bBinL, .plain⟩
def bBin : List Stm := [.iff (.or [.cmp .lt [.pk 1, .cst (.int 0)], .cmp .gt [.pk 1, .pk 0]]) [.ret (.cst (.int 0))] [], .asg (.nm 2) (.cst (.int 1)), .fr (.nm 3) (.rng1 (.op .call .min [.pk 1, .op .bin .sub [.pk 0, .pk 1]])) [3] bBinB, .ret (.var 2)]
def dBin : Def := ⟨2, [true, true], 4, bBin, .plain⟩
def bCeil : List Stm := [.ret (.op .un .neg [.op .bin .fdiv [.op .un .neg [.pk 0], .pk 1]])]
def dCeil : Def := ⟨2, [true, true], 2, bCeil, .plain⟩
section
variable {T : Nat → Option Def} {i : Nat}
theorem bin_loop (cf : CF) {s : D} (n m : Nat) (h : m ≤ n) (hn : n ≤ 1000000) {hi : Int} (hh : hi = m) : loopS (frF cf (.nm 3) [3] bBinB) (rangeL 0 hi) [some (.int n), some s, some (.int 1), none] = .nx [some (.int n), some s, some (.int (chs n m : Nat)), none] := by
  refine loop_upto m (fun t => [some (.int n), some s, some (.int (chs n t : Nat)), none]) hh (by simp only [chs_zero]; rfl) fun t ht => ?_
  have e := chs_div (n := n) (m := t) (by omega)
  have o1 : okMul ((chs n t : Nat) : Int) ((n : Int) - t) = true := okMulR _ (by omega)
  have o2 : okDiv ((t : Int) + 1) = true := by unfold okDiv; simp; omega
  simp -implicitDefEqProofs [frF, bBinB, o1, o2, e]
theorem binL_ok (hT : T i = some dBinL) (k : Nat) (n : Nat) (s : Int) (hn : n ≤ 1000000) : run T (k + 1) i [.int n, .int s] = .ok (.int (bz n s)) [.int n, .int s] := by
  rw [run_of (p := dBinL) hT rfl]
  unfold bz
  by_cases h1 : s < 0
  · rw [if_pos (.inl h1)]
    simp -implicitDefEqProofs [dBinL, bBinL, enter, h1]
  · by_cases h2 : (n : Int) < s
    · rw [if_pos (.inr h2)]
      simp -implicitDefEqProofs [dBinL, bBinL, enter, h1, h2]
    · rw [if_neg (by omega)]
      have o1 : okRg s = true := okRgI (by omega)
      have lp := bin_loop (run T k) (s := .int s) n s.toNat (by omega) hn (hi := s) (by omega)
      simp -implicitDefEqProofs [dBinL, bBinL, enter, h1, h2, o1, lp]
theorem bin_ok (hT : T i = some dBin) (k : Nat) (n : Nat) (s : Int) (hn : n ≤ 1000000) : run T (k + 1) i [.int n, .int s] = .ok (.int (bz n s)) [.int n, .int s] := by
  rw [run_of (p := dBin) hT rfl]
  unfold bz
  by_cases h1 : s < 0
  · rw [if_pos (.inl h1)]
    simp -implicitDefEqProofs [dBin, bBin, enter, h1]
  · by_cases h2 : (n : Int) < s
    · rw [if_pos (.inr h2)]
      simp -implicitDefEqProofs [dBin, bBin, enter, h1, h2]
    · rw [if_neg (by omega)]
      obtain ⟨m, rfl⟩ : ∃ m : Nat, s = m := ⟨s.toNat, by omega⟩
      have hm : m ≤ n := by omega
      rw [Int.toNat_natCast, Int.toNat_natCast]
      by_cases c : (n : Int) - m < m
      · have o1 : okRg ((n : Int) - m) = true := okRgI (by omega)
        have lp := bin_loop (run T k) (s := .int m) n (n - m) (by omega) hn (hi := (n : Int) - m) (by omega)
        rw [chs_symm n m hm] at lp
        simp -implicitDefEqProofs [dBin, bBin, enter, h1, h2, o1, lp, c]
      · have o1 : okRg (m : Int) = true := okRgI (by omega)
        have lp := bin_loop (run T k) (s := .int m) n m hm hn (hi := (m : Int)) rfl
        simp -implicitDefEqProofs [dBin, bBin, enter, h1, h2, o1, lp, c]
theorem ceil_ok (hT : T i = some dCeil) (k : Nat) (a b : Int) (h : okDiv b = true) : run T (k + 1) i [.int a, .int b] = .ok (.int (-(-a / b))) [.int a, .int b] := by
  rw [run_of (p := dCeil) hT rfl]
  simp -implicitDefEqProofs [dCeil, bCeil, enter, h]
end
theorem ceil_is {a b : Int} (hb : 0 < b) : -(-a / b) = if a ≤ a / b * b then a / b else a / b + 1 := by
  have h1 := Int.mul_ediv_add_emod a b
  have h2 := Int.emod_nonneg a (by omega : b ≠ 0)
  have h3 := Int.emod_lt_of_pos a hb
  have g1 := Int.mul_ediv_add_emod (-a) b
  have g2 := Int.emod_nonneg (-a) (by omega : b ≠ 0)
  have g3 := Int.emod_lt_of_pos (-a) hb
  rw [Int.mul_comm] at h1 g1
  generalize a / b = q at *
  generalize -a / b = p at *
  generalize a % b = r at *
  generalize -a % b = t at *
  have key : (q + p) * b = - (r + t) := by rw [Int.add_mul]; omega
  split
  · have hr : r = 0 := by omega
    subst hr
    have ht : t = 0 := by
      have k2 : (q + p) * b = -t := by omega
      by_cases z : q + p = 0
      · rw [z] at k2; omega
      · exfalso
        have : q + p ≤ -1 ∨ 1 ≤ q + p := by omega
        rcases this with z | z
        · have := Int.mul_le_mul_of_nonneg_right z (Int.le_of_lt hb)
          omega
        · have := Int.mul_le_mul_of_nonneg_right z (Int.le_of_lt hb)
          omega
    have k2 : (q + p) * b = 0 := by omega
    rcases Int.mul_eq_zero.mp k2 with z | z <;> omega
  · have hr : 0 < r := by omega
    have : q + p = -1 := by
      by_cases z : q + p = -1
      · exact z
      · exfalso
        have : q + p ≤ -2 ∨ 0 ≤ q + p := by omega
        rcases this with z | z
        · have := Int.mul_le_mul_of_nonneg_right z (Int.le_of_lt hb)
          omega
        · have := Int.mul_le_mul_of_nonneg_right z (Int.le_of_lt hb)
          omega
    omega
end VE

end
section
set_option maxRecDepth 100000
set_option maxHeartbeats 1000000
namespace VE
/-! VW5: choose (the program's own), lists of rows -/
@[simp] theorem q_fg_ex {fg : List Nat} {c : Xn} {ds : List D} {Γ : En} : fgS fg (.ex c ds Γ) = .ex c ds Γ := (rfl)
@[simp] theorem q_mapS_ex {g : En → En} {c : Xn} {ds : List D} {Γ : En} : mapS g (.ex c ds Γ) = .ex c ds (g Γ) := (rfl)
@[simp] theorem q_lendI_lst {Γ : En} {es : List Ex} : lendI Γ (.seq (.lst es)) = Γ := (rfl)
@[simp] theorem q_unlI_lst {Γ0 Γ : En} {es : List Ex} : unlendI Γ0 Γ (.seq (.lst es)) = Γ := (rfl)
@[simp] theorem q_I_lst {cf : CF} {Γ : En} {es : List Ex} : evI cf (.seq (.lst es)) Γ = (evE cf (.lst es) Γ).bind fun d Γ1 => optR Γ1 (walk? d) := (rfl)
@[simp] theorem q_lendI_frz {Γ : En} {e : Ex} : lendI Γ (.seq (.frz e)) = Γ := (rfl)
@[simp] theorem q_unlI_frz {Γ0 Γ : En} {e : Ex} : unlendI Γ0 Γ (.seq (.frz e)) = Γ := (rfl)
@[simp] theorem q_I_frz {cf : CF} {Γ : En} {e : Ex} : evI cf (.seq (.frz e)) Γ = (evE cf (.frz e) Γ).bind fun d Γ1 => optR Γ1 (walk? d) := (rfl)
def bChooseP : List Stm := [.iff (.or [.cmp .lt [.pk 1, .cst (.int 0)], .cmp .gt [.pk 1, .op .call .len [.pk 0]]]) [.ret (.lst [])] [], .asg (.nm 2) (.lst [.tup [.lst [], .cst (.int 0)]]), .fr (.nm 3) (.rng1 (.var 1)) [3, 4, 5, 6, 7] chB3, .ret (.lc [5, 6] (.tp [5, 6]) (.seq (.pk 2)) (.yes) (.var 5))]
def dChooseP : Def := ⟨2, [true, true], 8, bChooseP, .plain⟩
theorem chooseP_ok {T : Nat → Option Def} {i : Nat} (hT : T i = some dChooseP) (k : Nat) (o : Fl) {xs : List D} (hd : ∀ x ∈ xs, dup x = true) (hf : ∀ x ∈ xs, frz x = x) (many : Nat) (hm : many < 1000) (hx : xs.length < 1000) (hz : (comb many xs).length < 1000000) :
    run T (k + 1) i [.lst o xs, .int many] = .ok (combD many xs) [.lst o xs, .int many] := by
  rw [run_of (p := dChooseP) hT rfl]
  have n0 : ¬ (many : Int) < 0 := by omega
  by_cases c : (xs.length : Int) < many
  · have e : comb many xs = [] := comb_few many xs (by omega)
    unfold combD
    rw [e]
    simp -implicitDefEqProofs [dChooseP, bChooseP, enter, n0, c]
  have lp := ch_loop (o := o) hd hf many hm hx hz (cf := run T k) []
  have o1 : okRg (many : Int) = true := okRgI (by omega)
  have e0 : fndAt xs many 0 = .lst .own [.tup [.lst .own [], .int 0]] := rfl
  obtain ⟨F, hF⟩ : ∃ F, F = fndAt xs many many := ⟨_, rfl⟩
  have lc : ∀ F', loopC (lcF (run T k) [5, 6] (.tp [5, 6]) .yes (.var 5)) ((pst xs many many).map (cp .shr)) [some (.lst o xs), some (.int many), F', none, none, none, none, none] =
      .ok ((comb many xs).map (.lst .shr)) [some (.lst o xs), some (.int many), F', none, none, none, none, none] := fun F' => by
    have := loopC_keep (f := lcF (run T k) [5, 6] (.tp [5, 6]) .yes (.var 5)) (g := cp .shr) (h := fun p => D.lst .shr p.1) (b := fun _ => true) (l := pst xs many many) (Γ := [some (.lst o xs), some (.int many), F', none, none, none, none, none]) fun p _ => by
      simp -implicitDefEqProofs [cp]
    rw [this, List.filter_eq_self.mpr fun _ _ => rfl, ← pst_end xs many, List.map_map]
    rfl
  have lz : (comb many xs).length ≤ line := by unfold line; omega
  rw [← hF] at lp
  rw [e0] at lp
  have lp2 : loopS (frF (run T k) (.nm 3) [3, 4, 5, 6, 7] chB3) (rangeL 0 many) [some (.lst o xs), some (.int many), some (.lst .own [.tup [.lst .own [], .int 0]]), none, none, none, none, none] = .nx [some (.lst o xs), some (.int many), some F, none, none, none, none, none] := lp
  unfold combD
  by_cases h0 : many = 0
  · subst h0
    have r0 : rangeL 0 0 = [] := rfl
    have l1 : 1 ≤ line := by decide
    have c0 : ¬ (xs.length : Int) < 0 := by omega
    simp -implicitDefEqProofs [dChooseP, bChooseP, enter, r0, comb_zero, loopC, l1, c0]
  · have hF2 : F = .lst .shr ((pst xs many many).map (cp .shr)) := by rw [hF]; unfold fndAt; rw [if_neg h0]
    rw [hF2] at lp2
    simp -implicitDefEqProofs [dChooseP, bChooseP, enter, o1, lp2, lc, lz, n0, c]
/-- rows of ints, held twice -/
def mks (o : Fl) (M : List (List Int)) : D := .lst o (M.map (li .shr))
theorem frz_mks (M : List (List Int)) : frzL (M.map (li .shr)) = M.map (li .shr) := frz_map (fun a => frz_li .shr a) M
theorem dup_mks (M : List (List Int)) : dupL (M.map (li .shr)) = true := dup_map (fun a => rfl) M
@[simp] theorem frz_mk (q : Fl) (X : List (List Int)) : frz (mks q X) = mks .shr X := by
  unfold mks
  cases q <;> simp [frz_mks]
@[simp] theorem len_mks (q : Fl) (X : List (List Int)) : lenF (mks q X) = some (.int X.length) := by unfold mks; simp
@[simp] theorem walk_mks (q : Fl) (X : List (List Int)) : walk? (mks q X) = some (X.map (li .shr)) := by
  unfold mks
  cases q <;> simp [frz_mks]
@[simp] theorem lend_mks (Γ : En) (j : Nat) (X : List (List Int)) : lendJ Γ j (some (mks .shr X)) = Γ := rfl
@[simp] theorem lend_mksO (Γ : En) (j : Nat) (X : List (List Int)) : lendJ Γ j (some (mks .own X)) = Γ.set j (some (mks .lent X)) := by unfold mks; simp [frz_mks]
@[simp] theorem lend_mksL (Γ : En) (j : Nat) (X : List (List Int)) : lendJ Γ j (some (mks .lent X)) = Γ.set j (some (mks .lent X)) := by unfold mks; simp [frz_mks]
@[simp] theorem unl_mks (Γ : En) (j : Nat) (X : List (List Int)) (x : Option D) : unlJ Γ j (some (mks .shr X)) x = Γ := rfl
@[simp] theorem unl_mksL (Γ : En) (j : Nat) (X : List (List Int)) (x : Option D) : unlJ Γ j (some (mks .lent X)) x = Γ := rfl
@[simp] theorem unl_mksO (Γ : En) (j : Nat) (X Y : List (List Int)) : unlJ Γ j (some (mks .own X)) (some (mks .lent Y)) = Γ.set j (some (mks .own Y)) := rfl
@[simp] theorem isLo_mks (o : Fl) (M : List (List Int)) : isLo (some (mks o M)) = true := rfl
@[simp] theorem dup_mkS (M : List (List Int)) : dup (mks .shr M) = true := rfl
@[simp] theorem app_mks (Γ : En) (j : Nat) (M : List (List Int)) (w : List Int) : appR Γ j (li .shr w) (some (mks .own M)) = if M.length < line then .nx (Γ.set j (some (mks .own (M ++ [w])))) else .bad := by
  unfold mks
  simp
theorem add_mks (o p : Fl) (A B : List (List Int)) : addF (mks o A) (mks p B) = if A.length + B.length ≤ line then some (mks .own (A ++ B)) else none := by
  unfold mks
  show guardO (dupL (A.map (li .shr)) && dupL (B.map (li .shr)) && decide ((A.map (li .shr)).length + (B.map (li .shr)).length ≤ line)) _ = _
  rw [dup_mks, dup_mks, List.length_map, List.length_map, List.map_append]
  by_cases h : A.length + B.length ≤ line
  · rw [if_pos h, decide_eq_true h]; rfl
  · rw [if_neg h, decide_eq_false h]; rfl
theorem choose_any {T : Nat → Option Def} {i : Nat} (hT : T i = some dChooseL ∨ T i = some dChooseP) (k : Nat) (o : Fl) (A : List Int) (s : Nat) (hA : A.length ≤ 14) (hs : s < 1000) : run T (k + 1) i [li o A, .int s] = .ok (mks .own (comb s A)) [li o A, .int s] := by
  have hc : (comb s A).length ≤ 16384 := by
    rw [comb_length]
    exact Nat.le_trans (chs_pow _ _) (Nat.pow_le_pow_right (by decide) hA)
  have h1 : ∀ x ∈ A.map D.int, dup x = true := fun x hx => by obtain ⟨a, _, rfl⟩ := List.mem_map.mp hx; rfl
  have h2 : ∀ x ∈ A.map D.int, frz x = x := fun x hx => by obtain ⟨a, _, rfl⟩ := List.mem_map.mp hx; rfl
  have ch : run T (k + 1) i [.lst o (A.map .int), .int s] = .ok (combD s (A.map .int)) [.lst o (A.map .int), .int s] := by
    rcases hT with h | h
    · exact chooseL_ok h k o h1 h2 s hs (by rw [List.length_map]; omega) (by rw [comb_map, List.length_map]; omega)
    · exact chooseP_ok h k o h1 h2 s hs (by rw [List.length_map]; omega) (by rw [comb_map, List.length_map]; omega)
  rw [combD_map] at ch
  exact ch
theorem choose_le {A : List Int} (hA : A.length ≤ 14) (s : Nat) : (comb s A).length ≤ 16384 := by
  rw [comb_length]
  exact Nat.le_trans (chs_pow _ _) (Nat.pow_le_pow_right (by decide) hA)
end VE

end
section
set_option maxHeartbeats 1000000
namespace K14
open VE
/-! k14, plain: the order of the places -/
theorem insK_perm (ns : List Int) (x : Int) : ∀ l, (insK ns x l).Perm (x :: l)
  | [] => List.Perm.refl _
  | y :: l => by
    unfold insK
    by_cases h : leK ns x y = true
    · rw [if_pos h]
    · rw [if_neg h]
      exact ((insK_perm ns x l).cons y).trans (List.Perm.swap _ _ _)
theorem sortK_perm (ns : List Int) : ∀ l, (sortK ns l).Perm l
  | [] => List.Perm.refl _
  | x :: l => (insK_perm ns x _).trans ((sortK_perm ns l).cons x)
def vl (P : List Int) (i : Int) : Int := P.getD i.toNat 0
theorem leK_iff {P : List Int} {p q : Int} : leK P p q = true ↔ vl P q < vl P p ∨ (vl P p = vl P q ∧ p ≤ q) := by
  unfold leK kOf vl
  rw [decide_eq_true_iff]
  omega
theorem leK_tr {P : List Int} {p q r : Int} (h : leK P p q = true) (g : leK P q r = true) : leK P p r = true := by
  rw [leK_iff] at *
  omega
theorem leK_tot {P : List Int} {p q : Int} (h : ¬ leK P p q = true) : leK P q p = true := by
  rw [leK_iff] at *
  omega
theorem insK_sorted (P : List Int) (x : Int) : ∀ {l : List Int}, l.Pairwise (fun p q => leK P p q = true) → (insK P x l).Pairwise (fun p q => leK P p q = true)
  | [], _ => by simp [insK]
  | y :: l, h => by
    rw [List.pairwise_cons] at h
    unfold insK
    by_cases c : leK P x y = true
    · rw [if_pos c, List.pairwise_cons, List.pairwise_cons]
      refine ⟨fun z hz => ?_, h⟩
      rcases List.mem_cons.mp hz with rfl | hz
      · exact c
      · exact leK_tr c (h.1 z hz)
    · rw [if_neg c, List.pairwise_cons]
      refine ⟨fun z hz => ?_, insK_sorted P x h.2⟩
      rcases List.mem_cons.mp ((insK_perm P x l).mem_iff.mp hz) with rfl | hz
      · exact leK_tot c
      · exact h.1 z hz
theorem sortK_sorted (P : List Int) : ∀ l : List Int, (sortK P l).Pairwise (fun p q => leK P p q = true)
  | [] => List.Pairwise.nil
  | x :: l => insK_sorted P x (sortK_sorted P l)
/-- the places -/
def pls (n : Nat) : List Int := (List.range n).map fun (k : Nat) => (k : Int)
theorem pls_mem {n : Nat} {p : Int} : p ∈ pls n ↔ 0 ≤ p ∧ p < n := by
  unfold pls
  rw [List.mem_map]
  constructor
  · rintro ⟨k, hk, rfl⟩
    rw [List.mem_range] at hk
    omega
  · rintro ⟨h1, h2⟩
    exact ⟨p.toNat, by rw [List.mem_range]; omega, by omega⟩
theorem pls_asc (n : Nat) : (pls n).Pairwise (· < ·) := by
  unfold pls
  rw [List.pairwise_map]
  exact List.pairwise_lt_range.imp fun h => by omega
theorem asc_nodup {l : List Int} (h : l.Pairwise (· < ·)) : l.Nodup := h.imp fun h => by omega
theorem pls_nodup (n : Nat) : (pls n).Nodup := asc_nodup (pls_asc n)
theorem pls_len (n : Nat) : (pls n).length = n := by unfold pls; simp
/-- the places in the order of their pockets -/
def od (P : List Int) : List Int := sortK P (pls P.length)
theorem od_perm (P : List Int) : (od P).Perm (pls P.length) := sortK_perm P _
theorem od_len (P : List Int) : (od P).length = P.length := by rw [(od_perm P).length_eq, pls_len]
theorem od_nodup (P : List Int) : (od P).Nodup := (od_perm P).symm.nodup (pls_nodup _)
theorem od_mem {P : List Int} {p : Int} : p ∈ od P ↔ 0 ≤ p ∧ p < P.length := by rw [(od_perm P).mem_iff, pls_mem]
theorem od_sorted (P : List Int) : (od P).Pairwise (fun p q => leK P p q = true) := sortK_sorted P _
/-- the places of the greatest pockets, rising -/
def grt (P : List Int) (m : Nat) : List Int := sortI ((od P).take m)
theorem grt_facts (P : List Int) (m : Nat) : (grt P m).Pairwise (· < ·) ∧ (∀ p, p ∈ grt P m ↔ p ∈ (od P).take m) ∧ (grt P m).length = min m P.length := by
  obtain ⟨h1, h2, h3⟩ := sortI_nd ((od_nodup P).sublist (List.take_sublist m _))
  refine ⟨h1, h2, ?_⟩
  unfold grt
  rw [h3, List.length_take, od_len]
theorem grt_perm (P : List Int) (m : Nat) : (grt P m).Perm ((od P).take m) := by
  unfold grt
  generalize (od P).take m = l
  induction l with
  | nil => exact List.Perm.refl _
  | cons x l ih => exact (insI_perm x _).trans (ih.cons x)
/-- the others are no greater -/
theorem od_split (P : List Int) (m : Nat) {p q : Int} (hp : p ∈ (od P).take m) (hq : q ∈ (od P).drop m) : leK P p q = true := by
  have h := od_sorted P
  rw [← List.take_append_drop m (od P), List.pairwise_append] at h
  exact h.2.2 p hp q hq
theorem grt_max {P : List Int} {m : Nat} {p q : Int} (hp : p ∈ grt P m) (hq : 0 ≤ q ∧ q < P.length) (hn : q ∉ grt P m) : vl P q ≤ vl P p := by
  obtain ⟨-, h2, -⟩ := grt_facts P m
  rw [h2] at hp hn
  have hq := od_mem.mpr hq
  rw [← List.take_append_drop m (od P), List.mem_append] at hq
  have := od_split P m hp (hq.resolve_left hn)
  rw [leK_iff] at this
  omega
theorem perm_sum {l m : List Int} (h : l.Perm m) : l.sum = m.sum := by
  induction h with
  | nil => rfl
  | cons x _ ih => rw [List.sum_cons, List.sum_cons, ih]
  | swap x y l => rw [List.sum_cons, List.sum_cons, List.sum_cons, List.sum_cons]; omega
  | trans _ _ i1 i2 => rw [i1, i2]
/-- no set of places has more than the first ones -/
theorem few_le (P : List Int) : ∀ {L S : List Int}, L.Pairwise (fun p q => leK P p q = true) → S.Nodup → (∀ p ∈ S, p ∈ L) → (S.map (vl P)).sum ≤ ((L.take S.length).map (vl P)).sum
  | [], S, _, _, h => by
    have : S = [] := by
      cases S with
      | nil => rfl
      | cons x S => exact absurd (h x List.mem_cons_self) (by simp)
    subst this
    simp
  | x :: L, S, hL, hS, h => by
    rw [List.pairwise_cons] at hL
    cases hs : S with
    | nil => simp
    | cons y S' =>
      rw [← hs]
      have hy : y ∈ S := by rw [hs]; exact List.mem_cons_self
      -- the one that goes
      obtain ⟨z, hz, hz2, hz3⟩ : ∃ z, z ∈ S ∧ vl P z ≤ vl P x ∧ ∀ p ∈ S.erase z, p ∈ L := by
        by_cases hx : x ∈ S
        · refine ⟨x, hx, Int.le_refl _, fun p hp => ?_⟩
          have := hS.mem_erase_iff.mp hp
          exact (List.mem_cons.mp (h p this.2)).resolve_left this.1
        · refine ⟨y, hy, ?_, fun p hp => ?_⟩
          · have hyl := (List.mem_cons.mp (h y hy)).resolve_left fun e => hx (e ▸ hy)
            have := hL.1 y hyl
            rw [leK_iff] at this
            omega
          · have hp := List.mem_of_mem_erase hp
            exact (List.mem_cons.mp (h p hp)).resolve_left fun e => hx (e ▸ hp)
      have ih := few_le P (L := L) (S := S.erase z) hL.2 (hS.erase z) hz3
      have hl : S.length = (S.erase z).length + 1 := by
        rw [List.length_erase_of_mem hz]
        have := List.length_pos_of_mem hz
        omega
      have hp := (List.perm_cons_erase hz).map (vl P)
      have hsum : (S.map (vl P)).sum = vl P z + ((S.erase z).map (vl P)).sum := by
        have e : (S.map (vl P)).sum = ((z :: S.erase z).map (vl P)).sum := perm_sum hp
        rw [e, List.map_cons, List.sum_cons]
      rw [hsum, hl, List.take_succ_cons, List.map_cons, List.sum_cons]
      omega
end K14

end
section
set_option maxHeartbeats 1000000
namespace K14
open VE
/-! k14, plain: stretches -/
/-- the greatest of a list -/
def mx : List Int → Int
  | [] => 0
  | x :: l => maxI x l
theorem maxI_ge : ∀ (l : List Int) (m : Int), m ≤ maxI m l ∧ ∀ x ∈ l, x ≤ maxI m l
  | [], m => ⟨Int.le_refl _, fun x h => (by cases h)⟩
  | y :: l, m => by
    unfold maxI
    obtain ⟨h1, h2⟩ := maxI_ge l (if y > m then y else m)
    have h3 : m ≤ (if y > m then y else m) ∧ y ≤ (if y > m then y else m) := by split <;> omega
    refine ⟨by omega, fun x hx => ?_⟩
    rcases List.mem_cons.mp hx with rfl | hx
    · omega
    · exact h2 x hx
theorem maxI_mem : ∀ (l : List Int) (m : Int), maxI m l ∈ m :: l
  | [], m => List.mem_cons_self
  | y :: l, m => by
    unfold maxI
    have := maxI_mem l (if y > m then y else m)
    rcases List.mem_cons.mp this with h | h
    · rw [h]
      split
      · exact List.mem_cons_of_mem _ List.mem_cons_self
      · exact List.mem_cons_self
    · exact List.mem_cons_of_mem _ (List.mem_cons_of_mem _ h)
theorem mx_ge {l : List Int} {x : Int} (h : x ∈ l) : x ≤ mx l := by
  cases l with
  | nil => cases h
  | cons y l =>
    rcases List.mem_cons.mp h with rfl | h
    · exact (maxI_ge l _).1
    · exact (maxI_ge l _).2 x h
theorem mx_mem {l : List Int} (h : l ≠ []) : mx l ∈ l := by
  cases l with
  | nil => exact absurd rfl h
  | cons y l => exact maxI_mem l y
/-- the pockets from a on, ahead of b -/
def sl (P : List Int) (a b : Int) : List Int := (P.drop a.toNat).take (b.toNat - a.toNat)
theorem vl_get {P : List Int} {i : Nat} (h : i < P.length) : vl P i = P[i] := by
  unfold vl
  rw [Int.toNat_natCast, List.getD_eq_getElem?_getD, List.getElem?_eq_getElem h]
  rfl
theorem sl_mem {P : List Int} {a b : Int} (ha : 0 ≤ a) (hb : b ≤ P.length) {x : Int} : x ∈ sl P a b ↔ ∃ p, a ≤ p ∧ p < b ∧ vl P p = x := by
  unfold sl
  constructor
  · intro h
    obtain ⟨i, hi, rfl⟩ := List.mem_iff_getElem.mp h
    rw [List.length_take, List.length_drop] at hi
    refine ⟨((a.toNat + i : Nat) : Int), by omega, by omega, ?_⟩
    rw [vl_get (by omega), List.getElem_take, List.getElem_drop]
  · rintro ⟨p, h1, h2, rfl⟩
    obtain ⟨k, rfl⟩ : ∃ k : Nat, p = k := ⟨p.toNat, by omega⟩
    refine List.mem_iff_getElem.mpr ⟨k - a.toNat, by rw [List.length_take, List.length_drop]; omega, ?_⟩
    rw [List.getElem_take, List.getElem_drop, vl_get (by omega)]
    congr 1
    omega
theorem sl_ne {P : List Int} {a b : Int} (ha : 0 ≤ a) (h : a < b) (hb : b ≤ P.length) : sl P a b ≠ [] := by
  have : vl P a ∈ sl P a b := (sl_mem ha hb).mpr ⟨a, Int.le_refl _, h, rfl⟩
  intro e
  rw [e] at this
  cases this
/-- cuts rise, up to n -/
def okC (n : Int) : Int → List Int → Bool
  | _, [] => true
  | l, c :: cs => decide (l < c) && decide (c ≤ n) && okC n c cs
/-- the greatest of each stretch, together -/
def sm (P : List Int) : Int → List Int → Int
  | _, [] => 0
  | l, c :: cs => mx (sl P l c) + sm P c cs
def su (P : List Int) : Int → List Int → Int
  | _, [] => 0
  | l, c :: cs => (sl P l c).sum + su P c cs
theorem okC_cons {n l c : Int} {cs : List Int} : okC n l (c :: cs) = true ↔ l < c ∧ c ≤ n ∧ okC n c cs = true := by
  show (decide (l < c) && decide (c ≤ n) && okC n c cs) = true ↔ _
  simp [and_assoc]
/-- places that make the sum -/
theorem sm_places (P : List Int) : ∀ (cs : List Int) (l : Int), 0 ≤ l → okC P.length l cs = true → ∃ ps : List Int, ps.Pairwise (· < ·) ∧ (∀ p ∈ ps, l ≤ p ∧ p < P.length) ∧ ps.length = cs.length ∧ sm P l cs = (ps.map (vl P)).sum
  | [], l, _, _ => ⟨[], List.Pairwise.nil, fun p h => (by cases h), rfl, rfl⟩
  | c :: cs, l, h0, h => by
    obtain ⟨h1, h2, h3⟩ := okC_cons.mp h
    obtain ⟨ps, i1, i2, i3, i4⟩ := sm_places P cs c (by omega) h3
    obtain ⟨p, p1, p2, p3⟩ := (sl_mem h0 h2).mp (mx_mem (sl_ne h0 h1 h2))
    refine ⟨p :: ps, ?_, fun q hq => ?_, by rw [List.length_cons, i3, List.length_cons], ?_⟩
    · rw [List.pairwise_cons]
      exact ⟨fun q hq => by have := i2 q hq; omega, i1⟩
    · rcases List.mem_cons.mp hq with rfl | hq
      · omega
      · have := i2 q hq
        omega
    · show mx (sl P l c) + sm P c cs = _
      rw [i4, List.map_cons, List.sum_cons, p3]
/-- .. no more than the greatest ones have -/
theorem sm_le (P : List Int) {cs : List Int} (h : okC P.length 0 cs = true) : sm P 0 cs ≤ ((grt P cs.length).map (vl P)).sum := by
  obtain ⟨ps, h1, h2, h3, h4⟩ := sm_places P cs 0 (Int.le_refl _) h
  have := few_le P (L := od P) (S := ps) (od_sorted P) (asc_nodup h1) fun p hp => od_mem.mpr (h2 p hp)
  rw [h4, ← h3, perm_sum ((grt_perm P ps.length).map (vl P))]
  exact this
/-- cuts right ahead of these have all -/
theorem sm_at (P : List Int) (n : Int) (hn : n = P.length) : ∀ (qs : List Int) (p l : Int), 0 ≤ l → l ≤ p → (p :: qs).Pairwise (· < ·) → (∀ q ∈ p :: qs, q < n) → (∀ x, l ≤ x → x < n → x ∉ p :: qs → ∀ q ∈ p :: qs, vl P x ≤ vl P q) → okC n l (qs ++ [n]) = true ∧ sm P l (qs ++ [n]) = ((p :: qs).map (vl P)).sum
  | [], p, l, h0, h1, _, h3, h4 => by
    have hp := h3 p List.mem_cons_self
    refine ⟨okC_cons.mpr ⟨by omega, Int.le_refl _, rfl⟩, ?_⟩
    show mx (sl P l n) + 0 = _
    have e : mx (sl P l n) = vl P p := by
      refine Int.le_antisymm ?_ (mx_ge ((sl_mem (P := P) h0 (by omega)).mpr ⟨p, h1, hp, rfl⟩))
      obtain ⟨x, x1, x2, x3⟩ := (sl_mem (P := P) h0 (by omega)).mp (mx_mem (sl_ne h0 (show l < n by omega) (by omega)))
      rw [← x3]
      by_cases c : x = p
      · rw [c]; exact Int.le_refl _
      · exact h4 x x1 x2 (by simpa using c) p List.mem_cons_self
    rw [e]
    simp
  | q :: qs, p, l, h0, h1, h2, h3, h4 => by
    rw [List.pairwise_cons] at h2
    have hpq := h2.1 q List.mem_cons_self
    have hq := h3 q (List.mem_cons_of_mem _ List.mem_cons_self)
    obtain ⟨i1, i2⟩ := sm_at P n hn qs q q (by omega) (Int.le_refl _) h2.2 (fun x hx => h3 x (List.mem_cons_of_mem _ hx)) fun x x1 x2 x3 y hy => h4 x (by omega) x2 (by
      rw [List.mem_cons, not_or]
      exact ⟨by omega, x3⟩) y (List.mem_cons_of_mem _ hy)
    refine ⟨okC_cons.mpr ⟨by omega, by omega, i1⟩, ?_⟩
    show mx (sl P l q) + sm P q (qs ++ [n]) = _
    have e : mx (sl P l q) = vl P p := by
      refine Int.le_antisymm ?_ (mx_ge ((sl_mem (P := P) h0 (by omega)).mpr ⟨p, h1, hpq, rfl⟩))
      obtain ⟨x, x1, x2, x3⟩ := (sl_mem (P := P) h0 (by omega)).mp (mx_mem (sl_ne h0 (show l < q by omega) (by omega)))
      rw [← x3]
      by_cases c : x = p
      · rw [c]; exact Int.le_refl _
      · refine h4 x x1 (by omega) ?_ p List.mem_cons_self
        rw [List.mem_cons, not_or]
        refine ⟨c, fun hx => ?_⟩
        rcases List.mem_cons.mp hx with rfl | hx
        · omega
        · have h5 := h2.2
          rw [List.pairwise_cons] at h5
          have := h5.1 x hx
          omega
    rw [e, i2]
    simp
/-- the best cuts -/
def bst (P : List Int) (m : Nat) : List Int := (grt P (m + 1)).drop 1
/-- what they leave unnamed -/
def bw (P : List Int) (m : Nat) : Int := P.sum - ((grt P (m + 1)).map (vl P)).sum
theorem bst_facts {P : List Int} {m : Nat} (hm : m < P.length) : okC P.length 0 (bst P m ++ [(P.length : Int)]) = true ∧ sm P 0 (bst P m ++ [(P.length : Int)]) = ((grt P (m + 1)).map (vl P)).sum ∧ (bst P m).length = m := by
  obtain ⟨h1, h2, h3⟩ := grt_facts P (m + 1)
  have hmem : ∀ p, p ∈ grt P (m + 1) → 0 ≤ p ∧ p < P.length := fun p hp => od_mem.mp (List.mem_of_mem_take ((h2 p).mp hp))
  have hx : ∀ x, 0 ≤ x → x < (P.length : Int) → x ∉ grt P (m + 1) → ∀ q ∈ grt P (m + 1), vl P x ≤ vl P q := fun x x1 x2 x3 q hq => grt_max hq ⟨x1, x2⟩ x3
  unfold bst
  cases e : grt P (m + 1) with
  | nil =>
    rw [e] at h3
    simp at h3
    omega
  | cons p qs =>
    rw [e] at h1 h3 hmem hx
    obtain ⟨a, b⟩ := sm_at P P.length rfl qs p 0 (Int.le_refl _) (hmem p List.mem_cons_self).1 h1 (fun q hq => (hmem q hq).2) hx
    refine ⟨a, b, ?_⟩
    rw [List.length_cons] at h3
    simp
    omega
/-- all pockets lie in the stretches -/
theorem su_all (P : List Int) : ∀ (cs : List Int) (l : Int), 0 ≤ l → l ≤ P.length → okC P.length l (cs ++ [(P.length : Int)]) = true → su P l (cs ++ [(P.length : Int)]) = (P.drop l.toNat).sum
  | [], l, h0, h1, _ => by
    show (sl P l P.length).sum + 0 = _
    unfold sl
    rw [List.take_of_length_le (by rw [List.length_drop]; omega), Int.add_zero]
  | c :: cs, l, h0, h1, h => by
    rw [List.cons_append] at h ⊢
    obtain ⟨h2, h3, h4⟩ := okC_cons.mp h
    show (sl P l c).sum + su P c (cs ++ [(P.length : Int)]) = _
    rw [su_all P cs c (by omega) h3 h4]
    unfold sl
    have := (List.take_append_drop (c.toNat - l.toNat) (P.drop l.toNat)).symm
    rw [List.drop_drop, show l.toNat + (c.toNat - l.toNat) = c.toNat by omega] at this
    have e := congrArg List.sum this
    rw [List.sum_append] at e
    exact e.symm
/-- rising cuts, as a sublist of the gaps -/
theorem sub_gaps {n : Int} : ∀ {cs : List Int} {a l : Int}, cs.Sublist (((List.range (n - a).toNat).map fun (k : Nat) => a + (k : Int))) → l < a → okC n l (cs ++ [n]) = true ∨ n ≤ l := by
  intro cs a l hs hl
  have h1 : cs.Pairwise (· < ·) := by
    refine List.Pairwise.sublist hs ?_
    rw [List.pairwise_map]
    exact List.pairwise_lt_range.imp fun h => by omega
  have h2 : ∀ c ∈ cs, a ≤ c ∧ c < n := fun c hc => by
    obtain ⟨k, hk, rfl⟩ := List.mem_map.mp (hs.subset hc)
    rw [List.mem_range] at hk
    omega
  by_cases hn : n ≤ l
  · exact .inr hn
  refine .inl ?_
  clear hs
  induction cs generalizing l a with
  | nil => exact okC_cons.mpr ⟨by omega, Int.le_refl _, rfl⟩
  | cons c cs ih =>
    rw [List.pairwise_cons] at h1
    have hc := h2 c List.mem_cons_self
    exact okC_cons.mpr ⟨by omega, by omega, ih (a := c + 1) (l := c) (by omega) h1.2 (fun d hd => by
      have := h1.1 d hd
      have := h2 d (List.mem_cons_of_mem _ hd)
      omega) (by omega)⟩
theorem gaps_sub {n : Int} : ∀ {cs : List Int} {a l : Int}, a = l + 1 → okC n l (cs ++ [n]) = true → cs.Sublist (((List.range (n - a).toNat).map fun (k : Nat) => a + (k : Int))) := by
  intro cs a l ha h
  have key : ∀ (k : Nat) (a : Int) (cs : List Int), cs.Pairwise (· < ·) → (∀ c ∈ cs, a ≤ c ∧ c < a + k) → cs.Sublist ((List.range k).map fun (i : Nat) => a + (i : Int)) := by
    intro k
    induction k with
    | zero =>
      intro a cs _ h2
      cases cs with
      | nil => exact List.Sublist.refl _
      | cons c cs => have := h2 c List.mem_cons_self; omega
    | succ k ih =>
      intro a cs h1 h2
      rw [List.range_succ_eq_map, List.map_cons, List.map_map]
      have e : (List.range k).map ((fun (i : Nat) => a + (i : Int)) ∘ Nat.succ) = (List.range k).map fun (i : Nat) => (a + 1) + (i : Int) := List.map_congr_left fun i _ => by
        show a + ((i + 1 : Nat) : Int) = _
        omega
      rw [e]
      cases cs with
      | nil => exact List.nil_sublist _
      | cons c cs =>
        rw [List.pairwise_cons] at h1
        have hc := h2 c List.mem_cons_self
        by_cases c0 : c = a
        · subst c0
          have : c + ((0 : Nat) : Int) = c := by omega
          rw [this]
          exact (ih (c + 1) cs h1.2 fun d hd => by
            have := h1.1 d hd
            have := h2 d (List.mem_cons_of_mem _ hd)
            omega).cons_cons c
        · refine List.Sublist.cons _ (ih (a + 1) (c :: cs) (by rw [List.pairwise_cons]; exact h1) fun d hd => ?_)
          have h3 := h2 d hd
          rcases List.mem_cons.mp hd with rfl | hd
          · omega
          · have := h1.1 d hd
            omega
  have key2 : ∀ (cs : List Int) (l : Int), okC n l (cs ++ [n]) = true → cs.Pairwise (· < ·) ∧ (∀ c ∈ cs, l < c ∧ c < n) ∧ l < n := by
    intro cs
    induction cs with
    | nil =>
      intro l h
      exact ⟨List.Pairwise.nil, fun c h => (by cases h), (okC_cons.mp h).1⟩
    | cons c cs ih =>
      intro l h
      obtain ⟨h1, h2, h3⟩ := okC_cons.mp h
      obtain ⟨i1, i2, i3⟩ := ih c h3
      refine ⟨?_, fun d hd => ?_, by omega⟩
      · rw [List.pairwise_cons]
        exact ⟨fun d hd => (i2 d hd).1, i1⟩
      · rcases List.mem_cons.mp hd with rfl | hd
        · omega
        · have := i2 d hd
          omega
  obtain ⟨k1, k2, k3⟩ := key2 cs l h
  refine key _ a cs k1 fun c hc => ?_
  have := k2 c hc
  omega
end K14

end
section
set_option maxHeartbeats 1000000
namespace K14
open VE
/-! k14, plain: the cuts as the law finds them -/
/-- the places not yet chosen -/
def lft (P : List Int) (t : Nat) : List Int := (pls P.length).filter fun p => !decide (p ∈ (od P).take t)
theorem lft_mem {P : List Int} {t : Nat} {p : Int} : p ∈ lft P t ↔ p ∈ (od P).drop t := by
  unfold lft
  rw [List.mem_filter, ← (od_perm P).mem_iff]
  have nd := od_nodup P
  rw [← List.take_append_drop t (od P), List.nodup_append] at nd
  constructor
  · rintro ⟨h1, h2⟩
    rw [← List.take_append_drop t (od P), List.mem_append] at h1
    have : p ∉ (od P).take t := by simpa using h2
    exact h1.resolve_left this
  · intro h
    refine ⟨List.mem_of_mem_drop h, ?_⟩
    have : p ∉ (od P).take t := fun h2 => nd.2.2 p h2 p h rfl
    simpa using this
theorem lft_step {P : List Int} {t : Nat} (ht : t < P.length) : ∃ o, (od P)[t]? = some o ∧ lft P t ≠ [] ∧ mx ((lft P t).map (vl P)) = vl P o ∧ ∃ r, (lft P t).filter (fun p => decide (vl P p = vl P o)) = o :: r := by
  have h1 : t < (od P).length := by rw [od_len]; exact ht
  refine ⟨(od P)[t], List.getElem?_eq_getElem h1, ?_⟩
  have ed := List.drop_eq_getElem_cons h1
  have hs : ∀ x ∈ lft P t, leK P (od P)[t] x = true := fun x hx => by
    rw [lft_mem, ed] at hx
    rcases List.mem_cons.mp hx with rfl | hx
    · rw [leK_iff]; omega
    · have h := od_sorted P
      rw [← List.take_append_drop t (od P), List.pairwise_append] at h
      have := h.2.1
      rw [ed, List.pairwise_cons] at this
      exact this.1 x hx
  have ho : (od P)[t] ∈ lft P t := by
    rw [lft_mem, ed]
    exact List.mem_cons_self
  generalize (od P)[t] = o at *
  have hne : lft P t ≠ [] := List.ne_nil_of_mem ho
  refine ⟨hne, ?_, ?_⟩
  · refine Int.le_antisymm ?_ (mx_ge (List.mem_map_of_mem ho))
    obtain ⟨x, hx, e⟩ := List.mem_map.mp (mx_mem (l := (lft P t).map (vl P)) (by simpa using hne))
    rw [← e]
    have := hs x hx
    rw [leK_iff] at this
    omega
  · have hm : o ∈ (lft P t).filter (fun p => decide (vl P p = vl P o)) := List.mem_filter.mpr ⟨ho, by simp⟩
    have ha : ((lft P t).filter (fun p => decide (vl P p = vl P o))).Pairwise (· < ·) := ((pls_asc P.length).filter _).filter _
    cases e : (lft P t).filter (fun p => decide (vl P p = vl P o)) with
    | nil => rw [e] at hm; cases hm
    | cons y r =>
      rw [e] at hm ha
      have hy : y ∈ (lft P t).filter (fun p => decide (vl P p = vl P o)) := by rw [e]; exact List.mem_cons_self
      obtain ⟨y1, y2⟩ := List.mem_filter.mp hy
      have y2 : vl P y = vl P o := by simpa using y2
      have y3 := hs y y1
      rw [leK_iff] at y3
      rcases List.mem_cons.mp hm with rfl | hm
      · exact ⟨r, rfl⟩
      · rw [List.pairwise_cons] at ha
        have := ha.1 o hm
        omega
/-! the pockets, sorted -/
theorem eq_sorted : ∀ {l m : List Int}, l.Pairwise (· ≤ ·) → m.Pairwise (· ≤ ·) → l.Perm m → l = m
  | [], m, _, _, h => h.nil_eq
  | x :: l, [], _, _, h => absurd h.length_eq (by simp)
  | x :: l, y :: m, hl, hm, h => by
    rw [List.pairwise_cons] at hl hm
    have h1 : x = y := by
      have a : y ≤ x := by
        rcases List.mem_cons.mp (h.mem_iff.mp List.mem_cons_self) with e | e
        · omega
        · exact hm.1 x e
      have b : x ≤ y := by
        rcases List.mem_cons.mp (h.mem_iff.mpr List.mem_cons_self) with e | e
        · omega
        · exact hl.1 y e
      omega
    subst h1
    rw [eq_sorted hl.2 hm.2 h.cons_inv]
theorem insI_le {x : Int} : ∀ {l : List Int}, l.Pairwise (· ≤ ·) → (insI x l).Pairwise (· ≤ ·)
  | [], _ => by simp [insI]
  | a :: l, h => by
    rw [List.pairwise_cons] at h
    unfold insI
    by_cases c : x ≤ a
    · rw [if_pos c, List.pairwise_cons, List.pairwise_cons]
      refine ⟨fun y hy => ?_, h⟩
      rcases List.mem_cons.mp hy with rfl | hy
      · exact c
      · have := h.1 y hy
        omega
    · rw [if_neg c, List.pairwise_cons]
      refine ⟨fun y hy => ?_, insI_le h.2⟩
      rcases List.mem_cons.mp ((insI_perm x l).mem_iff.mp hy) with rfl | hy
      · omega
      · exact h.1 y hy
theorem sortI_le : ∀ l : List Int, (sortI l).Pairwise (· ≤ ·)
  | [] => List.Pairwise.nil
  | x :: l => insI_le (sortI_le l)
theorem sortI_pm : ∀ l : List Int, (sortI l).Perm l
  | [] => List.Perm.refl _
  | x :: l => (insI_perm x _).trans ((sortI_pm l).cons x)
theorem pls_vals (P : List Int) : (pls P.length).map (vl P) = P := by
  unfold pls
  rw [List.map_map]
  refine List.ext_getElem (by simp) fun i h1 h2 => ?_
  rw [List.getElem_map, List.getElem_range]
  exact vl_get h2
theorem od_vals (P : List Int) : ((od P).map (vl P)).reverse = sortI P := by
  refine eq_sorted ?_ (sortI_le P) ?_
  · rw [List.pairwise_reverse, List.pairwise_map]
    exact (od_sorted P).imp fun {p q} h => by
      rw [leK_iff] at h
      omega
  · refine (List.reverse_perm _).trans (((od_perm P).map (vl P)).trans ?_)
    rw [pls_vals]
    exact (sortI_pm P).symm
theorem top_sum (P : List Int) {m : Nat} (hm : m ≤ P.length) : ((sortI P).drop (P.length - m)).sum = ((grt P m).map (vl P)).sum := by
  rw [perm_sum ((grt_perm P m).map (vl P)), ← od_vals, List.map_take]
  have hl : ((od P).map (vl P)).length = P.length := by rw [List.length_map, od_len]
  generalize (od P).map (vl P) = L at *
  have : L.reverse.drop (P.length - m) = (L.take m).reverse := by
    rw [List.drop_reverse, hl, show P.length - (P.length - m) = m by omega]
  rw [this]
  exact perm_sum (List.reverse_perm _)
theorem grt_all (P : List Int) {m : Nat} (h : P.length ≤ m) : grt P m = pls P.length := by
  refine eq_sorted ((grt_facts P m).1.imp fun h => by omega) ((pls_asc _).imp fun h => by omega) ?_
  refine (grt_perm P m).trans ?_
  rw [List.take_of_length_le (by rw [od_len]; exact h)]
  exact od_perm P
theorem bw_all {P : List Int} {m : Nat} (h : P.length ≤ m + 1) : bw P m = 0 := by
  unfold bw
  rw [grt_all P h, pls_vals]
  omega
theorem bst_all {P : List Int} {m : Nat} (h : P.length ≤ m + 1) : bst P m = (pls P.length).drop 1 := by
  unfold bst
  rw [grt_all P h]
/-- the least of a list -/
theorem minI_is : ∀ (l : List Int) (m w : Int), w ∈ m :: l → (∀ x ∈ m :: l, w ≤ x) → minI m l = w
  | [], m, w, h, _ => by
    rw [List.mem_singleton] at h
    rw [h]
    rfl
  | y :: l, m, w, h, g => by
    unfold minI
    have g1 := g m List.mem_cons_self
    have g2 := g y (List.mem_cons_of_mem _ List.mem_cons_self)
    have g3 : ∀ x ∈ l, w ≤ x := fun x hx => g x (List.mem_cons_of_mem _ (List.mem_cons_of_mem _ hx))
    refine minI_is l _ w ?_ fun x hx => ?_
    · rcases List.mem_cons.mp h with e | h
      · rw [if_neg (by omega), e]
        exact List.mem_cons_self
      · rcases List.mem_cons.mp h with e | h
        · by_cases c : y < m
          · rw [if_pos c, e]; exact List.mem_cons_self
          · rw [if_neg c, show m = w by omega]; exact List.mem_cons_self
        · exact List.mem_cons_of_mem _ h
    · rcases List.mem_cons.mp hx with e | hx
      · rw [e]
        split <;> omega
      · exact g3 x hx
end K14

end
section
set_option maxHeartbeats 1000000
namespace VE
/-! VW6: observed arguments; rules that were lacking -/
section
variable {cf : CF} {Γ : En} {es : List Ex} {i j : Nat} {d : D} {ds : List D}
@[simp] theorem q_pkI_pk : pkI (.pk i :: es) = i :: pkI es := (rfl)
@[simp] theorem q_pkI_ob : pkI (.ob i :: es) = pkI es := (rfl)
@[simp] theorem q_pkI_frz {e : Ex} : pkI (.frz e :: es) = pkI es := (rfl)
@[simp] theorem q_pkI_var : pkI (.var i :: es) = pkI es := (rfl)
@[simp] theorem q_pkI_cst {q : Cst} : pkI (.cst q :: es) = pkI es := (rfl)
@[simp] theorem q_pkI_glb {q : Cst} {g : Nat} : pkI (.glb g q :: es) = pkI es := (rfl)
@[simp] theorem q_pkI_tup {fs : List Ex} : pkI (.tup fs :: es) = pkI es := (rfl)
@[simp] theorem q_pkI_lst {fs : List Ex} : pkI (.lst fs :: es) = pkI es := (rfl)
@[simp] theorem q_pkI_op {f : Fm} {o : Op} {fs : List Ex} : pkI (.op f o fs :: es) = pkI es := (rfl)
@[simp] theorem q_pkI_call {f : Nat} {fs : List Ex} : pkI (.call f fs :: es) = pkI es := (rfl)
@[simp] theorem q_pkI_tst {t : Tx} : pkI (.tst t :: es) = pkI es := (rfl)
@[simp] theorem q_pkI_ite {t : Tx} {a b : Ex} : pkI (.ite t a b :: es) = pkI es := (rfl)
@[simp] theorem q_pkI_lc {own : List Nat} {tg : Tg} {it : It} {c : Tx} {e : Ex} : pkI (.lc own tg it c e :: es) = pkI es := (rfl)
@[simp] theorem q_pkI_mv : pkI (.mv j :: es) = pkI es := (rfl)
@[simp] theorem q_back_frz {e : Ex} : back Γ (.frz e :: es) (d :: ds) = back Γ es ds := (rfl)
@[simp] theorem q_back_mv : back Γ (.mv j :: es) (d :: ds) = back Γ es ds := (rfl)
@[simp] theorem q_back_mvI {e : Ex} : back Γ (.mvI j e :: es) (d :: ds) = back Γ es ds := (rfl)
@[simp] theorem q_back_lcT {own : List Nat} {tg : Tg} {s : Ex} {t : Tx} {e : Ex} : back Γ (.lcT own tg s t e :: es) (d :: ds) = back Γ es ds := (rfl)
@[simp] theorem q_back_told {f g : Nat} {fs : List Ex} : back Γ (.told f g fs :: es) (d :: ds) = back Γ es ds := (rfl)
@[simp] theorem q_cB0 : cleanB [] ds = true := by cases ds <;> rfl
@[simp] theorem q_cB_pk : cleanB (.pk i :: es) (d :: ds) = (clean d && cleanB es ds) := (rfl)
@[simp] theorem q_cB_ob : cleanB (.ob i :: es) (d :: ds) = cleanB es ds := (rfl)
@[simp] theorem q_cB_frz {e : Ex} : cleanB (.frz e :: es) (d :: ds) = cleanB es ds := (rfl)
@[simp] theorem q_cB_var : cleanB (.var i :: es) (d :: ds) = cleanB es ds := (rfl)
@[simp] theorem q_cB_cst {q : Cst} : cleanB (.cst q :: es) (d :: ds) = cleanB es ds := (rfl)
@[simp] theorem q_cB_glb {q : Cst} {g : Nat} : cleanB (.glb g q :: es) (d :: ds) = cleanB es ds := (rfl)
@[simp] theorem q_cB_tup {fs : List Ex} : cleanB (.tup fs :: es) (d :: ds) = cleanB es ds := (rfl)
@[simp] theorem q_cB_lst {fs : List Ex} : cleanB (.lst fs :: es) (d :: ds) = cleanB es ds := (rfl)
@[simp] theorem q_cB_op {f : Fm} {o : Op} {fs : List Ex} : cleanB (.op f o fs :: es) (d :: ds) = cleanB es ds := (rfl)
@[simp] theorem q_cB_call {f : Nat} {fs : List Ex} : cleanB (.call f fs :: es) (d :: ds) = cleanB es ds := (rfl)
@[simp] theorem q_mvIT {xs : List D} {k : Int} : mvIR Γ j (.int k) (some (.tup xs)) = if 0 ≤ k then mvIR.mvIX xs[k.toNat]? (Γ.set j (some (.tup (xs.set k.toNat .gone)))) else .bad := (rfl)
@[simp] theorem q_mvIL {xs : List D} {k : Int} : mvIR Γ j (.int k) (some (.lst .own xs)) = if 0 ≤ k then mvIR.mvIX xs[k.toNat]? (Γ.set j (some (.lst .own (xs.set k.toNat .gone)))) else .bad := (rfl)
@[simp] theorem q_mvIX : mvIR.mvIX (some d) Γ = .ok d Γ := (rfl)
theorem q_act {m : CM} : exS cf (.act m) Γ = kAct m Γ (cf 0 []) := (rfl)
theorem is_bb : Xn.is ⟨"BadPlan", "what"⟩ ⟨"BadPlan", "what"⟩ = true := by decide +kernel
theorem is_tt : Xn.is ⟨"TooMany", "what"⟩ ⟨"TooMany", "what"⟩ = true := by decide +kernel
theorem is_pp : Xn.is ⟨"BadPocket", "place"⟩ ⟨"BadPocket", "place"⟩ = true := by decide +kernel
theorem is_tb : Xn.is ⟨"TooMany", "what"⟩ ⟨"BadPlan", "what"⟩ = false := by decide +kernel
theorem is_tp : Xn.is ⟨"TooMany", "what"⟩ ⟨"BadPocket", "place"⟩ = false := by decide +kernel
theorem is_bt : Xn.is ⟨"BadPlan", "what"⟩ ⟨"TooMany", "what"⟩ = false := by decide +kernel
theorem is_bp : Xn.is ⟨"BadPlan", "what"⟩ ⟨"BadPocket", "place"⟩ = false := by decide +kernel
theorem is_pt : Xn.is ⟨"BadPocket", "place"⟩ ⟨"TooMany", "what"⟩ = false := by decide +kernel
theorem is_pb : Xn.is ⟨"BadPocket", "place"⟩ ⟨"BadPlan", "what"⟩ = false := by decide +kernel
@[simp] theorem q_frz_str {s : PySem.Str} : frz (.str s) = .str s := (rfl)
@[simp] theorem q_frz_non : frz .non = .non := (rfl)
@[simp] theorem q_frz_bl {b : Bool} : frz (.bl b) = .bl b := (rfl)
@[simp] theorem q_cl_bl {b : Bool} : clean (.bl b) = true := (rfl)
@[simp] theorem q_cl_int {b : Int} : clean (.int b) = true := (rfl)
@[simp] theorem q_cl_str {b : PySem.Str} : clean (.str b) = true := (rfl)
@[simp] theorem q_cl_non : clean .non = true := (rfl)
/-! comprehensions that draw -/
theorem loopC_draw {f : D → En → R (Option D)} {G : Pu → En} {Q : Int → Prop} : ∀ (xs : List D) (p : Pu), (∀ x ∈ xs, ∀ p, ∃ v p', f x (G p) = .ok (some (.int v)) (G p') ∧ Q v) → ∃ (L : List Int) (p' : Pu), loopC f xs (G p) = .ok (L.map .int) (G p') ∧ L.length = xs.length ∧ ∀ v ∈ L, Q v
  | [], p, _ => ⟨[], p, rfl, rfl, fun v h => (by cases h)⟩
  | x :: xs, p, h => by
    obtain ⟨v, p1, e, q⟩ := h x List.mem_cons_self p
    obtain ⟨L, p2, e2, l2, q2⟩ := loopC_draw (Q := Q) xs p1 fun y hy => h y (List.mem_cons_of_mem _ hy)
    refine ⟨v :: L, p2, ?_, by rw [List.length_cons, l2, List.length_cons], fun w hw => ?_⟩
    · unfold loopC
      rw [e, q_bind_ok, e2, q_bind_ok]
      rfl
    · rcases List.mem_cons.mp hw with rfl | hw
      · exact q
      · exact q2 w hw
theorem loopC_pick {f : D → En → R (Option D)} {G : Pu → En} : ∀ (xs : List Int) (p : Pu), (∀ x ∈ xs, ∀ p, ∃ (b : Bool) (p' : Pu), f (.int x) (G p) = .ok (if b = true then some (.int x) else none) (G p')) → ∃ (L : List Int) (p' : Pu), loopC f (xs.map .int) (G p) = .ok (L.map .int) (G p') ∧ L.Sublist xs
  | [], p, _ => ⟨[], p, rfl, List.Sublist.refl _⟩
  | x :: xs, p, h => by
    obtain ⟨b, p1, e⟩ := h x List.mem_cons_self p
    obtain ⟨L, p2, e2, s2⟩ := loopC_pick xs p1 fun y hy => h y (List.mem_cons_of_mem _ hy)
    rw [List.map_cons]
    unfold loopC
    rw [e, q_bind_ok, e2, q_bind_ok]
    cases b with
    | true => exact ⟨x :: L, p2, rfl, s2.cons_cons x⟩
    | false => exact ⟨L, p2, rfl, s2.cons x⟩
end
end VE

end
section
set_option maxRecDepth 100000
namespace K14
open PySem VE L2
def top (i : Nat) : Stmt := PySem.Challenge.pw_cleanhands_k14_weighings_told_ahead.main.body.getD i (.Pass ⟨0, 0, 0, 0⟩)
def b_check_most : List Stm := [.iff (.cmp .gt [.pk 1, .pk 2]) [.rse ⟨"TooMany", "what"⟩ [.var 0]] []]
def r_check_most : VE.Row := ⟨"check_most", top 9, ["what", "number", "most"], ["what", "number", "most"], ⟨3, [true, true, true], 3, b_check_most, .plain⟩, false⟩
def b_check_each : List Stm := [.fr (.nm 3) (.seq (.pk 1)) [3] [.iff (.cmp .gt [.pk 3, .pk 2]) [.rse ⟨"TooMany", "what"⟩ [.var 0]] []]]
def r_check_each : VE.Row := ⟨"check_each", top 10, ["what", "numbers", "most"], ["what", "numbers", "most", "number"], ⟨3, [true, true, true], 4, b_check_each, .plain⟩, false⟩
def b_check_pocket_bounds : List Stm := [.callX .exp 0 [.cst (.str "pockets"), .op .call .len [.pk 0], .glb 1 (.int 10)], .callX .exp 1 [.cst (.str "pocket"), .pk 0, .glb 2 (.int 6)]]
def r_check_pocket_bounds : VE.Row := ⟨"check_pocket_bounds", top 12, ["pockets"], ["pockets"], ⟨1, [true], 1, b_check_pocket_bounds, .plain⟩, false⟩
def b_check_pockets : List Stm := [.fr (.nm 1) (.rng1 (.op .call .len [.pk 0])) [1] [.iff (.cmp .lt [.op .sub .idx [.pk 0, .pk 1], .cst (.int 0)]) [.rse ⟨"BadPocket", "place"⟩ [.op .bin .add [.pk 1, .cst (.int 1)]]] []], .iff (.cmp .eq [.op .call .len [.pk 0], .cst (.int 0)]) [.rse ⟨"BadPocket", "place"⟩ [.cst (.int 0)]] []]
def r_check_pockets : VE.Row := ⟨"check_pockets", top 13, ["pockets"], ["pockets", "place"], ⟨1, [true], 2, b_check_pockets, .plain⟩, false⟩
def b_unnamed_at : List Stm := [.callX .exp 2 [.pk 0], .callX .exp 3 [.pk 0], .asg (.nm 2) (.cst (.int 0)), .asg (.nm 3) (.op .call .sum [.pk 0]), .fr (.nm 4) (.seq (.op .bin .add [.op .call .list [.pk 1], .lst [.op .call .len [.pk 0]]])) [4] [.iff (.not (.chn .lt .le [.pk 2, .pk 4] (.op .call .len [.pk 0]))) [.rse ⟨"BadPlan", "what"⟩ [.cst (.str "cuts")]] [], .asg (.nm 3) (.op .bin .sub [.pk 3, .op .call .max [.op .cut .cut [.pk 0, .pk 2, .pk 4]]]), .asg (.nm 2) (.var 4)], .ret (.var 3)]
def r_unnamed_at : VE.Row := ⟨"unnamed_at", top 14, ["pockets", "cuts"], ["pockets", "cuts", "last", "told", "cut"], ⟨2, [true, true], 5, b_unnamed_at, .plain⟩, false⟩
def b_most_unnamed : List Stm := [.callX .exp 0 [.cst (.str "numbers"), .pk 1, .glb 0 (.int 1000000)], .callX .exp 2 [.pk 0], .callX .exp 3 [.pk 0], .iff (.cmp .lt [.pk 1, .cst (.int 0)]) [.rse ⟨"BadPlan", "what"⟩ [.cst (.str "numbers")]] [], .asg (.nm 2) (.op .bin .add [.op .call .min [.pk 1, .op .bin .sub [.op .call .len [.pk 0], .cst (.int 1)]], .cst (.int 1)]), .asg (.nm 3) (.sortK 0 (.op .lrg .range1 [.op .call .len [.pk 0]])), .asg (.nm 4) (.op .call .sorted [.op .cut .cutR [.pk 3, .pk 2]]), .ret (.tup [.op .bin .sub [.op .call .sum [.pk 0], .op .call .sum [.lc [5] (.nm 5) (.seq (.pk 4)) (.yes) (.op .sub .idx [.pk 0, .pk 5])]], .op .cut .cutL [.pk 4, .cst (.int 1)]])]
def r_most_unnamed : VE.Row := ⟨"most_unnamed", top 15, ["pockets", "c"], ["pockets", "c", "many", "order", "places", "place"], ⟨2, [true, true], 6, b_most_unnamed, .plain⟩, true⟩
def b_law_purse : List Stm := [.asg (.nm 2) (.ite (.cmp .lt [.pk 1, .op .call .len [.pk 0]]) (.op .call .int [.op .sub .idx [.pk 0, .pk 1]]) (.op .bin .mul [.cst (.int 31), .op .call .sum [.lc [4] (.nm 4) (.seq (.op .cut .cutR [.pk 0, .cst (.int 4)])) (.yes) (.op .call .int [.pk 4])]])), .asg (.nm 3) (.op .bin .add [.op .bin .mul [.cst (.int 2), .op .call .abs [.pk 2]], .ite (.cmp .lt [.pk 2, .cst (.int 0)]) (.cst (.int 1)) (.cst (.int 0))]), .ret (.lst [.ite (.cmp .ge [.pk 3, .op .bin .pow [.cst (.int 10), .cst (.int 18)]]) (.var 3) (.cst (.int 0)), .op .bin .mod [.op .call .int [.op .bin .add [.op .bin .add [.pk 3, .op .bin .mul [.pk 1, .cst (.int 104729)]], .cst (.int 12345)]], .cst (.int 2147483629)], .var 1])]
def r_law_purse : VE.Row := ⟨"_law_purse", top 17, ["script", "at"], ["script", "at", "cell", "size", "one"], ⟨2, [true, true], 5, b_law_purse, .plain⟩, false⟩
def b_law_draw : List Stm := [.iff (.cmp .gt [.op .sub .idx [.pk 0, .cst (.int 0)], .cst (.int 0)]) [.asg (.nm 2) (.op .bin .mod [.op .call .int [.op .sub .idx [.pk 0, .cst (.int 0)]], .pk 1]), .setI 0 (.cst (.int 0)) (.op .bin .fdiv [.op .sub .idx [.pk 0, .cst (.int 0)], .pk 1]), .ret (.var 2)] [], .augI 0 (.cst (.int 2)) .add (.cst (.int 1)), .setI 0 (.cst (.int 1)) (.op .bin .mod [.op .call .int [.op .bin .add [.op .bin .mul [.op .sub .idx [.pk 0, .cst (.int 1)], .cst (.int 48271)], .op .bin .mul [.op .sub .idx [.pk 0, .cst (.int 2)], .cst (.int 69621)]]], .cst (.int 2147483647)]), .ret (.op .bin .mod [.op .bin .fdiv [.op .bin .mod [.op .call .int [.op .bin .add [.op .bin .mul [.op .sub .idx [.pk 0, .cst (.int 1)], .cst (.int 16807)], .op .bin .mul [.op .sub .idx [.pk 0, .cst (.int 2)], .cst (.int 7919)]]], .cst (.int 2147483629)], .cst (.int 8)], .pk 1])]
def r_law_draw : VE.Row := ⟨"_law_draw", top 18, ["purse", "many"], ["purse", "many", "found"], ⟨2, [true, true], 3, b_law_draw, .plain⟩, false⟩
def b_law_matches : List Stm := [.iff (.or [.cmp .isn [.pk 1, .cst .non], .cmp .isn [.pk 0, .cst .non]]) [.ret (.tst (.and [.cmp .isn [.pk 1, .cst .non], .cmp .isn [.pk 0, .cst .non]]))] [], .iff (.or [.tr [.op .isi .isB [.pk 1]], .tr [.op .isi .isB [.pk 0]]]) [.ret (.tst (.and [.tr [.op .isi .isB [.pk 1]], .tr [.op .isi .isB [.pk 0]], .cmp .eq [.pk 0, .pk 1]]))] [], .iff (.tr [.op .isi .isI [.pk 1]]) [.ret (.tst (.and [.tr [.op .isi .isI [.pk 0]], .cmp .eq [.pk 0, .pk 1]]))] [], .iff (.tr [.op .isi .isS [.pk 1]]) [.ret (.tst (.and [.tr [.op .isi .isS [.pk 0]], .cmp .eq [.pk 0, .pk 1]]))] [], .iff (.and [.tr [.op .isi .isT [.pk 1]], .not (.tr [.op .isi .isT [.pk 0]])]) [.ret (.cst (.bl false))] [], .iff (.and [.tr [.op .isi .isL [.pk 1]], .not (.tr [.op .isi .isL [.pk 0]])]) [.ret (.cst (.bl false))] [], .iff (.cmp .ne [.op .call .len [.pk 0], .op .call .len [.pk 1]]) [.ret (.cst (.bl false))] [], .fr (.nm 2) (.rng1 (.op .call .len [.pk 1])) [2] [.iff (.not (.tr [.call 8 [.op .sub .idx [.pk 0, .pk 2], .op .sub .idx [.pk 1, .pk 2]]])) [.ret (.cst (.bl false))] []], .ret (.cst (.bl true))]
def r_law_matches : VE.Row := ⟨"_law_matches", top 19, ["answer", "due"], ["answer", "due", "at"], ⟨2, [true, true], 3, b_law_matches, .plain⟩, false⟩
def b_law_choose : List Stm := [.asg (.nm 2) (.lst [.tup [.lst [], .cst (.int 0)]]), .fr (.nm 3) (.rng1 (.var 1)) [3, 4, 5, 6, 7] [.asg (.nm 4) (.lst []), .fr (.tp [5, 6]) (.seq (.pk 2)) [5, 6, 7] [.fr (.nm 7) (.rng2 (.var 6) (.op .bin .sub [.op .call .len [.pk 0], .op .bin .sub [.op .bin .sub [.pk 1, .pk 3], .cst (.int 1)]])) [7] [.app 4 (.tup [.op .bin .add [.pk 5, .lst [.op .sub .idx [.pk 0, .pk 7]]], .op .bin .add [.pk 7, .cst (.int 1)]])]], .asg (.nm 2) (.var 4)], .ret (.lc [8] (.nm 8) (.seq (.pk 2)) (.yes) (.op .sub .idx [.pk 8, .cst (.int 0)]))]
def r_law_choose : VE.Row := ⟨"_law_choose", top 20, ["things", "many"], ["things", "many", "found", "turn", "longer", "chosen", "start", "at", "pair"], ⟨2, [true, true], 9, b_law_choose, .plain⟩, false⟩
def b_law_pockets_told : List Stm := [.tryX [.act (.asg 1)] [⟨"TooMany", [⟨"TooMany", "what"⟩], some 2, none, .tup [.cst (.str "TooMany"), .fld]⟩, ⟨"BadPlan", [⟨"BadPlan", "what"⟩], some 2, none, .tup [.cst (.str "BadPlan"), .fld]⟩, ⟨"BadPocket", [⟨"BadPocket", "place"⟩], some 2, none, .tup [.cst (.str "BadPocket"), .fld]⟩], .ret (.tup [.cst (.str "value"), .var 1])]
def r_law_pockets_told : VE.Row := ⟨"_law_pockets_told", top 21, ["deed"], ["deed", "found", "e"], ⟨1, [true], 3, b_law_pockets_told, .told⟩, false⟩
def b_law_drawn_pockets : List Stm := [.asg (.nm 2) (.op .bin .add [.cst (.int 1), .call 7 [.pk 0, .pk 1]]), .asg (.nm 3) (.op .bin .add [.cst (.int 1), .call 7 [.pk 0, .cst (.int 6)]]), .asg (.nm 4) (.lc [5] (.nm 5) (.rng1 (.var 2)) (.yes) (.call 7 [.pk 0, .op .bin .add [.pk 3, .cst (.int 1)]])), .setI 4 (.call 7 [.pk 0, .pk 2]) (.var 3), .ret (.var 4)]
def r_law_drawn_pockets : VE.Row := ⟨"_law_drawn_pockets", top 22, ["purse", "most"], ["purse", "most", "many", "top", "found", "one"], ⟨2, [true, true], 6, b_law_drawn_pockets, .plain⟩, false⟩
def b_law_cut_unnamed : List Stm := [.asg (.nm 2) (.op .bin .add [.op .bin .add [.lst [.cst (.int 0)], .pk 1], .lst [.op .call .len [.pk 0]]]), .asg (.nm 3) (.cst (.int 0)), .fr (.nm 4) (.rng2 (.cst (.int 1)) (.op .call .len [.pk 2])) [4, 5] [.asg (.nm 5) (.op .cut .cut [.pk 0, .op .sub .idx [.pk 2, .op .bin .sub [.pk 4, .cst (.int 1)]], .op .sub .idx [.pk 2, .pk 4]]), .aug 3 .add (.op .bin .sub [.op .call .sum [.pk 5], .op .call .max [.pk 5]])], .ret (.var 3)]
def r_law_cut_unnamed : VE.Row := ⟨"_law_cut_unnamed", top 23, ["pockets", "cuts"], ["pockets", "cuts", "ends", "found", "at", "stretch"], ⟨2, [true, true], 6, b_law_cut_unnamed, .plain⟩, false⟩
def b_law_best_cuts : List Stm := [.asg (.nm 2) (.lst []), .fr (.nm 3) (.rng1 (.op .bin .add [.pk 1, .cst (.int 1)])) [3, 4, 5] [.asg (.nm 4) (.lc [6] (.nm 6) (.rng1 (.op .call .len [.pk 0])) (.cmp .nmem [.pk 6, .pk 2]) (.var 6)), .asg (.nm 5) (.op .call .max [.lc [6] (.nm 6) (.seq (.pk 4)) (.yes) (.op .sub .idx [.pk 0, .pk 6])]), .app 2 (.op .sub .idx [.lc [6] (.nm 6) (.seq (.pk 4)) (.cmp .eq [.op .sub .idx [.pk 0, .pk 6], .pk 5]) (.var 6), .cst (.int 0)])], .ret (.op .cut .cutL [.op .call .sorted [.pk 2], .cst (.int 1)])]
def r_law_best_cuts : VE.Row := ⟨"_law_best_cuts", top 24, ["pockets", "many"], ["pockets", "many", "chosen", "turn", "left", "top", "at"], ⟨2, [true, true], 7, b_law_best_cuts, .plain⟩, false⟩
def b_law_ahead_right : List Stm := [.asg (.nm 1) (.op .lrg .range2 [.cst (.int 1), .op .call .len [.pk 0]]), .asg (.nm 2) (.op .call .list [.pk 0]), .fr (.nm 3) (.rng1 (.op .bin .add [.op .call .len [.pk 1], .cst (.int 1)])) [3, 4, 5, 6, 7, 8, 9] [.asg (.nm 4) (.lst []), .fr (.nm 5) (.seq (.call 9 [.pk 1, .pk 3])) [5, 6, 7] [.asg (.nm 6) (.op .call .list [.pk 5]), .callX (.asg 7) 4 [.pk 2, .pk 6], .app 4 (.call 12 [.pk 0, .pk 5]), .iff (.or [.not (.tr [.call 8 [.ob 7, .frz (.op .sub .idx [.pk 4, .op .un .neg [.cst (.int 1)]])]]), .cmp .ne [.pk 6, .pk 5], .cmp .ne [.pk 2, .pk 0]]) [.ret (.cst (.bl false))] []], .asg (.nm 8) (.call 13 [.pk 0, .pk 3]), .callX (.asg 7) 5 [.pk 2, .pk 3], .iff (.or [.not (.tr [.call 8 [.ob 7, .frz (.tup [.op .call .min [.pk 4], .var 8])]]), .cmp .ne [.call 12 [.pk 0, .pk 8], .op .call .min [.pk 4]]]) [.ret (.cst (.bl false))] [], .asg (.nm 9) (.mvI 7 (.cst (.int 1))), .app 9 (.cst (.int 0)), .iff (.not (.tr [.call 8 [.frz (.call 5 [.pk 2, .pk 3]), .frz (.tup [.op .call .min [.pk 4], .var 8])]])) [.ret (.cst (.bl false))] []], .ret (.tst (.cmp .eq [.pk 2, .pk 0]))]
def r_law_ahead_right : VE.Row := ⟨"_law_ahead_right", top 25, ["pockets"], ["pockets", "gaps", "handed", "many", "worths", "cuts", "given", "told", "best", "spoilt"], ⟨1, [true], 10, b_law_ahead_right, .plain⟩, false⟩
def b_law_long_right : List Stm := [.asg (.nm 1) (.lc [6] (.nm 6) (.rng1 (.op .bin .add [.cst (.int 8), .call 7 [.pk 0, .cst (.int 3)]])) (.yes) (.call 7 [.pk 0, .cst (.int 7)])), .asg (.nm 2) (.call 7 [.pk 0, .cst (.int 14)]), .asg (.nm 3) (.call 13 [.pk 1, .op .call .min [.pk 2, .op .bin .sub [.op .call .len [.pk 1], .cst (.int 1)]]]), .asg (.nm 4) (.op .bin .sub [.op .call .sum [.pk 1], .op .call .sum [.op .cut .cutL [.op .call .sorted [.pk 1], .op .call .max [.cst (.int 0), .op .bin .sub [.op .bin .sub [.op .call .len [.pk 1], .pk 2], .cst (.int 1)]]]]]), .iff (.or [.not (.tr [.call 8 [.frz (.call 5 [.pk 1, .pk 2]), .frz (.tup [.var 4, .var 3])]]), .not (.tr [.call 8 [.frz (.call 4 [.pk 1, .pk 3]), .frz (.mv 4)]])]) [.ret (.cst (.bl false))] [], .asg (.nm 5) (.op .lrg .range2 [.cst (.int 1), .op .call .len [.pk 1]]), .ret (.tst (.and [.tr [.call 8 [.frz (.call 5 [.pk 1, .op .bin .pow [.cst (.int 10), .cst (.int 6)]]), .frz (.tup [.cst (.int 0), .var 5])]], .cmp .eq [.call 4 [.pk 1, .pk 5], .cst (.int 0)]]))]
def r_law_long_right : VE.Row := ⟨"_law_long_right", top 26, ["purse"], ["purse", "pockets", "many", "best", "due", "all_cuts", "turn"], ⟨1, [true], 7, b_law_long_right, .plain⟩, false⟩
def b_law_ahead_refused : List Stm := [.asg (.nm 2) (.op .call .len [.pk 1]), .asg (.nm 3) (.call 7 [.pk 0, .pk 2]), .asg (.nm 4) (.op .bin .add [.cst (.int 1), .call 7 [.pk 0, .cst (.int 5)]]), .asg (.nm 5) (.op .bin .add [.op .bin .add [.op .cut .cutR [.pk 1, .pk 3], .lst [.op .un .neg [.pk 4]]], .op .cut .cutL [.pk 1, .op .bin .add [.pk 3, .cst (.int 1)]]]), .asg (.nm 6) (.op .bin .add [.op .bin .add [.op .cut .cutR [.pk 1, .pk 3], .lst [.op .bin .add [.cst (.int 6), .pk 4]]], .op .cut .cutL [.pk 1, .op .bin .add [.pk 3, .cst (.int 1)]]]), .asg (.nm 7) (.lc [12] (.nm 12) (.rng1 (.op .bin .add [.cst (.int 10), .pk 4])) (.yes) (.op .sub .idx [.pk 1, .cst (.int 0)])), .fr (.tp [8, 9]) (.seq (.lst [.lst [.var 5, .tup [.cst (.str "BadPocket"), .op .bin .add [.pk 3, .cst (.int 1)]]], .lst [.lst [], .tup [.cst (.str "BadPocket"), .cst (.int 0)]], .lst [.var 6, .tup [.cst (.str "TooMany"), .cst (.str "pocket")]], .lst [.var 7, .tup [.cst (.str "TooMany"), .cst (.str "pockets")]], .lst [.op .bin .add [.pk 6, .pk 7], .tup [.cst (.str "TooMany"), .cst (.str "pockets")]], .lst [.op .bin .add [.pk 5, .pk 6], .cst .non]])) [8, 9] [.iff (.cmp .isn [.pk 9, .cst .non]) [.asg (.nm 9) (.tup [.cst (.str "TooMany"), .ite (.cmp .gt [.op .bin .mul [.cst (.int 2), .pk 2], .cst (.int 10)]) (.cst (.str "pockets")) (.cst (.str "pocket"))])] [], .iff (.cmp .ne [.told 10 4 [.pk 8, .lst [.cst (.int 0)]], .pk 9]) [.ret (.cst (.bl false))] [], .iff (.cmp .ne [.told 10 4 [.pk 8, .lst []], .pk 9]) [.ret (.cst (.bl false))] [], .iff (.cmp .ne [.told 10 5 [.pk 8, .op .un .neg [.pk 4]], .pk 9]) [.ret (.cst (.bl false))] [], .iff (.cmp .ne [.told 10 5 [.pk 8, .op .bin .add [.op .bin .pow [.cst (.int 10), .cst (.int 6)], .pk 4]], .tup [.cst (.str "TooMany"), .cst (.str "numbers")]]) [.ret (.cst (.bl false))] []], .asg (.nm 10) (.lc [13] (.nm 13) (.rng2 (.cst (.int 1)) (.var 2)) (.cmp .eq [.call 7 [.pk 0, .cst (.int 2)], .cst (.int 0)]) (.var 13)), .asg (.nm 11) (.lst [.op .bin .add [.lst [.cst (.int 0)], .pk 10], .op .bin .add [.pk 10, .lst [.var 2]], .op .bin .add [.pk 10, .lst [.op .bin .add [.pk 2, .pk 4]]], .op .bin .add [.lst [.op .un .neg [.pk 4]], .pk 10], .ite (.cmp .ne [.pk 10, .lst []]) (.op .bin .add [.pk 10, .lst [.cst (.int 1)]]) (.lst [.cst (.int 0)]), .op .bin .add [.pk 10, .pk 10]]), .fr (.nm 8) (.seq (.pk 11)) [8] [.iff (.and [.cmp .ne [.pk 8, .lst []], .cmp .ne [.told 10 4 [.op .call .list [.pk 1], .op .call .list [.pk 8]], .tup [.cst (.str "BadPlan"), .cst (.str "cuts")]]]) [.ret (.cst (.bl false))] []], .iff (.and [.cmp .gt [.op .call .len [.pk 10], .cst (.int 1)], .cmp .ne [.told 10 4 [.op .call .list [.pk 1], .op .rev .rev [.pk 10]], .tup [.cst (.str "BadPlan"), .cst (.str "cuts")]]]) [.ret (.cst (.bl false))] [], .iff (.cmp .ne [.told 10 5 [.op .call .list [.pk 1], .op .un .neg [.pk 4]], .tup [.cst (.str "BadPlan"), .cst (.str "numbers")]]) [.ret (.cst (.bl false))] [], .ret (.call 8 [.call 4 [.op .call .list [.pk 1], .pk 10], .call 12 [.pk 1, .pk 10]])]
def r_law_ahead_refused : VE.Row := ⟨"_law_ahead_refused", top 27, ["purse", "pockets"], ["purse", "pockets", "many", "place", "less", "low", "high", "more", "row", "due", "cuts", "wrong", "turn", "at"], ⟨2, [true, true], 14, b_law_ahead_refused, .plain⟩, true⟩
def b_law : List Stm := [.asg (.nm 1) (.call 6 [.pk 0, .cst (.int 0)]), .asg (.nm 2) (.lst [.call 11 [.pk 1, .cst (.int 7)], .call 11 [.call 6 [.pk 0, .cst (.int 1)], .cst (.int 7)]]), .fr (.nm 3) (.seq (.pk 2)) [3] [.iff (.or [.not (.tr [.call 14 [.pk 3]]), .not (.tr [.call 16 [.pk 1, .pk 3]])]) [.ret (.cst (.bl false))] []], .callX .ret 15 [.call 6 [.pk 0, .cst (.int 2)]]]
def r_law : VE.Row := ⟨"law", top 28, ["script"], ["script", "purse", "rows", "pockets"], ⟨1, [true], 4, b_law, .plain⟩, false⟩
def lams : List Str := ["most_unnamed", "_law_ahead_refused"]
def rows : List VE.Row := [r_check_most, r_check_each, r_check_pocket_bounds, r_check_pockets, r_unnamed_at, r_most_unnamed, r_law_purse, r_law_draw, r_law_matches, r_law_choose, r_law_pockets_told, r_law_drawn_pockets, r_law_cut_unnamed, r_law_best_cuts, r_law_ahead_right, r_law_long_right, r_law_ahead_refused, r_law]
def c_TooMany : CRow := ⟨"TooMany", "what", "TooMany.__init__", clsPart (top 2) 0, ["TooMany", "HandsError"]⟩
def c_BadPlan : CRow := ⟨"BadPlan", "what", "BadPlan.__init__", clsPart (top 3) 0, ["BadPlan", "HandsError"]⟩
def c_BadPocket : CRow := ⟨"BadPocket", "place", "BadPocket.__init__", clsPart (top 4) 0, ["BadPocket", "HandsError"]⟩
def crs : List CRow := [c_TooMany, c_BadPlan, c_BadPocket]
def gl : List (Str × GK) := [(("TooMany" : Str), GK.exc "what" ["TooMany", "HandsError"]), (("BadPlan" : Str), GK.exc "what" ["BadPlan", "HandsError"]), (("BadPocket" : Str), GK.exc "place" ["BadPocket", "HandsError"]), (("HandsError" : Str), GK.bas), (("check_most" : Str), GK.fn 0), (("check_each" : Str), GK.fn 1), (("check_pocket_bounds" : Str), GK.fn 2), (("check_pockets" : Str), GK.fn 3), (("unnamed_at" : Str), GK.fn 4), (("most_unnamed" : Str), GK.fn 5), (("_law_purse" : Str), GK.fn 6), (("_law_draw" : Str), GK.fn 7), (("_law_matches" : Str), GK.fn 8), (("_law_choose" : Str), GK.fn 9), (("_law_pockets_told" : Str), GK.tld 10), (("_law_drawn_pockets" : Str), GK.fn 11), (("_law_cut_unnamed" : Str), GK.fn 12), (("_law_best_cuts" : Str), GK.fn 13), (("_law_ahead_right" : Str), GK.fn 14), (("_law_long_right" : Str), GK.fn 15), (("_law_ahead_refused" : Str), GK.fn 16), (("law" : Str), GK.fn 17), (("NUMBERS" : Str), GK.cst (.int 1000000)), (("POCKETS" : Str), GK.cst (.int 10)), (("POCKET" : Str), GK.cst (.int 6))]
def bi : List Str := ["len", "range", "sum", "list", "max", "sorted", "min", "int", "abs", "isinstance", "str", "bool", "tuple"]
theorem gl_ok : glOk rows gl = true := by decide +kernel
theorem glx_ok : glX crs gl = true := by decide +kernel
theorem crs_ok : crs.all chkC = true := by decide +kernel
theorem crb_ok : AllCB crs := ⟨fun _ _ _ _ _ _ us hl => match us, hl with | [_, _], _ => rfl, fun _ _ _ _ _ _ us hl => match us, hl with | [_, _], _ => rfl, fun _ _ _ _ _ _ us hl => match us, hl with | [_, _], _ => rfl, trivial⟩
theorem nd_ok : (gl.map (·.1)).Nodup := by decide +kernel
theorem chk_ok : rows.all (chkR gl bi) = true := by decide +kernel
theorem bnd_ok : AllR BindOk rows := ⟨fun _ _ _ _ _ _ us hl => match us, hl with | [_, _, _], _ => rfl, fun _ _ _ _ _ _ us hl => match us, hl with | [_, _, _], _ => rfl, fun _ _ _ _ _ _ us hl => match us, hl with | [_], _ => rfl, fun _ _ _ _ _ _ us hl => match us, hl with | [_], _ => rfl, fun _ _ _ _ _ _ us hl => match us, hl with | [_, _], _ => rfl, fun _ _ _ _ _ _ us hl => match us, hl with | [_, _], _ => rfl, fun _ _ _ _ _ _ us hl => match us, hl with | [_, _], _ => rfl, fun _ _ _ _ _ _ us hl => match us, hl with | [_, _], _ => rfl, fun _ _ _ _ _ _ us hl => match us, hl with | [_, _], _ => rfl, fun _ _ _ _ _ _ us hl => match us, hl with | [_, _], _ => rfl, fun _ _ _ _ _ _ us hl => match us, hl with | [_], _ => rfl, fun _ _ _ _ _ _ us hl => match us, hl with | [_, _], _ => rfl, fun _ _ _ _ _ _ us hl => match us, hl with | [_, _], _ => rfl, fun _ _ _ _ _ _ us hl => match us, hl with | [_, _], _ => rfl, fun _ _ _ _ _ _ us hl => match us, hl with | [_], _ => rfl, fun _ _ _ _ _ _ us hl => match us, hl with | [_], _ => rfl, fun _ _ _ _ _ _ us hl => match us, hl with | [_, _], _ => rfl, fun _ _ _ _ _ _ us hl => match us, hl with | [_], _ => rfl, trivial⟩
end K14

end
section
set_option maxRecDepth 100000
set_option maxHeartbeats 2000000
namespace K14
open VE
/-! k14: the program's defs -/
theorem t_most : tabOf rows 0 = some dMost := rfl
theorem t_purse : tabOf rows 6 = some dPurse := rfl
theorem t_draw : tabOf rows 7 = some dDraw := rfl
theorem t_match : tabOf rows 8 = some (dMatch 8) := rfl
theorem t_choose : tabOf rows 9 = some dChooseL := rfl
theorem each_ok (k : Nat) {s : PySem.Str} {o : Fl} {A : List Int} {m : Int} : run (tabOf rows) (k + 1) 1 [.str s, li o A, .int m] = if (A.any fun x => decide (m < x)) = true then .ex ⟨"TooMany", "what"⟩ [.str s] [.str s, li o A, .int m] else .ok .non [.str s, li o A, .int m] := by
  rw [run_of (p := r_check_each.d) rfl rfl]
  have lp := fun Γx => loopS_findX (f := frF (run (tabOf rows) k) (.nm 3) [3] [.iff (.cmp .gt [.pk 3, .pk 2]) [.rse ⟨"TooMany", "what"⟩ [.var 0]] []]) (g := D.int) (Γ := [some (.str s), some Γx, some (.int m), none]) (b := fun x => decide (m < x)) (c := fun _ => ⟨"TooMany", "what"⟩) (d := fun _ => [.str s]) (G := fun x => [some (.str s), some Γx, some (.int m), some (.int x)]) (l := A) fun x _ => by
    by_cases h : m < x <;> simp -implicitDefEqProofs [frF, h]
  rw [← find_any]
  cases h : A.find? fun x => decide (m < x) with
  | some x =>
    rw [h] at lp
    cases o <;> simp -implicitDefEqProofs [r_check_each, b_check_each, enter, lp]
  | none =>
    rw [h] at lp
    cases o <;> simp -implicitDefEqProofs [r_check_each, b_check_each, enter, lp]
theorem bounds_many (k : Nat) {o : Fl} {P : List Int} (h : 10 < P.length) : run (tabOf rows) (k + 2) 2 [li o P] = .ex ⟨"TooMany", "what"⟩ [.str "pockets"] [li o P] := by
  rw [run_of (p := r_check_pocket_bounds.d) rfl rfl]
  have e := most_ex t_most k (s := "pockets") (a := P.length) (b := 10) (by omega)
  simp -implicitDefEqProofs [r_check_pocket_bounds, b_check_pocket_bounds, enter, e]
theorem bounds_great (k : Nat) {o : Fl} {P : List Int} (h : P.length ≤ 10) (h2 : ∃ x ∈ P, 6 < x) : run (tabOf rows) (k + 2) 2 [li o P] = .ex ⟨"TooMany", "what"⟩ [.str "pocket"] [li o P] := by
  rw [run_of (p := r_check_pocket_bounds.d) rfl rfl]
  have e := most_ok t_most k (s := "pockets") (a := P.length) (b := 10) (by omega)
  have e2 := each_ok k (s := "pocket") (o := o) (A := P) (m := 6)
  rw [if_pos (by
    obtain ⟨x, hx, h3⟩ := h2
    rw [List.any_eq_true]
    exact ⟨x, hx, by simpa using h3⟩)] at e2
  simp -implicitDefEqProofs [r_check_pocket_bounds, b_check_pocket_bounds, enter, e, e2]
theorem bounds_ok (k : Nat) {o : Fl} {P : List Int} (h : P.length ≤ 10) (h2 : ∀ x ∈ P, x ≤ 6) : run (tabOf rows) (k + 2) 2 [li o P] = .ok .non [li o P] := by
  rw [run_of (p := r_check_pocket_bounds.d) rfl rfl]
  have e := most_ok t_most k (s := "pockets") (a := P.length) (b := 10) (by omega)
  have e2 := each_ok k (s := "pocket") (o := o) (A := P) (m := 6)
  rw [if_neg (by
    rw [List.any_eq_true]
    rintro ⟨x, hx, h3⟩
    have := h2 x hx
    have : 6 < x := by simpa using h3
    omega)] at e2
  simp -implicitDefEqProofs [r_check_pocket_bounds, b_check_pocket_bounds, enter, e, e2]
theorem ix_vl {P : List Int} {i : Int} (h : 0 ≤ i) (h2 : i < P.length) : ixD (P.map .int) i = some (.int (vl P i)) := by
  obtain ⟨k, rfl⟩ : ∃ k : Nat, i = k := ⟨i.toNat, by omega⟩
  rw [q_ixP h, Int.toNat_natCast, vl_get (by omega), List.getElem?_map, List.getElem?_eq_getElem (by omega)]
  rfl
def pkB : List Stm := bodyAt b_check_pockets 0
theorem pk_turn (cf : CF) {o : Fl} {P : List Int} {k : Nat} (h : k < P.length) : frF cf (.nm 1) [1] pkB (.int k) [some (li o P), none] = if decide (vl P k < 0) = true then .ex ⟨"BadPocket", "place"⟩ [.int (k + 1)] [some (li o P), some (.int k)] else .nx [some (li o P), none] := by
  have e := ix_vl (P := P) (i := k) (by omega) (by omega)
  unfold li
  by_cases c : vl P k < 0 <;> simp -implicitDefEqProofs [frF, pkB, bodyAt, stmB, b_check_pockets, e, c]
theorem pockets_find (k : Nat) {o : Fl} {P : List Int} (hP : P.length ≤ 1000) : run (tabOf rows) (k + 1) 3 [li o P] = match (List.range P.length).find? (fun (i : Nat) => decide (vl P (i : Int) < 0)) with
    | some i => .ex ⟨"BadPocket", "place"⟩ [.int (i + 1)] [li o P]
    | none => if P = [] then .ex ⟨"BadPocket", "place"⟩ [.int 0] [li o P] else .ok .non [li o P] := by
  rw [run_of (p := r_check_pockets.d) rfl rfl]
  have lp := loopS_findX (f := frF (run (tabOf rows) k) (.nm 1) [1] pkB) (g := fun (i : Nat) => D.int i) (Γ := [some (li o P), none]) (b := fun i => decide (vl P i < 0)) (c := fun _ => ⟨"BadPocket", "place"⟩) (d := fun i => [.int (i + 1)]) (G := fun i => [some (li o P), some (.int i)]) (l := List.range P.length) fun i hi => pk_turn _ (List.mem_range.mp hi)
  rw [← rangeL_nat] at lp
  have eb : pkB = [.iff (.cmp .lt [.op .sub .idx [.pk 0, .pk 1], .cst (.int 0)]) [.rse ⟨"BadPocket", "place"⟩ [.op .bin .add [.pk 1, .cst (.int 1)]]] []] := rfl
  rw [eb] at lp
  have o1 : okRg (P.length : Int) = true := okRgI (by omega)
  cases h : (List.range P.length).find? (fun (i : Nat) => decide (vl P (i : Int) < 0)) with
  | some i =>
    rw [h] at lp
    simp -implicitDefEqProofs [r_check_pockets, b_check_pockets, enter, lp, o1]
  | none =>
    rw [h] at lp
    by_cases c : P = []
    · subst c
      have r0 : rangeL 0 0 = [] := rfl
      simp -implicitDefEqProofs [r_check_pockets, b_check_pockets, enter, r0]
    · have c2 : ¬ (P.length : Int) = 0 := by
        have := List.length_pos_iff.mpr c
        omega
      simp -implicitDefEqProofs [r_check_pockets, b_check_pockets, enter, lp, o1, c, c2]
/-- pockets as they may be -/
structure Good (P : List Int) : Prop where
  ne : P ≠ []
  few : P.length ≤ 10
  lo : ∀ x ∈ P, 0 ≤ x
  hi : ∀ x ∈ P, x ≤ 6
theorem vl_in {P : List Int} {i : Int} (h : 0 ≤ i) (h2 : i < P.length) : vl P i ∈ P := by
  obtain ⟨k, rfl⟩ : ∃ k : Nat, i = k := ⟨i.toNat, by omega⟩
  rw [vl_get (by omega)]
  exact List.getElem_mem _
theorem pockets_ok (k : Nat) {o : Fl} {P : List Int} (h : Good P) : run (tabOf rows) (k + 1) 3 [li o P] = .ok .non [li o P] := by
  have f := h.few
  rw [pockets_find k (by omega)]
  have e : (List.range P.length).find? (fun (i : Nat) => decide (vl P (i : Int) < 0)) = none := by
    rw [List.find?_eq_none]
    intro i hi
    have := h.lo _ (vl_in (P := P) (i := i) (by omega) (by rw [List.mem_range] at hi; omega))
    simp
    omega
  rw [e]
  exact if_neg h.ne
theorem pockets_nil (k : Nat) {o : Fl} : run (tabOf rows) (k + 1) 3 [li o []] = .ex ⟨"BadPocket", "place"⟩ [.int 0] [li o []] := by
  rw [pockets_find k (by simp)]
  rfl
theorem pockets_neg (k : Nat) {o : Fl} {A B : List Int} {x : Int} (hA : ∀ y ∈ A, 0 ≤ y) (hx : x < 0) (hl : (A ++ x :: B).length ≤ 1000) : run (tabOf rows) (k + 1) 3 [li o (A ++ x :: B)] = .ex ⟨"BadPocket", "place"⟩ [.int (A.length + 1)] [li o (A ++ x :: B)] := by
  rw [pockets_find k hl]
  have e : (List.range (A ++ x :: B).length).find? (fun (i : Nat) => decide (vl (A ++ x :: B) (i : Int) < 0)) = some A.length := by
    rw [List.find?_range_eq_some]
    have hv : ∀ i : Nat, i ≤ A.length → vl (A ++ x :: B) i = (A ++ [x]).getD i 0 := fun i hi => by
      unfold vl
      rw [Int.toNat_natCast, List.getD_eq_getElem?_getD, List.getD_eq_getElem?_getD, show A ++ x :: B = (A ++ [x]) ++ B by simp, List.getElem?_append_left (by simp; omega)]
    refine ⟨?_, by simp, fun j hj => ?_⟩
    · rw [hv _ (Nat.le_refl _)]
      simpa using hx
    · rw [hv _ (by omega), List.getD_eq_getElem?_getD, List.getElem?_append_left hj, List.getElem?_eq_getElem hj]
      have := hA _ (List.getElem_mem hj)
      simpa using this
  rw [e]
end K14

end
section
set_option maxRecDepth 100000
set_option maxHeartbeats 2000000
namespace K14
open VE
/-! k14: what is missing at cuts -/
theorem cut_sl {P : List Int} {a b : Int} (ha : 0 ≤ a) (hb : 0 ≤ b) (h : b ≤ P.length) (h2 : a ≤ P.length) : cutD (P.map D.int) (some a) (some b) = (sl P a b).map D.int := by
  unfold cutD cutI sl
  dsimp only
  rw [if_pos ha, if_pos hb, List.length_map, Nat.min_eq_left (by omega), Nat.min_eq_left (by omega), List.map_take, List.map_drop]
theorem max_ints {o : Fl} {L : List Int} (h : L ≠ []) : maxF (.lst o (L.map D.int)) = some (.int (mx L)) := by
  show (ints? (L.map D.int)).bind maxO = _
  rw [q_ints_ints]
  cases L with
  | nil => exact absurd rfl h
  | cons x L => rfl
def uaB : List Stm := bodyAt b_unnamed_at 4
theorem ua_loop (cf : CF) {o : Fl} {P : List Int} (hP : P.length ≤ 1000) {C : D} : ∀ (cs : List Int) (l t : Int), 0 ≤ l → l ≤ P.length → ∃ G, loopS (frF cf (.nm 4) [4] uaB) (cs.map .int) [some (li o P), some C, some (.int l), some (.int t), none] =
    (if okC P.length l cs = true then S.nx (some (li o P) :: some C :: G) else S.ex ⟨"BadPlan", "what"⟩ [.str "cuts"] (some (li o P) :: some C :: G))
      ∧ (okC P.length l cs = true → ∃ l', G = [some (.int l'), some (.int (t - sm P l cs)), none])
  | [], l, t, _, _ => ⟨_, rfl, fun _ => ⟨l, by simp [sm]⟩⟩
  | c :: cs, l, t, h0, h1 => by
    rw [List.map_cons]
    by_cases c1 : l < c
    · by_cases c2 : c ≤ P.length
      · have e : frF cf (.nm 4) [4] uaB (.int c) [some (li o P), some C, some (.int l), some (.int t), none] = .nx [some (li o P), some C, some (.int c), some (.int (t - mx (sl P l c))), none] := by
          have e1 := cut_sl (P := P) h0 (show 0 ≤ c by omega) c2 h1
          have e2 := max_ints (o := .own) (sl_ne (P := P) h0 c1 c2)
          unfold li
          simp -implicitDefEqProofs [frF, uaB, bodyAt, stmB, b_unnamed_at, c1, c2, e1, e2]
        obtain ⟨G, h, h'⟩ := ua_loop cf (o := o) hP (C := C) cs c (t - mx (sl P l c)) (by omega) c2
        refine ⟨G, ?_, fun g => ?_⟩
        · rw [loopS_cons e, h]
          have : okC P.length l (c :: cs) = okC P.length c cs := by
            show (decide (l < c) && decide (c ≤ (P.length : Int)) && okC P.length c cs) = _
            rw [decide_eq_true c1, decide_eq_true c2]
            rfl
          rw [this]
        · obtain ⟨_, _, g⟩ := okC_cons.mp g
          obtain ⟨l', hl⟩ := h' g
          refine ⟨l', ?_⟩
          rw [hl]
          show _ = [some (D.int l'), some (.int (t - (mx (sl P l c) + sm P c cs))), none]
          rw [show t - mx (sl P l c) - sm P c cs = t - (mx (sl P l c) + sm P c cs) by omega]
      · have e : frF cf (.nm 4) [4] uaB (.int c) [some (li o P), some C, some (.int l), some (.int t), none] = .ex ⟨"BadPlan", "what"⟩ [.str "cuts"] [some (li o P), some C, some (.int l), some (.int t), some (.int c)] := by
          simp -implicitDefEqProofs [frF, uaB, bodyAt, stmB, b_unnamed_at, c1, c2]
        refine ⟨[some (.int l), some (.int t), some (.int c)], ?_, fun g => absurd (okC_cons.mp g).2.1 c2⟩
        rw [q_loopS1, e, if_neg (fun g => absurd (okC_cons.mp g).2.1 c2)]
        rfl
    · have e : frF cf (.nm 4) [4] uaB (.int c) [some (li o P), some C, some (.int l), some (.int t), none] = .ex ⟨"BadPlan", "what"⟩ [.str "cuts"] [some (li o P), some C, some (.int l), some (.int t), some (.int c)] := by
        simp -implicitDefEqProofs [frF, uaB, bodyAt, stmB, b_unnamed_at, c1]
      refine ⟨[some (.int l), some (.int t), some (.int c)], ?_, fun g => absurd (okC_cons.mp g).1 c1⟩
      rw [q_loopS1, e, if_neg (fun g => absurd (okC_cons.mp g).1 c1)]
      rfl
/-- what may be missing at cuts -/
def un (P cs : List Int) : Int := P.sum - sm P 0 (cs ++ [(P.length : Int)])
theorem unnamed_good (k : Nat) {o p : Fl} {P cs : List Int} (h : Good P) (hc : cs.length ≤ 1000) : run (tabOf rows) (k + 3) 4 [li o P, li p cs] = if okC P.length 0 (cs ++ [(P.length : Int)]) = true then .ok (.int (un P cs)) [li o P, li p cs] else .ex ⟨"BadPlan", "what"⟩ [.str "cuts"] [li o P, li p cs] := by
  rw [run_of (p := r_unnamed_at.d) rfl rfl]
  have f := h.few
  have e1 := bounds_ok k (o := o) f h.hi
  have e2 := pockets_ok (k + 1) (o := o) h
  obtain ⟨G, lp, g⟩ := ua_loop (run (tabOf rows) (k + 2)) (o := o) (P := P) (by omega) (C := li p cs) (cs ++ [(P.length : Int)]) 0 P.sum (Int.le_refl _) (by omega)
  have eb : uaB = [.iff (.not (.chn .lt .le [.pk 2, .pk 4] (.op .call .len [.pk 0]))) [.rse ⟨"BadPlan", "what"⟩ [.cst (.str "cuts")]] [], .asg (.nm 3) (.op .bin .sub [.pk 3, .op .call .max [.op .cut .cut [.pk 0, .pk 2, .pk 4]]]), .asg (.nm 2) (.var 4)] := rfl
  rw [eb] at lp
  have l1 : cs.length + 1 ≤ line := by unfold line; omega
  have hm : (cs ++ [(P.length : Int)]).map D.int = cs.map D.int ++ [D.int P.length] := by simp
  rw [hm] at lp
  have w : frzL (cs.map D.int ++ [D.int P.length]) = cs.map D.int ++ [D.int P.length] := by
    rw [← hm, q_frz_ints]
  have sP : sumF (li o P) = some (.int P.sum) := by unfold li; simp
  have aL : addF (li .own cs) (.lst .own [.int P.length]) = some (.lst .own (cs.map D.int ++ [D.int P.length])) := by
    unfold li
    simp [l1]
  by_cases c : okC P.length 0 (cs ++ [(P.length : Int)]) = true
  · obtain ⟨l', rfl⟩ := g c
    rw [if_pos c] at lp ⊢
    unfold un
    simp -implicitDefEqProofs [r_unnamed_at, b_unnamed_at, enter, e1, e2, lp, w, sP, aL]
  · rw [if_neg c] at lp ⊢
    simp -implicitDefEqProofs [r_unnamed_at, b_unnamed_at, enter, e1, e2, lp, w, sP, aL]
/-- errors come ahead -/
theorem unnamed_many (k : Nat) {o p : Fl} {P : List Int} {C : D} (h : 10 < P.length) : run (tabOf rows) (k + 3) 4 [li o P, C] = .ex ⟨"TooMany", "what"⟩ [.str "pockets"] [li o P, C] := by
  rw [run_of (p := r_unnamed_at.d) rfl rfl]
  have e1 := bounds_many k (o := o) h
  simp -implicitDefEqProofs [r_unnamed_at, b_unnamed_at, enter, e1]
theorem unnamed_great (k : Nat) {o p : Fl} {P : List Int} {C : D} (h : P.length ≤ 10) (h2 : ∃ x ∈ P, 6 < x) : run (tabOf rows) (k + 3) 4 [li o P, C] = .ex ⟨"TooMany", "what"⟩ [.str "pocket"] [li o P, C] := by
  rw [run_of (p := r_unnamed_at.d) rfl rfl]
  have e1 := bounds_great k (o := o) h h2
  simp -implicitDefEqProofs [r_unnamed_at, b_unnamed_at, enter, e1]
theorem unnamed_place (k : Nat) {o p : Fl} {P : List Int} {C : D} {i : Int} (h : P.length ≤ 10) (h2 : ∀ x ∈ P, x ≤ 6) (h3 : run (tabOf rows) (k + 2) 3 [li o P] = .ex ⟨"BadPocket", "place"⟩ [.int i] [li o P]) : run (tabOf rows) (k + 3) 4 [li o P, C] = .ex ⟨"BadPocket", "place"⟩ [.int i] [li o P, C] := by
  rw [run_of (p := r_unnamed_at.d) rfl rfl]
  have e1 := bounds_ok k (o := o) h h2
  simp -implicitDefEqProofs [r_unnamed_at, b_unnamed_at, enter, e1, h3]
end K14

end
section
set_option maxRecDepth 100000
set_option maxHeartbeats 2000000
namespace K14
open VE
/-! k14: the most that may be missing -/
theorem most_many (k : Nat) {o : Fl} {P : List Int} {c : Int} (hc : c ≤ 1000000) (h : 10 < P.length) : run (tabOf rows) (k + 3) 5 [li o P, .int c] = .ex ⟨"TooMany", "what"⟩ [.str "pockets"] [li o P, .int c] := by
  rw [run_of (p := r_most_unnamed.d) rfl rfl]
  have e0 := most_ok t_most (k + 1) (s := "numbers") hc
  have e1 := bounds_many k (o := o) h
  simp -implicitDefEqProofs [r_most_unnamed, b_most_unnamed, enter, e0, e1]
theorem most_great (k : Nat) {o : Fl} {P : List Int} {c : Int} (hc : c ≤ 1000000) (h : P.length ≤ 10) (h2 : ∃ x ∈ P, 6 < x) : run (tabOf rows) (k + 3) 5 [li o P, .int c] = .ex ⟨"TooMany", "what"⟩ [.str "pocket"] [li o P, .int c] := by
  rw [run_of (p := r_most_unnamed.d) rfl rfl]
  have e0 := most_ok t_most (k + 1) (s := "numbers") hc
  have e1 := bounds_great k (o := o) h h2
  simp -implicitDefEqProofs [r_most_unnamed, b_most_unnamed, enter, e0, e1]
theorem most_place (k : Nat) {o : Fl} {P : List Int} {c i : Int} (hc : c ≤ 1000000) (h : P.length ≤ 10) (h2 : ∀ x ∈ P, x ≤ 6) (h3 : run (tabOf rows) (k + 2) 3 [li o P] = .ex ⟨"BadPocket", "place"⟩ [.int i] [li o P]) : run (tabOf rows) (k + 3) 5 [li o P, .int c] = .ex ⟨"BadPocket", "place"⟩ [.int i] [li o P, .int c] := by
  rw [run_of (p := r_most_unnamed.d) rfl rfl]
  have e0 := most_ok t_most (k + 1) (s := "numbers") hc
  have e1 := bounds_ok k (o := o) h h2
  simp -implicitDefEqProofs [r_most_unnamed, b_most_unnamed, enter, e0, e1, h3]
theorem most_numbers (k : Nat) {o : Fl} {P : List Int} {c : Int} (hc : 1000000 < c) : run (tabOf rows) (k + 3) 5 [li o P, .int c] = .ex ⟨"TooMany", "what"⟩ [.str "numbers"] [li o P, .int c] := by
  rw [run_of (p := r_most_unnamed.d) rfl rfl]
  have e0 := most_ex t_most (k + 1) (s := "numbers") hc
  simp -implicitDefEqProofs [r_most_unnamed, b_most_unnamed, enter, e0]
theorem most_neg (k : Nat) {o : Fl} {P : List Int} {c : Int} (hc : c < 0) (h : Good P) : run (tabOf rows) (k + 3) 5 [li o P, .int c] = .ex ⟨"BadPlan", "what"⟩ [.str "numbers"] [li o P, .int c] := by
  rw [run_of (p := r_most_unnamed.d) rfl rfl]
  have e0 := most_ok t_most (k + 1) (s := "numbers") (a := c) (b := 1000000) (by omega)
  have e1 := bounds_ok k (o := o) h.few h.hi
  have e2 := pockets_ok (k + 1) (o := o) h
  simp -implicitDefEqProofs [r_most_unnamed, b_most_unnamed, enter, e0, e1, e2, hc]
theorem sortK_e {cf : CF} {Γ Γ1 : En} {j : Nat} {e : Ex} {o : Fl} {P A : List Int} (h : evE cf e Γ = .ok (.lst .own (A.map .int)) Γ1) (g : gt Γ1 j = some (li o P)) (hA : ∀ i ∈ A, 0 ≤ i ∧ i < P.length) : evE cf (.sortK j e) Γ = .ok (li .own (sortK P A)) Γ1 := by
  show kSortK j (evE cf e Γ) = _
  rw [h]
  unfold kSortK
  rw [q_bind_ok, g]
  unfold li
  dsimp only
  rw [q_ints_ints, q_ints_ints]
  dsimp only
  refine if_pos ?_
  rw [List.all_eq_true]
  intro i hi
  have := hA i hi
  simp [this.1, this.2]
theorem pls_D (n : Nat) : rangeL 0 n = (pls n).map D.int := by
  rw [rangeL_nat]
  unfold pls
  rw [List.map_map]
  rfl
theorem cutR_li {L : List Int} {o : Fl} {m : Int} (h : 0 ≤ m) : cutF (li o L) none (some m) = some (li .own (L.take m.toNat)) := by
  unfold li
  rw [q_cutF, q_dup_ints, q_guardT]
  unfold cutD cutI
  dsimp only
  rw [if_pos h, List.length_map]
  simp [List.map_take]
theorem cutL_li {L : List Int} {o : Fl} {m : Int} (h : 0 ≤ m) : cutF (li o L) (some m) none = some (li .own (L.drop m.toNat)) := by
  unfold li
  rw [q_cutF, q_dup_ints, q_guardT]
  unfold cutD cutI
  dsimp only
  rw [if_pos h, List.length_map]
  rw [List.take_of_length_le (by rw [List.length_drop, List.length_map]; omega), ]
  suffices this : L.drop (min m.toNat L.length) = L.drop m.toNat by rw [← List.map_drop, this, List.map_drop]
  by_cases c : m.toNat ≤ L.length
  · rw [Nat.min_eq_left c]
  · rw [Nat.min_eq_right (by omega), List.drop_eq_nil_of_le (Nat.le_refl _), List.drop_eq_nil_of_le (by omega)]
theorem most_good (k : Nat) {o : Fl} {P : List Int} {c : Int} (h0 : 0 ≤ c) (hc : c ≤ 1000000) (h : Good P) {m : Nat} (hm : (m : Int) = min c (P.length - 1)) : run (tabOf rows) (k + 3) 5 [li o P, .int c] = .ok (.tup [.int (bw P m), li .own (bst P m)]) [li o P, .int c] := by
  rw [run_of (p := r_most_unnamed.d) rfl rfl]
  have f := h.few
  have ln : 0 < P.length := List.length_pos_iff.mpr h.ne
  have e0 := most_ok t_most (k + 1) (s := "numbers") hc
  have e1 := bounds_ok k (o := o) f h.hi
  have e2 := pockets_ok (k + 1) (o := o) h
  have n0 : ¬ c < 0 := by omega
  have em : (if (P.length : Int) - 1 < c then (P.length : Int) - 1 else c) = m := by
    rw [hm]
    split <;> omega
  have o1 : okRg (P.length : Int) = true := okRgI (by omega)
  have sP : sumF (li o P) = some (.int P.sum) := by unfold li; simp
  have es : ∀ Γ : En, gt Γ 0 = some (li o P) → evE (run (tabOf rows) (k + 2)) (.sortK 0 (.op .lrg .range1 [.op .call .len [.pk 0]])) Γ = .ok (li .own (od P)) Γ := fun Γ g => by
    refine sortK_e (A := pls P.length) ?_ g fun i hi => pls_mem.mp hi
    rw [← pls_D]
    rw [q_gt] at g
    simp -implicitDefEqProofs [g, o1]
  have eg := cutR_li (L := od P) (o := .own) (m := (m : Int) + 1) (by omega)
  rw [show ((m : Int) + 1).toNat = m + 1 by omega] at eg
  have lc : ∀ Q : D, loopC (lcF (run (tabOf rows) (k + 2)) [5] (.nm 5) .yes (.op .sub .idx [.pk 0, .pk 5])) ((grt P (m + 1)).map .int) [some (li o P), some (.int c), some (.int ((m : Int) + 1)), some (li .own (od P)), some Q, none] = .ok (((grt P (m + 1)).map (vl P)).map .int) [some (li o P), some (.int c), some (.int ((m : Int) + 1)), some (li .own (od P)), some Q, none] := fun Q => by
    have := loopC_keep (f := lcF (run (tabOf rows) (k + 2)) [5] (.nm 5) .yes (.op .sub .idx [.pk 0, .pk 5])) (g := D.int) (h := fun p => D.int (vl P p)) (b := fun _ => true) (l := grt P (m + 1)) (Γ := [some (li o P), some (.int c), some (.int ((m : Int) + 1)), some (li .own (od P)), some Q, none]) fun p hp => by
      have hp := od_mem.mp (List.mem_of_mem_take (((grt_facts P (m + 1)).2.1 p).mp hp))
      have := ix_vl hp.1 hp.2
      unfold li
      simp -implicitDefEqProofs [this]
    rw [this, List.filter_eq_self.mpr fun _ _ => rfl, List.map_map]
    rfl
  have l1 : ((grt P (m + 1)).map (vl P)).length ≤ line := by
    rw [List.length_map, (grt_facts P (m + 1)).2.2]
    unfold line
    omega
  have eL := cutL_li (L := grt P (m + 1)) (o := .own) (m := 1) (by omega)
  have sg : sumF (.lst .own (((grt P (m + 1)).map (vl P)).map .int)) = some (.int ((grt P (m + 1)).map (vl P)).sum) := by
    rw [q_sumF, q_ints_ints]
    rfl
  have ed : (grt P (m + 1)).drop (1 : Int).toNat = bst P m := rfl
  rw [ed] at eL
  have ew : P.sum - ((grt P (m + 1)).map (vl P)).sum = bw P m := rfl
  have so : sortI ((od P).take (m + 1)) = grt P (m + 1) := rfl
  generalize hg : (grt P (m + 1)).map (vl P) = V at *
  simp -implicitDefEqProofs [r_most_unnamed, b_most_unnamed, enter, e0, e1, e2, n0, em, es, sP, eg, so, lc, l1, eL, sg, ew]
end K14

end
section
set_option maxRecDepth 100000
set_option maxHeartbeats 2000000
namespace K14
open VE
/-! k14: the law's own sums and cuts -/
/-- the ends of the stretches -/
theorem su_take (P : List Int) : ∀ (cs : List Int) (l : Int) (i : Nat) {a b : Int}, (l :: cs)[i]? = some a → cs[i]? = some b → su P l (cs.take (i + 1)) = su P l (cs.take i) + (sl P a b).sum ∧ sm P l (cs.take (i + 1)) = sm P l (cs.take i) + mx (sl P a b)
  | [], l, i, a, b, _, h => by simp at h
  | c :: cs, l, 0, a, b, h1, h2 => by
    rw [List.getElem?_cons_zero] at h1 h2
    cases h1
    cases h2
    rw [List.take_succ_cons, List.take_zero, List.take_zero]
    show (sl P l c).sum + su P c [] = 0 + (sl P l c).sum ∧ mx (sl P l c) + sm P c [] = 0 + mx (sl P l c)
    show (sl P l c).sum + 0 = 0 + (sl P l c).sum ∧ mx (sl P l c) + 0 = 0 + mx (sl P l c)
    omega
  | c :: cs, l, i + 1, a, b, h1, h2 => by
    rw [List.getElem?_cons_succ] at h1 h2
    obtain ⟨i1, i2⟩ := su_take P cs c i h1 h2
    rw [List.take_succ_cons, List.take_succ_cons]
    show (sl P l c).sum + su P c (cs.take (i + 1)) = (sl P l c).sum + su P c (cs.take i) + (sl P a b).sum ∧ mx (sl P l c) + sm P c (cs.take (i + 1)) = mx (sl P l c) + sm P c (cs.take i) + mx (sl P a b)
    omega
theorem okC_at {n : Int} : ∀ {cs : List Int} {l : Int} {i : Nat} {a b : Int}, okC n l cs = true → (l :: cs)[i]? = some a → cs[i]? = some b → l ≤ a ∧ a < b ∧ b ≤ n
  | [], l, i, a, b, _, _, h => by simp at h
  | c :: cs, l, 0, a, b, h, h1, h2 => by
    rw [List.getElem?_cons_zero] at h1 h2
    cases h1
    cases h2
    obtain ⟨g1, g2, _⟩ := okC_cons.mp h
    omega
  | c :: cs, l, i + 1, a, b, h, h1, h2 => by
    rw [List.getElem?_cons_succ] at h1 h2
    obtain ⟨g1, g2, g3⟩ := okC_cons.mp h
    have := okC_at g3 h1 h2
    omega
def cuB : List Stm := bodyAt b_law_cut_unnamed 2
theorem cu_turn (cf : CF) {o : Fl} {P E : List Int} {C : D} {at_ : Nat} {a b f : Int} (ha : E[at_]? = some a) (hb : E[at_ + 1]? = some b) (h0 : 0 ≤ a) (h1 : a < b) (h2 : b ≤ P.length) :
    frF cf (.nm 4) [4, 5] cuB (.int (1 + (at_ : Int))) [some (li o P), some C, some (li .own E), some (.int f), none, none] = .nx [some (li o P), some C, some (li .own E), some (.int (f + ((sl P a b).sum - mx (sl P a b)))), none, none] := by
  have i1 : ixD (E.map D.int) (1 + (at_ : Int) - 1) = some (.int a) := by
    rw [show 1 + (at_ : Int) - 1 = at_ by omega, q_ixP (by omega), Int.toNat_natCast, List.getElem?_map, ha]
    rfl
  have i2 : ixD (E.map D.int) (1 + (at_ : Int)) = some (.int b) := by
    rw [q_ixP (by omega), show (1 + (at_ : Int)).toNat = at_ + 1 by omega, List.getElem?_map, hb]
    rfl
  have e1 := cut_sl (P := P) h0 (show 0 ≤ b by omega) h2 (by omega)
  have e2 := max_ints (o := .own) (sl_ne (P := P) h0 h1 h2)
  unfold li
  simp -implicitDefEqProofs [frF, cuB, bodyAt, stmB, b_law_cut_unnamed, i1, i2, e1, e2]
theorem cut_ok (k : Nat) {o p : Fl} {P cs : List Int} (hP : P.length ≤ 1000) (hc : cs.length ≤ 1000) (h : okC P.length 0 (cs ++ [(P.length : Int)]) = true) : run (tabOf rows) (k + 1) 12 [li o P, li p cs] = .ok (.int (un P cs)) [li o P, li p cs] := by
  rw [run_of (p := r_law_cut_unnamed.d) rfl rfl]
  have hsu := su_all P cs 0 (Int.le_refl _) (by omega) h
  obtain ⟨ds, hds⟩ : ∃ ds, ds = cs ++ [(P.length : Int)] := ⟨_, rfl⟩
  have hdl : ds.length = cs.length + 1 := by rw [hds]; simp
  have lp := loop_range (f := frF (run (tabOf rows) k) (.nm 4) [4, 5] cuB) (lo := 1) (hi := ((ds.length + 1 : Nat) : Int)) (fun i => [some (li o P), some (li p cs), some (li .own (0 :: ds)), some (.int (su P 0 (ds.take i) - sm P 0 (ds.take i))), none, none]) fun i hi => by
    have hi : i < ds.length := by omega
    have g1 : (0 :: ds)[i]? = some ((0 :: ds)[i]'(by simp; omega)) := List.getElem?_eq_getElem _
    have g2 : ds[i]? = some ds[i] := List.getElem?_eq_getElem hi
    generalize (0 :: ds)[i]'(by simp; omega) = a at g1
    generalize ds[i] = b at g2
    rw [← hds] at h
    obtain ⟨k1, k2, k3⟩ := okC_at h g1 g2
    obtain ⟨s1, s2⟩ := su_take P ds 0 i g1 g2
    rw [cu_turn (run (tabOf rows) k) (E := 0 :: ds) g1 (by rw [List.getElem?_cons_succ]; exact g2) k1 k2 k3, s1, s2]
    have : ∀ x y u v : Int, x - y + (u - v) = x + u - (y + v) := fun x y u v => by omega
    rw [this]
  rw [show (((ds.length + 1 : Nat) : Int) - 1).toNat = ds.length by omega, List.take_length] at lp
  have e0 : su P 0 (ds.take 0) - sm P 0 (ds.take 0) = 0 := rfl
  rw [e0] at lp
  have l1 : cs.length + 1 ≤ line := by unfold line; omega
  have l2 : cs.length + 1 + 1 ≤ line := by unfold line; omega
  have a1 : addF (.lst .own [.int 0]) (li p cs) = some (li .own (0 :: cs)) := by
    unfold li
    rw [q_addL, q_dup_ints]
    have : [D.int 0].length + (cs.map D.int).length ≤ line := by simp; omega
    rw [decide_eq_true this]
    rfl
  have a2 : addF (li .own (0 :: cs)) (.lst .own [.int P.length]) = some (li .own (0 :: ds)) := by
    unfold li
    rw [q_addL, q_dup_ints, hds]
    have : ((0 :: cs).map D.int).length + [D.int P.length].length ≤ line := by simp; omega
    rw [decide_eq_true this]
    simp
  have eb : cuB = [.asg (.nm 5) (.op .cut .cut [.pk 0, .op .sub .idx [.pk 2, .op .bin .sub [.pk 4, .cst (.int 1)]], .op .sub .idx [.pk 2, .pk 4]]), .aug 3 .add (.op .bin .sub [.op .call .sum [.pk 5], .op .call .max [.pk 5]])] := rfl
  rw [eb] at lp
  have o1 : okRg ((ds.length + 1 : Nat) : Int) = true := okRgI (by omega)
  have ll : (0 :: ds).length = ds.length + 1 := rfl
  have ef : su P 0 ds - sm P 0 ds = un P cs := by
    unfold un
    rw [hds, hsu]
    rfl
  rw [ef] at lp
  have hle : lenF (li .own (0 :: ds)) = some (.int ((ds.length + 1 : Nat) : Int)) := by rw [len_li]; rfl
  generalize ((ds.length + 1 : Nat) : Int) = N at *
  generalize (0 :: ds) = E at *
  simp -implicitDefEqProofs [r_law_cut_unnamed, b_law_cut_unnamed, enter, a1, a2, hle, o1, lp]
def bcB : List Stm := bodyAt b_law_best_cuts 1
theorem bc_turn (cf : CF) {o : Fl} {P : List Int} (hP : P.length ≤ 1000) {M : D} {t : Nat} (ht : t < P.length) : frF cf (.nm 3) [3, 4, 5] bcB (.int t) [some (li o P), some M, some (li .own ((od P).take t)), none, none, none, none] = .nx [some (li o P), some M, some (li .own ((od P).take (t + 1))), none, none, none, none] := by
  obtain ⟨w, w1, w2, w3, r, w4⟩ := lft_step ht
  have o1 : okRg (P.length : Int) = true := okRgI (by omega)
  have lf : ∀ x ∈ lft P t, 0 ≤ x ∧ x < P.length := fun x hx => od_mem.mp (List.mem_of_mem_drop (lft_mem.mp hx))
  have ll : (lft P t).length ≤ line := by
    have := List.length_filter_le (fun p => !decide (p ∈ (od P).take t)) (pls P.length)
    rw [pls_len] at this
    unfold lft line
    omega
  have c1 : loopC (lcF cf [6] (.nm 6) (.cmp .nmem [.pk 6, .pk 2]) (.var 6)) ((pls P.length).map .int) [some (li o P), some M, some (li .own ((od P).take t)), some (.int t), none, none, none] = .ok ((lft P t).map .int) [some (li o P), some M, some (li .own ((od P).take t)), some (.int t), none, none, none] :=
    loopC_keep (g := D.int) (h := D.int) (b := fun p => !decide (p ∈ (od P).take t)) fun x _ => by
      by_cases h : x ∈ (od P).take t <;> simp -implicitDefEqProofs [h]
  have c2 : ∀ q : Fl, loopC (lcF cf [6] (.nm 6) .yes (.op .sub .idx [.pk 0, .pk 6])) ((lft P t).map .int) [some (li o P), some M, some (li .own ((od P).take t)), some (.int t), some (.lst q ((lft P t).map .int)), none, none] = .ok (((lft P t).map (vl P)).map .int) [some (li o P), some M, some (li .own ((od P).take t)), some (.int t), some (.lst q ((lft P t).map .int)), none, none] := fun q => by
    have := loopC_keep (f := lcF cf [6] (.nm 6) .yes (.op .sub .idx [.pk 0, .pk 6])) (g := D.int) (h := fun p => D.int (vl P p)) (b := fun _ => true) (l := lft P t) (Γ := [some (li o P), some M, some (li .own ((od P).take t)), some (.int t), some (.lst q ((lft P t).map .int)), none, none]) fun x hx => by
      have := ix_vl (lf x hx).1 (lf x hx).2
      unfold li
      simp -implicitDefEqProofs [this]
    rw [this, List.filter_eq_self.mpr fun _ _ => rfl, List.map_map]
    rfl
  have c3 : ∀ q : Fl, loopC (lcF cf [6] (.nm 6) (.cmp .eq [.op .sub .idx [.pk 0, .pk 6], .pk 5]) (.var 6)) ((lft P t).map .int) [some (li o P), some M, some (li .own ((od P).take t)), some (.int t), some (.lst q ((lft P t).map .int)), some (.int (vl P w)), none] = .ok (.int w :: r.map .int) [some (li o P), some M, some (li .own ((od P).take t)), some (.int t), some (.lst q ((lft P t).map .int)), some (.int (vl P w)), none] := fun q => by
    have := loopC_keep (f := lcF cf [6] (.nm 6) (.cmp .eq [.op .sub .idx [.pk 0, .pk 6], .pk 5]) (.var 6)) (g := D.int) (h := D.int) (b := fun p => decide (vl P p = vl P w)) (l := lft P t) (Γ := [some (li o P), some M, some (li .own ((od P).take t)), some (.int t), some (.lst q ((lft P t).map .int)), some (.int (vl P w)), none]) fun x hx => by
      have := ix_vl (lf x hx).1 (lf x hx).2
      unfold li
      by_cases c : vl P x = vl P w <;> simp -implicitDefEqProofs [this, c]
    rw [this, w4]
    rfl
  have m1 := max_ints (o := .own) (L := (lft P t).map (vl P)) (by simpa using w2)
  rw [w3] at m1
  have l2 : ((lft P t).map (vl P)).length ≤ line := by rw [List.length_map]; exact ll
  have l3 : r.length + 1 ≤ line := by
    have := List.length_filter_le (fun p => decide (vl P p = vl P w)) (lft P t)
    rw [w4] at this
    simp at this
    omega
  have tk : (od P).take (t + 1) = (od P).take t ++ [w] := by
    rw [List.take_succ, w1]
    rfl
  have l4 : ((od P).take t).length < line := by
    have : (od P).length = P.length := od_len P
    rw [List.length_take]
    unfold line
    omega
  have ap := fun Γ : En => app_li Γ 2 w ((od P).take t)
  rw [tk]
  generalize (od P).take t = T at *
  generalize hV : (lft P t).map (vl P) = V at *
  have r0 := pls_D P.length
  have wl : walk? (.lst .own ((lft P t).map .int)) = some ((lft P t).map .int) := by simp
  simp -implicitDefEqProofs [frF, bcB, bodyAt, stmB, b_law_best_cuts, o1, r0, c1, c2 .own, c2 .lent, c3 .own, c3 .lent, ll, l2, l3, m1, ap, l4]
theorem best_ok (k : Nat) {o : Fl} {P : List Int} (hP : P.length ≤ 1000) {m : Nat} (hm : m < P.length) : run (tabOf rows) (k + 1) 13 [li o P, .int m] = .ok (li .own (bst P m)) [li o P, .int m] := by
  rw [run_of (p := r_law_best_cuts.d) rfl rfl]
  have lp := loop_upto (f := frF (run (tabOf rows) k) (.nm 3) [3, 4, 5] bcB) (hi := (m : Int) + 1) (m + 1) (fun t => [some (li o P), some (.int m), some (li .own ((od P).take t)), none, none, none, none]) (by omega) rfl fun t ht => bc_turn (run (tabOf rows) k) (o := o) hP (M := .int m) (by omega)
  have eb : bcB = [.asg (.nm 4) (.lc [6] (.nm 6) (.rng1 (.op .call .len [.pk 0])) (.cmp .nmem [.pk 6, .pk 2]) (.var 6)), .asg (.nm 5) (.op .call .max [.lc [6] (.nm 6) (.seq (.pk 4)) (.yes) (.op .sub .idx [.pk 0, .pk 6])]), .app 2 (.op .sub .idx [.lc [6] (.nm 6) (.seq (.pk 4)) (.cmp .eq [.op .sub .idx [.pk 0, .pk 6], .pk 5]) (.var 6), .cst (.int 0)])] := rfl
  have e0 : li .own ((od P).take 0) = .lst .own [] := rfl
  rw [eb, e0] at lp
  have o1 : okRg ((m : Int) + 1) = true := okRgI (by omega)
  have eL := cutL_li (L := grt P (m + 1)) (o := .own) (m := 1) (by omega)
  have ed : (grt P (m + 1)).drop (1 : Int).toNat = bst P m := rfl
  rw [ed] at eL
  have so : sortI ((od P).take (m + 1)) = grt P (m + 1) := rfl
  simp -implicitDefEqProofs [r_law_best_cuts, b_law_best_cuts, enter, o1, lp, so, eL]
end K14

end
section
set_option maxRecDepth 100000
set_option maxHeartbeats 2000000
namespace K14
open VE
/-! k14: _law_ahead_right -/
/-- the gaps -/
def gps (P : List Int) : List Int := (List.range ((P.length : Int) - 1).toNat).map fun (k : Nat) => (1 : Int) + (k : Int)
theorem gps_D (P : List Int) : rangeL 1 P.length = (gps P).map D.int := by
  unfold rangeL gps
  rw [List.map_map]
  rfl
theorem gps_len (P : List Int) : (gps P).length = P.length - 1 := by
  unfold gps
  rw [List.length_map, List.length_range]
  omega
theorem gps_ok {P cs : List Int} (hP : P ≠ []) (h : cs.Sublist (gps P)) : okC P.length 0 (cs ++ [(P.length : Int)]) = true := by
  have := List.length_pos_iff.mpr hP
  exact (sub_gaps (n := (P.length : Int)) (a := 1) (l := 0) h (by omega)).resolve_right (by omega)
theorem ne_li (o p : Fl) (A : List Int) : cmpF .ne (li o A) (li p A) = some false :=
  ne_same (toPy_lst _ _ _) (shal_ints 7 A) (shal_ints 7 A)
theorem eq_li (o p : Fl) (A : List Int) : cmpF .eq (li o A) (li p A) = some true :=
  eq_same (toPy_lst _ _ _) (shal_ints 7 A) (shal_ints 7 A)
theorem idx_last {L : List Int} {x : Int} : ixD ((L ++ [x]).map D.int) (-1) = some (.int x) := by
  unfold ixD
  rw [if_neg (by omega), List.length_map, List.length_append, if_pos (by simp; omega)]
  rw [show ((-1 : Int) + ((L.length + [x].length : Nat) : Int)).toNat = L.length by simp; omega]
  simp
def arI : List Stm := bodyAt (bodyAt b_law_ahead_right 2) 1
theorem ar_turn (k : Nat) {P : List Int} (hP : Good P) {M : Int} {W c : List Int} (hW : W.length < 100000) (hc : c.Sublist (gps P)) :
    frF (run (tabOf rows) (k + 4)) (.nm 5) [5, 6, 7] arI (li .shr c) [some (li .shr P), some (li .own (gps P)), some (li .own P), some (.int M), some (li .own W), none, none, none, none, none] =
      .nx [some (li .shr P), some (li .own (gps P)), some (li .own P), some (.int M), some (li .own (W ++ [un P c])), none, none, none, none, none] := by
  have f := hP.few
  have ok := gps_ok hP.ne hc
  have cl : c.length ≤ 1000 := by
    have := hc.length_le
    rw [gps_len] at this
    omega
  have e1 := unnamed_good (k + 1) (o := .own) (p := .own) hP cl
  rw [if_pos ok] at e1
  have e2 := cut_ok (k + 3) (o := .shr) (p := .shr) (P := P) (by omega) cl ok
  have e3 := match_int t_match (k + 3) (un P c)
  have n1 := ne_li .own .shr c
  have n2 := ne_li .own .shr P
  have l1 : W.length < line := by unfold line; omega
  have i1 : idxF (li .own (W ++ [un P c])) (.int (-1)) = some (.int (un P c)) := by
    unfold li
    rw [q_idxL, q_ixO, idx_last]
    rfl
  generalize un P c = u at *
  have d1 : dup (li .own c) = false := rfl
  simp -implicitDefEqProofs [frF, arI, bodyAt, stmB, b_law_ahead_right, e1, e2, e3, n1, n2, l1, i1]
theorem un_min {P : List Int} (hP : P ≠ []) {m : Nat} (hm : m < P.length) {o : Fl} : minF (li o ((comb m (gps P)).map (un P))) = some (.int (bw P m)) ∧ un P (bst P m) = bw P m ∧ okC P.length 0 (bst P m ++ [(P.length : Int)]) = true ∧ (bst P m).length = m := by
  obtain ⟨b1, b2, b3⟩ := bst_facts hm
  have e1 : un P (bst P m) = bw P m := by
    unfold un bw
    rw [b2]
  refine ⟨?_, e1, b1, b3⟩
  have hs : (bst P m).Sublist (gps P) := gaps_sub (n := (P.length : Int)) (a := 1) (l := 0) (by omega) b1
  have hw : bw P m ∈ (comb m (gps P)).map (un P) := List.mem_map.mpr ⟨_, comb_mem.mpr ⟨hs, b3⟩, e1⟩
  have hl : ∀ x ∈ (comb m (gps P)).map (un P), bw P m ≤ x := fun x hx => by
    obtain ⟨c, hc, rfl⟩ := List.mem_map.mp hx
    obtain ⟨c1, c2⟩ := comb_mem.mp hc
    have := sm_le P (gps_ok hP c1)
    rw [show (c ++ [(P.length : Int)]).length = m + 1 by simp [c2]] at this
    unfold un bw
    omega
  unfold li
  show (ints? _).bind minO = _
  rw [q_ints_ints]
  cases e : (comb m (gps P)).map (un P) with
  | nil => rw [e] at hw; cases hw
  | cons x l =>
    rw [e] at hw hl
    show some (D.int (minI x l)) = _
    rw [minI_is l x _ hw hl]
theorem sm_pair (t : Nat) (a : Int) (L : List Int) (hL : L.length ≤ 1000) : Sm (t + 2) (.tup [.int a, li .shr L]) (.tup [.int a, li .shr L]) :=
  .inr (.inr ⟨_, _, rfl, rfl, ⟨rfl, fun i x y e1 e2 => by
    rw [e1] at e2
    cases e2
    match i, e1 with
    | 0, e1 => cases e1; exact ⟨sm_int _ a, rfl, rfl⟩
    | 1, e1 => cases e1; exact ⟨sm_ints t .shr .shr hL, rfl, rfl⟩
    | i + 2, e1 => simp at e1, by show 2 ≤ 1000; omega⟩⟩)
def arB : List Stm := bodyAt b_law_ahead_right 2
theorem ar_mid (k : Nat) {P : List Int} (hP : Good P) {m : Nat} (hm : m < P.length) :
    frF (run (tabOf rows) (k + 4)) (.nm 3) [3, 4, 5, 6, 7, 8, 9] arB (.int m) [some (li .shr P), some (li .own (gps P)), some (li .own P), none, none, none, none, none, none, none] =
      .nx [some (li .shr P), some (li .own (gps P)), some (li .own P), none, none, none, none, none, none, none] := by
  have f := hP.few
  have gl : (gps P).length ≤ 14 := by rw [gps_len]; omega
  have cl := choose_le gl m
  have ch := choose_any (.inl t_choose) (k + 3) .own (gps P) m gl (by omega)
  obtain ⟨m1, m2, m3, m4⟩ := un_min hP.ne hm (o := .own)
  have bl : (bst P m).length ≤ 1000 := by omega
  have lp := loopS_acc (f := frF (run (tabOf rows) (k + 4)) (.nm 5) [5, 6, 7] arI) (g := li .shr) (G := fun W => [some (li .shr P), some (li .own (gps P)), some (li .own P), some (.int m), some (li .own W), none, none, none, none, none]) (h := fun c => [un P c]) (N := 50000) (l := comb m (gps P)) (acc := []) (fun c hc W hW => ar_turn k hP (by simp at hW; omega) (comb_mem.mp hc).1) (by
    have : ∀ l : List (List Int), (l.flatMap fun c => [un P c]).length = l.length := fun l => by induction l with
      | nil => rfl
      | cons x l ih => rw [List.flatMap_cons, List.length_append, ih, List.length_cons]; show 0 + 1 + l.length = l.length + 1; omega
    rw [this]
    simp
    omega)
  have fm : ((comb m (gps P)).flatMap fun c => [un P c]) = (comb m (gps P)).map (un P) := by
    induction comb m (gps P) with
    | nil => rfl
    | cons x l ih => rw [List.flatMap_cons, ih]; rfl
  rw [fm, List.nil_append] at lp
  have el : li .own ([] : List Int) = .lst .own [] := rfl
  rw [el] at lp
  have b1 := best_ok (k + 3) (o := .shr) (P := P) (by omega) hm
  have b2 := most_good (k + 1) (o := .own) (P := P) (c := m) (by omega) (by omega) hP (m := m) (by omega)
  have b3 := cut_ok (k + 3) (o := .shr) (p := .shr) (P := P) (by omega) bl m3
  rw [m2] at b3
  have b4 := match_ok t_match 2 (k + 1) (sm_pair 0 (bw P m) (bst P m) bl)
  have eb : arI = [.asg (.nm 6) (.op .call .list [.pk 5]), .callX (.asg 7) 4 [.pk 2, .pk 6], .app 4 (.call 12 [.pk 0, .pk 5]), .iff (.or [.not (.tr [.call 8 [.ob 7, .frz (.op .sub .idx [.pk 4, .op .un .neg [.cst (.int 1)]])]]), .cmp .ne [.pk 6, .pk 5], .cmp .ne [.pk 2, .pk 0]]) [.ret (.cst (.bl false))] []] := rfl
  rw [eb] at lp
  generalize bst P m = B at *
  generalize bw P m = w at *
  generalize (comb m (gps P)).map (un P) = W at *
  have dB : dup (li .own B) = false := rfl
  have l0 : B.length < line := by unfold line; omega
  simp -implicitDefEqProofs [frF, arB, bodyAt, stmB, b_law_ahead_right, ch, lp, b1, b2, b3, b4, m1, dB, l0]
theorem ahead_right (k : Nat) {P : List Int} (hP : Good P) : run (tabOf rows) (k + 5) 14 [li .shr P] = .ok (.bl true) [li .shr P] := by
  rw [run_of (p := r_law_ahead_right.d) rfl rfl]
  have f := hP.few
  have ln := List.length_pos_iff.mpr hP.ne
  have lp := loop_upto (f := frF (run (tabOf rows) (k + 4)) (.nm 3) [3, 4, 5, 6, 7, 8, 9] arB) (hi := ((gps P).length : Int) + 1) P.length (fun _ => [some (li .shr P), some (li .own (gps P)), some (li .own P), none, none, none, none, none, none, none]) (by rw [gps_len]; omega) rfl fun m hm => ar_mid k hP hm
  have eb : arB = [.asg (.nm 4) (.lst []), .fr (.nm 5) (.seq (.call 9 [.pk 1, .pk 3])) [5, 6, 7] arI, .asg (.nm 8) (.call 13 [.pk 0, .pk 3]), .callX (.asg 7) 5 [.pk 2, .pk 3], .iff (.or [.not (.tr [.call 8 [.ob 7, .frz (.tup [.op .call .min [.pk 4], .var 8])]]), .cmp .ne [.call 12 [.pk 0, .pk 8], .op .call .min [.pk 4]]]) [.ret (.cst (.bl false))] [], .asg (.nm 9) (.mvI 7 (.cst (.int 1))), .app 9 (.cst (.int 0)), .iff (.not (.tr [.call 8 [.frz (.call 5 [.pk 2, .pk 3]), .frz (.tup [.op .call .min [.pk 4], .var 8])]])) [.ret (.cst (.bl false))] []] := rfl
  have ei : arI = [.asg (.nm 6) (.op .call .list [.pk 5]), .callX (.asg 7) 4 [.pk 2, .pk 6], .app 4 (.call 12 [.pk 0, .pk 5]), .iff (.or [.not (.tr [.call 8 [.ob 7, .frz (.op .sub .idx [.pk 4, .op .un .neg [.cst (.int 1)]])]]), .cmp .ne [.pk 6, .pk 5], .cmp .ne [.pk 2, .pk 0]]) [.ret (.cst (.bl false))] []] := rfl
  rw [eb, ei] at lp
  have o1 : okRg (((gps P).length : Int) + 1) = true := okRgI (by rw [gps_len]; omega)
  have o2 : okRg (P.length : Int) = true := okRgI (by omega)
  have g0 := gps_D P
  have el : D.lst .own ((gps P).map D.int) = li .own (gps P) := rfl
  have e1 := eq_li .own .shr P
  simp -implicitDefEqProofs [r_law_ahead_right, b_law_ahead_right, enter, o1, o2, g0, el, lp, e1]
end K14

end
section
set_option maxRecDepth 100000
set_option maxHeartbeats 2000000
namespace K14
open VE
/-! k14: drawn pockets, long rows -/
theorem drawn_ok (k : Nat) (p : Pu) : ∃ (P : List Int) (p' : Pu), run (tabOf rows) (k + 2) 11 [pu p, .int 7] = .ok (li .shr P) [pu p', .int 7] ∧ Good P ∧ P.length ≤ 7 := by
  obtain ⟨v1, p1, e1, h1⟩ := drN t_draw k p 7 (by decide) (by decide)
  obtain ⟨v2, p2, e2, h2⟩ := drN t_draw k p1 6 (by decide) (by decide)
  have e1 : run (tabOf rows) (k + 1) 7 [pu p, .int 7] = .ok (.int v1) [pu p1, .int 7] := e1
  have e2 : run (tabOf rows) (k + 1) 7 [pu p1, .int 6] = .ok (.int v2) [pu p2, .int 6] := e2
  obtain ⟨L, p3, e3, l3, q3⟩ := loopC_draw (f := lcF (run (tabOf rows) (k + 1)) [5] (.nm 5) .yes (.call 7 [.pk 0, .op .bin .add [.pk 3, .cst (.int 1)]])) (G := fun p => [some (pu p), some (.int 7), some (.int (1 + (v1 : Int))), some (.int (1 + (v2 : Int))), none, none]) (Q := fun v => 0 ≤ v ∧ v ≤ 6) (rangeL 0 (1 + (v1 : Int))) p2 fun x _ p => by
    obtain ⟨v, p', e, a, b⟩ := dr t_draw k p (1 + (v2 : Int) + 1) (by omega) (by omega)
    refine ⟨v, p', ?_, by omega⟩
    simp -implicitDefEqProofs [e]
  have ll : L.length = v1 + 1 := by
    rw [l3]
    unfold rangeL
    rw [List.length_map, List.length_range]
    omega
  obtain ⟨v3, p4, e4, h4⟩ := drN t_draw k p3 (1 + v1) (by omega) (by omega)
  have en : ((1 + v1 : Nat) : Int) = 1 + (v1 : Int) := by omega
  rw [en] at e4
  have o1 : okRg (1 + (v1 : Int)) = true := okRgI (by omega)
  have l1 : L.length ≤ line := by unfold line; omega
  have g1 : (0 : Int) ≤ v3 ∧ (v3 : Int) < L.length := by omega
  have es : (L.map D.int).set v3 (.int (1 + (v2 : Int))) = (L.set v3 (1 + (v2 : Int))).map D.int := List.map_set.symm
  have fz : frzL ((L.map D.int).set v3 (.int (1 + (v2 : Int)))) = (L.map D.int).set v3 (.int (1 + (v2 : Int))) := by rw [es, q_frz_ints]
  have ei : D.lst .shr ((L.set v3 (1 + (v2 : Int))).map D.int) = li .shr (L.set v3 (1 + (v2 : Int))) := rfl
  have hq : ∀ x ∈ L.set v3 (1 + (v2 : Int)), 0 ≤ x ∧ x ≤ 6 := fun x hx => by
    rcases List.mem_or_eq_of_mem_set hx with h | h
    · exact q3 x h
    · omega
  refine ⟨L.set v3 (1 + (v2 : Int)), p4, ?_, ⟨?_, ?_, fun x hx => (hq x hx).1, fun x hx => (hq x hx).2⟩, ?_⟩
  · rw [run_of (p := r_law_drawn_pockets.d) rfl rfl]
    rw [← ei, ← es]
    simp -implicitDefEqProofs [r_law_drawn_pockets, b_law_drawn_pockets, enter, e1, e2, e3, e4, o1, l1, g1, fz]
  · rw [← List.length_pos_iff, List.length_set]
    omega
  · rw [List.length_set]
    omega
  · rw [List.length_set]
    omega
theorem gps_pls (P : List Int) : (pls P.length).drop 1 = gps P := by
  unfold pls gps
  cases h : P.length with
  | zero => rfl
  | succ n =>
    rw [List.range_succ_eq_map, List.map_cons, List.drop_succ_cons, List.drop_zero, List.map_map, show (((n + 1 : Nat) : Int) - 1).toNat = n by omega]
    refine List.map_congr_left fun k _ => ?_
    show ((k + 1 : Nat) : Int) = 1 + (k : Int)
    omega
theorem long_ok (k : Nat) (p : Pu) : ∃ p', run (tabOf rows) (k + 5) 15 [pu p] = .ok (.bl true) [pu p'] := by
  obtain ⟨v1, p1, e1, h1⟩ := drN t_draw (k + 3) p 3 (by decide) (by decide)
  have e1 : run (tabOf rows) (k + 4) 7 [pu p, .int 3] = .ok (.int v1) [pu p1, .int 3] := e1
  obtain ⟨P, p2, e2, l2, q2⟩ := loopC_draw (f := lcF (run (tabOf rows) (k + 4)) [6] (.nm 6) .yes (.call 7 [.pk 0, .cst (.int 7)])) (G := fun p => [some (pu p), none, none, none, none, none, none]) (Q := fun v => 0 ≤ v ∧ v ≤ 6) (rangeL 0 (8 + (v1 : Int))) p1 fun x _ p => by
    obtain ⟨v, p', e, a, b⟩ := dr t_draw (k + 3) p 7 (by omega) (by omega)
    refine ⟨v, p', ?_, by omega⟩
    simp -implicitDefEqProofs [e]
  have ll : P.length = 8 + v1 := by
    rw [l2]
    unfold rangeL
    rw [List.length_map, List.length_range]
    omega
  have hP : Good P := ⟨by rw [← List.length_pos_iff]; omega, by omega, fun x hx => (q2 x hx).1, fun x hx => (q2 x hx).2⟩
  obtain ⟨v3, p3, e3, h3⟩ := drN t_draw (k + 3) p2 14 (by decide) (by decide)
  have e3 : run (tabOf rows) (k + 4) 7 [pu p2, .int 14] = .ok (.int v3) [pu p3, .int 14] := e3
  obtain ⟨m, hm⟩ : ∃ m : Nat, m = min v3 (P.length - 1) := ⟨_, rfl⟩
  have hml : m < P.length := by omega
  have em : (if (P.length : Int) - 1 < v3 then (P.length : Int) - 1 else v3) = m := by split <;> omega
  obtain ⟨-, m2, m3, m4⟩ := un_min hP.ne hml (o := .own)
  have b1 := best_ok (k + 3) (o := .own) (P := P) (by omega) hml
  have b2 := most_good (k + 1) (o := .own) (P := P) (c := v3) (by omega) (by omega) hP (m := m) (by omega)
  have bl : (bst P m).length ≤ 1000 := by omega
  have b3 := unnamed_good (k + 1) (o := .own) (p := .own) hP bl
  have b3s := unnamed_good (k + 1) (o := .own) (p := .shr) hP bl
  rw [if_pos m3, m2] at b3 b3s
  have b4 := match_ok t_match 2 (k + 1) (sm_pair 0 (bw P m) (bst P m) bl)
  have b5 := match_int t_match (k + 3) (bw P m)
  -- all cuts
  have hmx : P.length - 1 < P.length := by omega
  obtain ⟨-, n2, n3, n4⟩ := un_min hP.ne hmx (o := .own)
  have c2 := most_good (k + 1) (o := .own) (P := P) (c := 1000000) (by omega) (by omega) hP (m := P.length - 1) (by omega)
  have z1 : bw P (P.length - 1) = 0 := bw_all (by omega)
  have z2 : bst P (P.length - 1) = gps P := by rw [bst_all (by omega), gps_pls]
  rw [z1, z2] at c2 n2
  rw [z2] at n3
  have gl : (gps P).length ≤ 1000 := by rw [gps_len]; omega
  have c3 := unnamed_good (k + 1) (o := .own) (p := .own) hP gl
  have c3s := unnamed_good (k + 1) (o := .own) (p := .shr) hP gl
  rw [if_pos n3, n2] at c3 c3s
  have c4 := match_ok t_match 2 (k + 1) (sm_pair 0 0 (gps P) gl)
  -- what is due
  have hd : P.sum - ((sortI P).drop (P.length - (m + 1))).sum = bw P m := by
    rw [top_sum P (by omega)]
    rfl
  have em2 : (if (0 : Int) < (P.length : Int) - v3 - 1 then (P.length : Int) - v3 - 1 else 0) = ((P.length - (m + 1) : Nat) : Int) := by split <;> omega
  have em3 : (if (1 : Int) < (P.length : Int) - v3 then (P.length : Int) - v3 - 1 else 0) = ((P.length - (m + 1) : Nat) : Int) := by split <;> omega
  have eL := cutL_li (L := sortI P) (o := .own) (m := ((P.length - (m + 1) : Nat) : Int)) (by omega)
  rw [Int.toNat_natCast] at eL
  have sD : sumF (li .own ((sortI P).drop (P.length - (m + 1)))) = some (.int ((sortI P).drop (P.length - (m + 1))).sum) := by
    unfold li
    rw [q_sumF, q_ints_ints]
    rfl
  have sP : sumF (li .own P) = some (.int P.sum) := by
    unfold li
    rw [q_sumF, q_ints_ints]
    rfl
  have o1 : okRg (8 + (v1 : Int)) = true := okRgI (by omega)
  have o2 : okRg (P.length : Int) = true := okRgI (by omega)
  have l1 : P.length ≤ line := by unfold line; omega
  have g0 := gps_D P
  have ei : D.lst .own (P.map D.int) = li .own P := rfl
  have eg : D.lst .own ((gps P).map D.int) = li .own (gps P) := rfl
  have pw : (10 : Int) ^ 6 = 1000000 := by decide
  have po : okPow 10 6 = true := by decide
  have q1 : ∀ L : List Int, dup (li .own L) = false := fun _ => rfl
  refine ⟨p3, ?_⟩
  rw [run_of (p := r_law_long_right.d) rfl rfl]
  generalize bst P m = B at *
  generalize bw P m = w at *
  generalize hN : ((P.length - (m + 1) : Nat) : Int) = N at *
  generalize (sortI P).drop (P.length - (m + 1)) = V at *
  generalize hPs : P.sum = ps at *
  generalize hVs : V.sum = vs at *
  simp -implicitDefEqProofs [r_law_long_right, b_law_long_right, enter, e1, e2, e3, o1, o2, l1, ei, em, b1, em2, em3, eL, sD, sP, hd, b2, b3, b3s, b4, b5, g0, eg, pw, po, c2, c3, c3s, c4, q1]
end K14

end
section
set_option maxRecDepth 100000
set_option maxHeartbeats 2000000
namespace K14
open VE
/-! k14: _law_ahead_refused -/
theorem told_x (k : Nat) {c : Xn} {x : D} (fx : flat x = true) (h : c = ⟨"TooMany", "what"⟩ ∨ c = ⟨"BadPlan", "what"⟩ ∨ c = ⟨"BadPocket", "place"⟩) : run (tabOf rows) (k + 1) 10 [.tup [.str c.x, .str c.fn, x]] = .ok (.tup [.str c.x, x]) [.gone] := by
  rw [run_tld (p := r_law_pockets_told.d) rfl rfl]
  show leave r_law_pockets_told.d (exSs (cfP (.ex c [x] [])) b_law_pockets_told [none, none, none]) = _
  have e : kAct (.asg 1) [none, none, none] (cfP (.ex c [x] []) 0 []) = .ex c [x] [none, none, none] := rfl
  rcases h with rfl | rfl | rfl <;> simp -implicitDefEqProofs [r_law_pockets_told, b_law_pockets_told, q_act, e, is_bb, is_tt, is_tb, is_bt, is_pp, is_tp, is_bp, is_pt, is_pb, fx]
theorem shal_two {s : PySem.Str} {x : D} (hs : PySem.PyData.strOk s = true) (hx : shal 7 x = true) : shal 8 (.tup [.str s, x]) = true := by
  show (shal 7 (.str s) && (shal 7 x && true)) = true
  have : shal 7 (.str s) = true := hs
  rw [this, hx]
  rfl
theorem ne_two {s : PySem.Str} {x : D} (hs : PySem.PyData.strOk s = true) (hx : shal 7 x = true) : cmpF .ne (.tup [.str s, x]) (.tup [.str s, x]) = some false := ne_same rfl (shal_two hs hx) (shal_two hs hx)
def rfB : List Stm := bodyAt b_law_ahead_refused 6
theorem rf_turn (k : Nat) {R : List Int} {c : Xn} {x due : D} {less many : Int} {a b d e f g i j m n : Option D} (h0 : 1 ≤ less) (h0' : less ≤ 1000)
    (hc : c = ⟨"TooMany", "what"⟩ ∨ c = ⟨"BadPlan", "what"⟩ ∨ c = ⟨"BadPocket", "place"⟩) (fx : flat x = true) (sx : shal 7 x = true)
    (h1 : ∀ C, run (tabOf rows) (k + 3) 4 [li .shr R, C] = .ex c [x] [li .shr R, C]) (h2 : ∀ m ≤ 1000000, run (tabOf rows) (k + 3) 5 [li .shr R, .int m] = .ex c [x] [li .shr R, .int m])
    (hd : due = .tup [.str c.x, x] ∨ (due = .non ∧ c.x = "TooMany" ∧ x = .str (if 10 < 2 * many then "pockets" else "pocket"))) :
    frF (run (tabOf rows) (k + 3)) (.tp [8, 9]) [8, 9] rfB (.lst .shr [li .shr R, due]) [a, b, some (.int many), d, some (.int less), e, f, g, none, none, i, j, m, n] = .nx [a, b, some (.int many), d, some (.int less), e, f, g, none, none, i, j, m, n] := by
  have u1 := h1 (.lst .own [.int 0])
  have u2 := h1 (.lst .own [])
  have u3 := h2 (-less) (by omega)
  have u4 := most_numbers k (o := .shr) (P := R) (c := 1000000 + less) (by omega)
  have t1 := told_x (k + 2) fx hc
  have t2 := told_x (k + 2) (c := ⟨"TooMany", "what"⟩) (x := .str "numbers") rfl (.inl rfl)
  have so : PySem.PyData.strOk c.x = true := by rcases hc with rfl | rfl | rfl <;> decide +kernel
  have n1 := ne_two so sx
  have n2 : cmpF .ne (.tup [.str "TooMany", .str "numbers"]) (.tup [.str "TooMany", .str "numbers"]) = some false := ne_two (by decide +kernel) (by decide +kernel)
  have pw : (10 : Int) ^ 6 = 1000000 := by decide
  have po : okPow 10 6 = true := by decide
  have om : okMul 2 many = true := okMulL _ (by decide)
  rcases hd with rfl | ⟨rfl, hx, hy⟩
  · have : cmpF .isn (.tup [.str c.x, x]) .non = some false := rfl
    simp -implicitDefEqProofs [frF, rfB, bodyAt, stmB, b_law_ahead_refused, u1, u2, u3, u4, t1, t2, n1, n2, pw, po, fx]
  · rw [hx, hy] at n1
    rw [hx] at t1
    rw [hy] at u1 u2 u3 t1 fx
    have dx : dup x = true := by rw [hy]; rfl
    by_cases c10 : 10 < 2 * many
    · rw [if_pos c10] at *
      simp -implicitDefEqProofs [frF, rfB, bodyAt, stmB, b_law_ahead_refused, u1, u2, u3, u4, t1, t2, n1, n2, pw, po, fx, om, c10, hx]
    · rw [if_neg c10] at *
      simp -implicitDefEqProofs [frF, rfB, bodyAt, stmB, b_law_ahead_refused, u1, u2, u3, u4, t1, t2, n1, n2, pw, po, fx, om, c10, hx]
end K14

end
section
set_option maxRecDepth 100000
set_option maxHeartbeats 2000000
namespace K14
open VE
/-! k14: _law_ahead_refused, the rows and the cuts -/
theorem add_one {o p : Fl} {A : List Int} {x : Int} : addF (li o A) (.lst p [.int x]) = if A.length + 1 ≤ line then some (li .own (A ++ [x])) else none := by
  have := add_li o p A [x]
  exact this
theorem okC_mid {n x : Int} : ∀ {A B : List Int} {l : Int}, okC n l (A ++ x :: B) = true → (∀ y ∈ A, y < x ∧ l < y) ∧ l < x ∧ x ≤ n ∧ okC n x B = true
  | [], B, l, h => by
    obtain ⟨h1, h2, h3⟩ := okC_cons.mp h
    exact ⟨fun y hy => (by cases hy), h1, h2, h3⟩
  | a :: A, B, l, h => by
    rw [List.cons_append] at h
    obtain ⟨h1, h2, h3⟩ := okC_cons.mp h
    obtain ⟨i1, i2, i3, i4⟩ := okC_mid h3
    refine ⟨fun y hy => ?_, by omega, i3, i4⟩
    rcases List.mem_cons.mp hy with rfl | hy
    · omega
    · have := i1 y hy
      omega
theorem okC_asc {n : Int} : ∀ {A : List Int} {l : Int}, okC n l A = true → A.Pairwise (· < ·)
  | [], _, _ => List.Pairwise.nil
  | a :: A, l, h => by
    obtain ⟨h1, h2, h3⟩ := okC_cons.mp h
    rw [List.pairwise_cons]
    refine ⟨fun y hy => ?_, okC_asc h3⟩
    obtain ⟨B, C, rfl⟩ := List.append_of_mem hy
    exact (okC_mid h3).2.1
/-- the six wrong rows of cuts -/
def wrg (n less : Int) (cs : List Int) : List (List Int) := [0 :: cs, cs ++ [n], cs ++ [n + less], -less :: cs, if cs = [] then [0] else cs ++ [1], cs ++ cs]
theorem wrg_bad {n less : Int} {cs W : List Int} (h : 0 < less) (hc : ∀ c ∈ cs, 1 ≤ c) (hW : W ∈ wrg n less cs) : W = [] ∨ okC n 0 (W ++ [n]) = false := by
  have key : ∀ {W : List Int}, ¬ okC n 0 (W ++ [n]) = true → W = [] ∨ okC n 0 (W ++ [n]) = false := fun h => .inr (by simpa using h)
  unfold wrg at hW
  simp only [List.mem_cons, List.not_mem_nil, or_false] at hW
  rcases hW with rfl | rfl | rfl | rfl | rfl | rfl
  · exact key fun h2 => absurd (okC_mid (A := []) h2).2.1 (by omega)
  · refine key fun h2 => ?_
    rw [List.append_assoc] at h2
    have := (okC_cons.mp (okC_mid h2).2.2.2).1
    omega
  · refine key fun h2 => ?_
    rw [List.append_assoc] at h2
    have := (okC_mid h2).2.2.1
    omega
  · exact key fun h2 => absurd (okC_mid (A := []) h2).2.1 (by omega)
  · split
    · exact key fun h2 => absurd (okC_mid (A := []) h2).2.1 (by omega)
    · rename_i hn
      refine key fun h2 => ?_
      rw [List.append_assoc] at h2
      cases cs with
      | nil => exact hn rfl
      | cons c cs =>
        have := (okC_mid h2).1 c List.mem_cons_self
        have := hc c List.mem_cons_self
        omega
  · cases cs with
    | nil => exact .inl rfl
    | cons c cs =>
      refine key fun h2 => ?_
      rw [List.append_assoc, List.cons_append] at h2
      have := (okC_mid (A := c :: cs) h2).1 c List.mem_cons_self
      omega
theorem wrg_rev {n : Int} {cs : List Int} (h : cs.Pairwise (· < ·)) (hl : 1 < cs.length) : okC n 0 (cs.reverse ++ [n]) = false := by
  cases e : okC n 0 (cs.reverse ++ [n]) with
  | false => rfl
  | true =>
    have h2 := (List.pairwise_append.mp (okC_asc e)).1
    rw [List.pairwise_reverse] at h2
    match cs, hl with
    | a :: b :: cs, _ =>
      rw [List.pairwise_cons] at h h2
      have := h.1 b List.mem_cons_self
      have := h2.1 b List.mem_cons_self
      omega
def wB : List Stm := bodyAt b_law_ahead_refused 9
theorem wr_turn (k : Nat) {P W : List Int} (hP : Good P) (hl : W.length ≤ 1000) (h : W = [] ∨ okC P.length 0 (W ++ [(P.length : Int)]) = false) {a b c d e f g i j m n : Option D} :
    frF (run (tabOf rows) (k + 3)) (.nm 8) [8] wB (li .shr W) [a, some (li .shr P), b, c, d, e, f, g, none, i, j, m, n, none] = .nx [a, some (li .shr P), b, c, d, e, f, g, none, i, j, m, n, none] := by
  have e0 : ∀ p : Fl, cmpF .ne (li .shr W) (.lst p []) = some (!W.isEmpty) := fun p => q_ne_nilI
  by_cases hW : W = []
  · subst hW
    simp -implicitDefEqProofs [frF, wB, bodyAt, stmB, b_law_ahead_refused, e0]
  · have ok := h.resolve_left hW
    have u1 := unnamed_good k (o := .own) (p := .own) hP hl
    rw [ok, if_neg Bool.false_ne_true] at u1
    have t1 := told_x (k + 2) (c := ⟨"BadPlan", "what"⟩) (x := .str "cuts") rfl (.inr (.inl rfl))
    have n2 : cmpF .ne (.tup [.str "BadPlan", .str "cuts"]) (.tup [.str "BadPlan", .str "cuts"]) = some false := ne_two (by decide +kernel) (by decide +kernel)
    have ie : W.isEmpty = false := by simpa using hW
    simp -implicitDefEqProofs [frF, wB, bodyAt, stmB, b_law_ahead_refused, e0, u1, t1, n2, ie]
/-- the rows of pockets that are refused -/
theorem low_bad (k : Nat) {A B : List Int} {less : Int} (h : 0 < less) (hA : ∀ y ∈ A, 0 ≤ y ∧ y ≤ 6) (hB : ∀ y ∈ B, 0 ≤ y ∧ y ≤ 6) (hl : A.length + 1 + B.length ≤ 10) :
    (∀ C, run (tabOf rows) (k + 3) 4 [li .shr (A ++ [-less] ++ B), C] = .ex ⟨"BadPocket", "place"⟩ [.int (A.length + 1)] [li .shr (A ++ [-less] ++ B), C]) ∧ ∀ m ≤ 1000000, run (tabOf rows) (k + 3) 5 [li .shr (A ++ [-less] ++ B), .int m] = .ex ⟨"BadPocket", "place"⟩ [.int (A.length + 1)] [li .shr (A ++ [-less] ++ B), .int m] := by
  have e : A ++ [-less] ++ B = A ++ (-less) :: B := by simp
  rw [e]
  have h3 := pockets_neg (k + 1) (o := .shr) (A := A) (B := B) (x := -less) (fun y hy => (hA y hy).1) (by omega) (by simp; omega)
  have hh : (A ++ (-less) :: B).length ≤ 10 := by simp; omega
  have hs : ∀ x ∈ A ++ (-less) :: B, x ≤ 6 := fun x hx => by
    rcases List.mem_append.mp hx with hx | hx
    · exact (hA x hx).2
    · rcases List.mem_cons.mp hx with rfl | hx
      · omega
      · exact (hB x hx).2
  exact ⟨fun C => unnamed_place k (p := .own) hh hs h3, fun m hm => most_place k hm hh hs h3⟩
theorem nil_bad (k : Nat) : (∀ C, run (tabOf rows) (k + 3) 4 [li .shr [], C] = .ex ⟨"BadPocket", "place"⟩ [.int 0] [li .shr [], C]) ∧ ∀ m ≤ 1000000, run (tabOf rows) (k + 3) 5 [li .shr [], .int m] = .ex ⟨"BadPocket", "place"⟩ [.int 0] [li .shr [], .int m] := by
  have h3 := pockets_nil (k + 1) (o := .shr)
  exact ⟨fun C => unnamed_place k (p := .own) (by simp) (fun x hx => by cases hx) h3, fun m hm => most_place k hm (by simp) (fun x hx => by cases hx) h3⟩
theorem great_bad (k : Nat) {R : List Int} (hl : R.length ≤ 10) (h : ∃ x ∈ R, 6 < x) :
    (∀ C, run (tabOf rows) (k + 3) 4 [li .shr R, C] = .ex ⟨"TooMany", "what"⟩ [.str "pocket"] [li .shr R, C]) ∧ ∀ m ≤ 1000000, run (tabOf rows) (k + 3) 5 [li .shr R, .int m] = .ex ⟨"TooMany", "what"⟩ [.str "pocket"] [li .shr R, .int m] :=
  ⟨fun C => unnamed_great k (p := .own) hl h, fun m hm => most_great k hm hl h⟩
theorem many_bad (k : Nat) {R : List Int} (hl : 10 < R.length) :
    (∀ C, run (tabOf rows) (k + 3) 4 [li .shr R, C] = .ex ⟨"TooMany", "what"⟩ [.str "pockets"] [li .shr R, C]) ∧ ∀ m ≤ 1000000, run (tabOf rows) (k + 3) 5 [li .shr R, .int m] = .ex ⟨"TooMany", "what"⟩ [.str "pockets"] [li .shr R, .int m] :=
  ⟨fun C => unnamed_many k (p := .own) hl, fun m hm => most_many k hm hl⟩
end K14

end
section
set_option maxRecDepth 100000
set_option maxHeartbeats 4000000
namespace K14
open VE
/-! k14: the end -/
def rf6 (l0 h0 m0 hm lh : List Int) (i : Int) : List D := [.lst .shr [li .shr l0, .tup [.str "BadPocket", .int i]], .lst .shr [li .shr [], .tup [.str "BadPocket", .int 0]], .lst .shr [li .shr h0, .tup [.str "TooMany", .str "pocket"]], .lst .shr [li .shr m0, .tup [.str "TooMany", .str "pockets"]], .lst .shr [li .shr hm, .tup [.str "TooMany", .str "pockets"]], .lst .shr [li .shr lh, .non]]
theorem rf_loop (k : Nat) {A B : List Int} {x less n : Int} (hA : ∀ y ∈ A, 0 ≤ y ∧ y ≤ 6) (hB : ∀ y ∈ B, 0 ≤ y ∧ y ≤ 6) (hn : n = A.length + 1 + B.length) (h7 : n ≤ 7) (h1 : 1 ≤ less) (h5 : less ≤ 5) {a b d e f g i j m q : Option D} :
    loopS (frF (run (tabOf rows) (k + 3)) (.tp [8, 9]) [8, 9] rfB) (rf6 (A ++ [-less] ++ B) (A ++ [6 + less] ++ B) (List.replicate (10 + less).toNat x) (A ++ [6 + less] ++ B ++ List.replicate (10 + less).toNat x) (A ++ [-less] ++ B ++ (A ++ [6 + less] ++ B)) (A.length + 1)) [a, b, some (.int n), d, some (.int less), e, f, g, none, none, i, j, m, q] =
      .nx [a, b, some (.int n), d, some (.int less), e, f, g, none, none, i, j, m, q] := by
  refine loopS_id fun y hy => ?_
  unfold rf6 at hy
  simp only [List.mem_cons, List.not_mem_nil, or_false] at hy
  rcases hy with rfl | rfl | rfl | rfl | rfl | rfl
  · obtain ⟨u1, u2⟩ := low_bad k (less := less) (by omega) hA hB (by omega)
    exact rf_turn k h1 (by omega) (.inr (.inr rfl)) rfl rfl u1 u2 (.inl rfl)
  · obtain ⟨u1, u2⟩ := nil_bad k
    exact rf_turn k h1 (by omega) (.inr (.inr rfl)) rfl rfl u1 u2 (.inl rfl)
  · obtain ⟨u1, u2⟩ := great_bad k (R := A ++ [6 + less] ++ B) (by simp; omega) ⟨6 + less, by simp, by omega⟩
    exact rf_turn k h1 (by omega) (.inl rfl) rfl (by decide +kernel) u1 u2 (.inl rfl)
  · obtain ⟨u1, u2⟩ := many_bad k (R := List.replicate (10 + less).toNat x) (by simp; omega)
    exact rf_turn k h1 (by omega) (.inl rfl) rfl (by decide +kernel) u1 u2 (.inl rfl)
  · obtain ⟨u1, u2⟩ := many_bad k (R := A ++ [6 + less] ++ B ++ List.replicate (10 + less).toNat x) (by simp; omega)
    exact rf_turn k h1 (by omega) (.inl rfl) rfl (by decide +kernel) u1 u2 (.inl rfl)
  · by_cases c : 10 < 2 * n
    · obtain ⟨u1, u2⟩ := many_bad k (R := A ++ [-less] ++ B ++ (A ++ [6 + less] ++ B)) (by simp; omega)
      exact rf_turn k h1 (by omega) (.inl rfl) rfl (by decide +kernel) u1 u2 (.inr ⟨rfl, rfl, by rw [if_pos c]⟩)
    · obtain ⟨u1, u2⟩ := great_bad k (R := A ++ [-less] ++ B ++ (A ++ [6 + less] ++ B)) (by simp; omega) ⟨6 + less, by simp, by omega⟩
      exact rf_turn k h1 (by omega) (.inl rfl) rfl (by decide +kernel) u1 u2 (.inr ⟨rfl, rfl, by rw [if_neg c]⟩)
theorem frz_lis : ∀ L : List (List Int), frzL (L.map (li .own)) = L.map (li .shr)
  | [] => rfl
  | x :: L => by rw [List.map_cons, List.map_cons, q_frz1, frz_li, frz_lis L]
theorem refused_ok (k : Nat) (p : Pu) {P : List Int} (hP : Good P) (h7 : P.length ≤ 7) : ∃ p', run (tabOf rows) (k + 4) 16 [pu p, li .shr P] = .ok (.bl true) [pu p', li .shr P] := by
  have ln := List.length_pos_iff.mpr hP.ne
  obtain ⟨v1, p1, e1, h1⟩ := drN t_draw (k + 2) p P.length (by omega) (by omega)
  obtain ⟨v2, p2, e2, h2⟩ := drN t_draw (k + 2) p1 5 (by omega) (by omega)
  have e1 : run (tabOf rows) (k + 3) 7 [pu p, .int P.length] = .ok (.int v1) [pu p1, .int P.length] := e1
  have e2 : run (tabOf rows) (k + 3) 7 [pu p1, .int 5] = .ok (.int v2) [pu p2, .int 5] := e2
  obtain ⟨A, hA⟩ : ∃ A, A = P.take v1 := ⟨_, rfl⟩
  obtain ⟨B, hB⟩ : ∃ B, B = P.drop (v1 + 1) := ⟨_, rfl⟩
  obtain ⟨less, hless⟩ : ∃ less : Int, less = 1 + (v2 : Int) := ⟨_, rfl⟩
  have lA : A.length = v1 := by rw [hA, List.length_take]; omega
  have lB : B.length = P.length - (v1 + 1) := by rw [hB, List.length_drop]
  have mA : ∀ y ∈ A, 0 ≤ y ∧ y ≤ 6 := fun y hy => by
    have : y ∈ P := List.mem_of_mem_take (hA ▸ hy)
    exact ⟨hP.lo y this, hP.hi y this⟩
  have mB : ∀ y ∈ B, 0 ≤ y ∧ y ≤ 6 := fun y hy => by
    have : y ∈ P := List.mem_of_mem_drop (hB ▸ hy)
    exact ⟨hP.lo y this, hP.hi y this⟩
  have cA := cutR_li (L := P) (o := .shr) (m := (v1 : Int)) (by omega)
  have cB := cutL_li (L := P) (o := .shr) (m := (v1 : Int) + 1) (by omega)
  rw [Int.toNat_natCast, ← hA] at cA
  rw [show ((v1 : Int) + 1).toNat = v1 + 1 by omega, ← hB] at cB
  have a1 : ∀ x, addF (li .own A) (.lst .own [.int x]) = some (li .own (A ++ [x])) := fun x => by
    rw [add_one, if_pos (by unfold line; omega)]
  have a2 : ∀ x : Int, addF (li .own (A ++ [x])) (li .own B) = some (li .own (A ++ [x] ++ B)) := fun x => by
    rw [add_li, if_pos (by unfold line; simp; omega)]
  have mr : ∃ x, loopC (lcF (run (tabOf rows) (k + 3)) [12] (.nm 12) .yes (.op .sub .idx [.pk 1, .cst (.int 0)])) (rangeL 0 (10 + less)) [some (pu p2), some (li .shr P), some (.int P.length), some (.int v1), some (.int less), some (li .own (A ++ [-less] ++ B)), some (li .own (A ++ [6 + less] ++ B)), none, none, none, none, none, none, none] = .ok ((List.replicate (10 + less).toNat x).map .int) [some (pu p2), some (li .shr P), some (.int P.length), some (.int v1), some (.int less), some (li .own (A ++ [-less] ++ B)), some (li .own (A ++ [6 + less] ++ B)), none, none, none, none, none, none, none] := by
    refine ⟨vl P 0, ?_⟩
    have i0 := ix_vl (P := P) (i := 0) (by omega) (by omega)
    rw [rangeL_map]
    have := loopC_keep (f := lcF (run (tabOf rows) (k + 3)) [12] (.nm 12) .yes (.op .sub .idx [.pk 1, .cst (.int 0)])) (g := D.int) (h := fun _ => D.int (vl P 0)) (b := fun _ => true) (l := (List.range (10 + less - 0).toNat).map fun (k : Nat) => (0 : Int) + k) (Γ := [some (pu p2), some (li .shr P), some (.int P.length), some (.int v1), some (.int less), some (li .own (A ++ [-less] ++ B)), some (li .own (A ++ [6 + less] ++ B)), none, none, none, none, none, none, none]) fun x _ => by
      unfold li at *
      rw [q_ix0] at i0
      simp -implicitDefEqProofs [i0]
    rw [this, List.filter_eq_self.mpr fun _ _ => rfl, List.map_const']
    simp
  obtain ⟨x, mr⟩ := mr
  have lp := rf_loop k (x := x) (less := less) (n := P.length) mA mB (by omega) (by omega) (by omega) (by omega) (a := some (pu p2)) (b := some (li .shr P)) (d := some (.int v1)) (e := some (li .shr (A ++ [-less] ++ B))) (f := some (li .shr (A ++ [6 + less] ++ B))) (g := some (li .shr (List.replicate (10 + less).toNat x))) (i := none) (j := none) (m := none) (q := none)
  rw [lA] at lp
  have er : rfB = [.iff (.cmp .isn [.pk 9, .cst .non]) [.asg (.nm 9) (.tup [.cst (.str "TooMany"), .ite (.cmp .gt [.op .bin .mul [.cst (.int 2), .pk 2], .cst (.int 10)]) (.cst (.str "pockets")) (.cst (.str "pocket"))])] [], .iff (.cmp .ne [.told 10 4 [.pk 8, .lst [.cst (.int 0)]], .pk 9]) [.ret (.cst (.bl false))] [], .iff (.cmp .ne [.told 10 4 [.pk 8, .lst []], .pk 9]) [.ret (.cst (.bl false))] [], .iff (.cmp .ne [.told 10 5 [.pk 8, .op .un .neg [.pk 4]], .pk 9]) [.ret (.cst (.bl false))] [], .iff (.cmp .ne [.told 10 5 [.pk 8, .op .bin .add [.op .bin .pow [.cst (.int 10), .cst (.int 6)], .pk 4]], .tup [.cst (.str "TooMany"), .cst (.str "numbers")]]) [.ret (.cst (.bl false))] []] := rfl
  rw [er] at lp
  unfold rf6 at lp
  rw [show li .shr ([] : List Int) = .lst .shr [] from rfl] at lp
  have a3 : addF (li .shr (A ++ [6 + less] ++ B)) (li .shr (List.replicate (10 + less).toNat x)) = some (li .own (A ++ [6 + less] ++ B ++ List.replicate (10 + less).toNat x)) := by
    rw [add_li, if_pos (by unfold line; simp; omega)]
  have a4 : addF (li .shr (A ++ [-less] ++ B)) (li .shr (A ++ [6 + less] ++ B)) = some (li .own (A ++ [-less] ++ B ++ (A ++ [6 + less] ++ B))) := by
    rw [add_li, if_pos (by unfold line; simp; omega)]
  have lm : (List.replicate (10 + less).toNat x).length ≤ line := by
    rw [List.length_replicate]
    unfold line
    omega
  generalize hLow : A ++ [-less] ++ B = low at *
  generalize hHigh : A ++ [6 + less] ++ B = high at *
  generalize hMore : List.replicate (10 + less).toNat x = more at *
  generalize hHM : high ++ more = hm at *
  generalize hLH : low ++ high = lh at *
  have ei : ∀ L : List Int, D.lst .own (L.map D.int) = li .own L := fun _ => rfl
  -- the cuts
  obtain ⟨C, p3, e3, s3⟩ := loopC_pick (f := lcF (run (tabOf rows) (k + 3)) [13] (.nm 13) (.cmp .eq [.call 7 [.pk 0, .cst (.int 2)], .cst (.int 0)]) (.var 13)) (G := fun p => [some (pu p), some (li .shr P), some (.int P.length), some (.int v1), some (.int less), some (li .shr low), some (li .shr high), some (li .shr more), none, none, none, none, none, none]) (gps P) p2 fun x _ p => by
    obtain ⟨v, p', e, a, b⟩ := dr t_draw (k + 2) p 2 (by omega) (by omega)
    refine ⟨decide (v = 0), p', ?_⟩
    by_cases c : v = 0 <;> simp -implicitDefEqProofs [e, c]
  rw [← gps_D] at e3
  have cok := gps_ok hP.ne s3
  have cl : C.length ≤ 10 := by
    have := s3.length_le
    rw [gps_len] at this
    omega
  have c1 : ∀ c ∈ C, 1 ≤ c := fun c hc => by
    obtain ⟨j, -, rfl⟩ := List.mem_map.mp (s3.subset hc)
    omega
  have casc := (List.pairwise_append.mp (okC_asc cok)).1
  have o1 : okRg (10 + less) = true := okRgI (by omega)
  have o2 : okRg (P.length : Int) = true := okRgI (by omega)
  have lc : C.length ≤ line := by unfold line; omega
  have b0 : ∀ y, addF (.lst .own [.int y]) (li .own C) = some (li .own (y :: C)) := fun y => by
    have := add_li .own .own [y] C
    rw [if_pos (by unfold line; simp; omega)] at this
    exact this
  have b1 : ∀ y, addF (li .own C) (.lst .own [.int y]) = some (li .own (C ++ [y])) := fun y => by
    rw [add_one, if_pos (by unfold line; omega)]
  have b2 : addF (li .own C) (li .own C) = some (li .own (C ++ C)) := by
    rw [add_li, if_pos (by unfold line; omega)]
  have lp2 := fun X : Option D => loopS_id (f := frF (run (tabOf rows) (k + 3)) (.nm 8) [8] wB) (Γ := [some (pu p3), some (li .shr P), some (.int P.length), some (.int v1), some (.int less), some (li .shr low), some (li .shr high), some (li .shr more), none, none, some (li .own C), X, none, none]) (xs := (wrg P.length less C).map (li .shr)) fun y hy => by
    obtain ⟨W, hW, rfl⟩ := List.mem_map.mp hy
    refine wr_turn k hP ?_ (wrg_bad (by omega) c1 hW)
    unfold wrg at hW
    simp only [List.mem_cons, List.not_mem_nil, or_false] at hW
    rcases hW with rfl | rfl | rfl | rfl | rfl | rfl
    · simp; omega
    · simp; omega
    · simp; omega
    · simp; omega
    · split
      · simp
      · simp; omega
    · simp; omega
  have ew : wB = [.iff (.and [.cmp .ne [.pk 8, .lst []], .cmp .ne [.told 10 4 [.op .call .list [.pk 1], .op .call .list [.pk 8]], .tup [.cst (.str "BadPlan"), .cst (.str "cuts")]]]) [.ret (.cst (.bl false))] []] := rfl
  rw [ew] at lp2
  -- behind the loops
  have r1 : revF (li .own C) = some (li .own C.reverse) := by
    unfold li
    show guardO (dupL (C.map D.int)) _ = _
    rw [q_dup_ints, List.map_reverse]
    rfl
  have u1 := unnamed_good k (o := .own) (p := .own) hP (cs := C.reverse) (by simp; omega)
  have u2 := unnamed_good k (o := .own) (p := .own) hP (cs := C) (by omega)
  rw [if_pos cok] at u2
  have u3 := most_neg k (o := .own) (P := P) (c := -less) (by omega) hP
  have u4 := cut_ok (k + 2) (o := .shr) (p := .own) (P := P) (cs := C) (by omega) (by omega) cok
  have u5 := match_int t_match (k + 2) (un P C)
  have t1 := told_x (k + 2) (c := ⟨"BadPlan", "what"⟩) (x := .str "cuts") rfl (.inr (.inl rfl))
  have t2 := told_x (k + 2) (c := ⟨"BadPlan", "what"⟩) (x := .str "numbers") rfl (.inr (.inl rfl))
  have n1 : cmpF .ne (.tup [.str "BadPlan", .str "cuts"]) (.tup [.str "BadPlan", .str "cuts"]) = some false := ne_two (by decide +kernel) (by decide +kernel)
  have n2 : cmpF .ne (.tup [.str "BadPlan", .str "numbers"]) (.tup [.str "BadPlan", .str "numbers"]) = some false := ne_two (by decide +kernel) (by decide +kernel)
  have e0 : cmpF .ne (li .own C) (.lst .own []) = some (!C.isEmpty) := q_ne_nilI
  have g0 := gps_D P
  refine ⟨p3, ?_⟩
  rw [run_of (p := r_law_ahead_refused.d) rfl rfl]
  have dl : ∀ L : List Int, dup (li .own L) = false := fun _ => rfl
  have hless' : 1 + (v2 : Int) = less := hless.symm
  have rest : ∀ (hC : Bool), C.isEmpty = hC → leave r_law_ahead_refused.d (exSs (run (tabOf rows) (k + 3)) r_law_ahead_refused.d.body (enter r_law_ahead_refused.d [pu p, li .shr P])) = .ok (.bl true) [pu p3, li .shr P] := fun hC eC => by
    have lp3 := lp2
    unfold wrg at lp3
    by_cases hl : 1 < C.length
    · rw [wrg_rev casc hl, if_neg Bool.false_ne_true] at u1
      have hl' : (1 : Int) < C.length := by omega
      cases hC with
      | true =>
        rw [List.isEmpty_iff] at eC
        subst eC
        simp at hl
      | false =>
        have hn : ¬ C = [] := by
          intro h
          rw [h] at eC
          cases eC
        rw [if_neg hn] at lp3
        simp only [List.map_cons, List.map_nil] at lp3
        simp -implicitDefEqProofs [r_law_ahead_refused, b_law_ahead_refused, enter, e1, e2, hless', cA, cB, a1, a2, o1, mr, ei, lm, dl, a3, a4, lp, o2, e3, lc, b0, b1, b2, e0, eC, lp3, hl', r1, u1, u2, u3, u4, u5, t1, t2, n1, n2, hLow, hHigh]
    · have hl' : ¬ (1 : Int) < C.length := by omega
      cases hC with
      | true =>
        have hn := List.isEmpty_iff.mp eC
        rw [if_pos hn] at lp3
        simp only [List.map_cons, List.map_nil] at lp3
        rw [show li .shr [0] = .lst .shr [.int 0] from rfl] at lp3
        simp -implicitDefEqProofs [r_law_ahead_refused, b_law_ahead_refused, enter, e1, e2, hless', cA, cB, a1, a2, o1, mr, ei, lm, dl, a3, a4, lp, o2, e3, lc, b0, b1, b2, e0, eC, lp3, hl', r1, u2, u3, u4, u5, t1, t2, n1, n2, hLow, hHigh]
      | false =>
        have hn : ¬ C = [] := by
          intro h
          rw [h] at eC
          cases eC
        rw [if_neg hn] at lp3
        simp only [List.map_cons, List.map_nil] at lp3
        simp -implicitDefEqProofs [r_law_ahead_refused, b_law_ahead_refused, enter, e1, e2, hless', cA, cB, a1, a2, o1, mr, ei, lm, dl, a3, a4, lp, o2, e3, lc, b0, b1, b2, e0, eC, lp3, hl', r1, u2, u3, u4, u5, t1, t2, n1, n2, hLow, hHigh]
  exact rest _ rfl
theorem law_run (ns : List Int) (hl : ns.length ≤ 63) : ∃ fs, run (tabOf rows) 60 17 [.lst .shr (ns.map D.int)] = .ok (.bl true) fs := by
  obtain ⟨p0, a0⟩ := purse_ok t_purse 58 ns 0
  obtain ⟨q0, b0⟩ := purse_ok t_purse 58 ns 1
  obtain ⟨w0, c0⟩ := purse_ok t_purse 58 ns 2
  obtain ⟨P, p1, e1, hP, h7⟩ := drawn_ok 57 p0
  obtain ⟨Q, q1, f1, hQ, g7⟩ := drawn_ok 57 q0
  obtain ⟨w1, l1⟩ := long_ok 54 w0
  have r1 := ahead_right 54 hP
  have r2 := ahead_right 54 hQ
  obtain ⟨p2, s1⟩ := refused_ok 55 p1 hP h7
  obtain ⟨p3, s2⟩ := refused_ok 55 p2 hQ g7
  have a0 : run (tabOf rows) 59 6 [.lst .shr (ns.map D.int), .int 0] = .ok (pu p0) [.lst .shr (ns.map D.int), .int 0] := a0
  have b0 : run (tabOf rows) 59 6 [.lst .shr (ns.map D.int), .int 1] = .ok (pu q0) [.lst .shr (ns.map D.int), .int 1] := b0
  have c0 : run (tabOf rows) 59 6 [.lst .shr (ns.map D.int), .int 2] = .ok (pu w0) [.lst .shr (ns.map D.int), .int 2] := c0
  have t1 : frF (run (tabOf rows) 59) (.nm 3) [3] (bodyAt b_law 2) (li .shr P) [some (.lst .shr (ns.map D.int)), some (pu p1), some (.lst .lent [li .shr P, li .shr Q]), none] = .nx [some (.lst .shr (ns.map D.int)), some (pu p2), some (.lst .lent [li .shr P, li .shr Q]), none] := by
    simp -implicitDefEqProofs [frF, bodyAt, stmB, b_law, r1, s1]
  have t2 : frF (run (tabOf rows) 59) (.nm 3) [3] (bodyAt b_law 2) (li .shr Q) [some (.lst .shr (ns.map D.int)), some (pu p2), some (.lst .lent [li .shr P, li .shr Q]), none] = .nx [some (.lst .shr (ns.map D.int)), some (pu p3), some (.lst .lent [li .shr P, li .shr Q]), none] := by
    simp -implicitDefEqProofs [frF, bodyAt, stmB, b_law, r2, s2]
  have lp : loopS (frF (run (tabOf rows) 59) (.nm 3) [3] (bodyAt b_law 2)) [li .shr P, li .shr Q] [some (.lst .shr (ns.map D.int)), some (pu p1), some (.lst .lent [li .shr P, li .shr Q]), none] = .nx [some (.lst .shr (ns.map D.int)), some (pu p3), some (.lst .lent [li .shr P, li .shr Q]), none] := by
    rw [loopS_cons t1, loopS_cons t2]
    rfl
  simp only [bodyAt, stmB, b_law, List.getElem?_cons_succ, List.getElem?_cons_zero] at lp
  refine ⟨[.lst .shr (ns.map D.int)], ?_⟩
  rw [run_of (p := r_law.d) rfl rfl]
  simp -implicitDefEqProofs [r_law, b_law, enter, a0, b0, c0, e1, f1, lp, l1]
end K14

end
section
set_option maxRecDepth 100000
namespace K14
open PySem VE L2
theorem all_mk {K : PySem.W.Frag}
    {f0 : Addr} {od0 an0 : Option Addr} {sl0 : Array (Option Value)} {oc0 kV0 dc0 pm0 cd0 ct0 : Value} (a0 : PySem.W.nsIn K mainGlobals "check_most" = some (some (.ref f0))) (l0 : K.lookup f0 = some ⟨oc0, od0, .func (PySem.W.fnOf "check_most" "check_most" (defArgs (top 9)) (defBody (top 9)) (defScope (top 9)) .none kV0 dc0 pm0 an0 cd0 ct0), sl0⟩) (c0 : PySem.W.codeIn K cd0 "check_most" = true) (k0 : PySem.W.keepIn K (.ref f0) = true)
    {f1 : Addr} {od1 an1 : Option Addr} {sl1 : Array (Option Value)} {oc1 kV1 dc1 pm1 cd1 ct1 : Value} (a1 : PySem.W.nsIn K mainGlobals "check_each" = some (some (.ref f1))) (l1 : K.lookup f1 = some ⟨oc1, od1, .func (PySem.W.fnOf "check_each" "check_each" (defArgs (top 10)) (defBody (top 10)) (defScope (top 10)) .none kV1 dc1 pm1 an1 cd1 ct1), sl1⟩) (c1 : PySem.W.codeIn K cd1 "check_each" = true) (k1 : PySem.W.keepIn K (.ref f1) = true)
    {f2 : Addr} {od2 an2 : Option Addr} {sl2 : Array (Option Value)} {oc2 kV2 dc2 pm2 cd2 ct2 : Value} (a2 : PySem.W.nsIn K mainGlobals "check_pocket_bounds" = some (some (.ref f2))) (l2 : K.lookup f2 = some ⟨oc2, od2, .func (PySem.W.fnOf "check_pocket_bounds" "check_pocket_bounds" (defArgs (top 12)) (defBody (top 12)) (defScope (top 12)) .none kV2 dc2 pm2 an2 cd2 ct2), sl2⟩) (c2 : PySem.W.codeIn K cd2 "check_pocket_bounds" = true) (k2 : PySem.W.keepIn K (.ref f2) = true)
    {f3 : Addr} {od3 an3 : Option Addr} {sl3 : Array (Option Value)} {oc3 kV3 dc3 pm3 cd3 ct3 : Value} (a3 : PySem.W.nsIn K mainGlobals "check_pockets" = some (some (.ref f3))) (l3 : K.lookup f3 = some ⟨oc3, od3, .func (PySem.W.fnOf "check_pockets" "check_pockets" (defArgs (top 13)) (defBody (top 13)) (defScope (top 13)) .none kV3 dc3 pm3 an3 cd3 ct3), sl3⟩) (c3 : PySem.W.codeIn K cd3 "check_pockets" = true) (k3 : PySem.W.keepIn K (.ref f3) = true)
    {f4 : Addr} {od4 an4 : Option Addr} {sl4 : Array (Option Value)} {oc4 kV4 dc4 pm4 cd4 ct4 : Value} (a4 : PySem.W.nsIn K mainGlobals "unnamed_at" = some (some (.ref f4))) (l4 : K.lookup f4 = some ⟨oc4, od4, .func (PySem.W.fnOf "unnamed_at" "unnamed_at" (defArgs (top 14)) (defBody (top 14)) (defScope (top 14)) .none kV4 dc4 pm4 an4 cd4 ct4), sl4⟩) (c4 : PySem.W.codeIn K cd4 "unnamed_at" = true) (k4 : PySem.W.keepIn K (.ref f4) = true)
    {f5 : Addr} {od5 an5 : Option Addr} {sl5 : Array (Option Value)} {oc5 kV5 dc5 pm5 cd5 ct5 : Value} (a5 : PySem.W.nsIn K mainGlobals "most_unnamed" = some (some (.ref f5))) (l5 : K.lookup f5 = some ⟨oc5, od5, .func (PySem.W.fnOf "most_unnamed" "most_unnamed" (defArgs (top 15)) (defBody (top 15)) (defScope (top 15)) .none kV5 dc5 pm5 an5 cd5 ct5), sl5⟩) (c5 : PySem.W.codeIn K cd5 "most_unnamed" = true) (k5 : PySem.W.keepIn K (.ref f5) = true)
    {f6 : Addr} {od6 an6 : Option Addr} {sl6 : Array (Option Value)} {oc6 kV6 dc6 pm6 cd6 ct6 : Value} (a6 : PySem.W.nsIn K mainGlobals "_law_purse" = some (some (.ref f6))) (l6 : K.lookup f6 = some ⟨oc6, od6, .func (PySem.W.fnOf "_law_purse" "_law_purse" (defArgs (top 17)) (defBody (top 17)) (defScope (top 17)) .none kV6 dc6 pm6 an6 cd6 ct6), sl6⟩) (c6 : PySem.W.codeIn K cd6 "_law_purse" = true) (k6 : PySem.W.keepIn K (.ref f6) = true)
    {f7 : Addr} {od7 an7 : Option Addr} {sl7 : Array (Option Value)} {oc7 kV7 dc7 pm7 cd7 ct7 : Value} (a7 : PySem.W.nsIn K mainGlobals "_law_draw" = some (some (.ref f7))) (l7 : K.lookup f7 = some ⟨oc7, od7, .func (PySem.W.fnOf "_law_draw" "_law_draw" (defArgs (top 18)) (defBody (top 18)) (defScope (top 18)) .none kV7 dc7 pm7 an7 cd7 ct7), sl7⟩) (c7 : PySem.W.codeIn K cd7 "_law_draw" = true) (k7 : PySem.W.keepIn K (.ref f7) = true)
    {f8 : Addr} {od8 an8 : Option Addr} {sl8 : Array (Option Value)} {oc8 kV8 dc8 pm8 cd8 ct8 : Value} (a8 : PySem.W.nsIn K mainGlobals "_law_matches" = some (some (.ref f8))) (l8 : K.lookup f8 = some ⟨oc8, od8, .func (PySem.W.fnOf "_law_matches" "_law_matches" (defArgs (top 19)) (defBody (top 19)) (defScope (top 19)) .none kV8 dc8 pm8 an8 cd8 ct8), sl8⟩) (c8 : PySem.W.codeIn K cd8 "_law_matches" = true) (k8 : PySem.W.keepIn K (.ref f8) = true)
    {f9 : Addr} {od9 an9 : Option Addr} {sl9 : Array (Option Value)} {oc9 kV9 dc9 pm9 cd9 ct9 : Value} (a9 : PySem.W.nsIn K mainGlobals "_law_choose" = some (some (.ref f9))) (l9 : K.lookup f9 = some ⟨oc9, od9, .func (PySem.W.fnOf "_law_choose" "_law_choose" (defArgs (top 20)) (defBody (top 20)) (defScope (top 20)) .none kV9 dc9 pm9 an9 cd9 ct9), sl9⟩) (c9 : PySem.W.codeIn K cd9 "_law_choose" = true) (k9 : PySem.W.keepIn K (.ref f9) = true)
    {f10 : Addr} {od10 an10 : Option Addr} {sl10 : Array (Option Value)} {oc10 kV10 dc10 pm10 cd10 ct10 : Value} (a10 : PySem.W.nsIn K mainGlobals "_law_pockets_told" = some (some (.ref f10))) (l10 : K.lookup f10 = some ⟨oc10, od10, .func (PySem.W.fnOf "_law_pockets_told" "_law_pockets_told" (defArgs (top 21)) (defBody (top 21)) (defScope (top 21)) .none kV10 dc10 pm10 an10 cd10 ct10), sl10⟩) (c10 : PySem.W.codeIn K cd10 "_law_pockets_told" = true) (k10 : PySem.W.keepIn K (.ref f10) = true)
    {f11 : Addr} {od11 an11 : Option Addr} {sl11 : Array (Option Value)} {oc11 kV11 dc11 pm11 cd11 ct11 : Value} (a11 : PySem.W.nsIn K mainGlobals "_law_drawn_pockets" = some (some (.ref f11))) (l11 : K.lookup f11 = some ⟨oc11, od11, .func (PySem.W.fnOf "_law_drawn_pockets" "_law_drawn_pockets" (defArgs (top 22)) (defBody (top 22)) (defScope (top 22)) .none kV11 dc11 pm11 an11 cd11 ct11), sl11⟩) (c11 : PySem.W.codeIn K cd11 "_law_drawn_pockets" = true) (k11 : PySem.W.keepIn K (.ref f11) = true)
    {f12 : Addr} {od12 an12 : Option Addr} {sl12 : Array (Option Value)} {oc12 kV12 dc12 pm12 cd12 ct12 : Value} (a12 : PySem.W.nsIn K mainGlobals "_law_cut_unnamed" = some (some (.ref f12))) (l12 : K.lookup f12 = some ⟨oc12, od12, .func (PySem.W.fnOf "_law_cut_unnamed" "_law_cut_unnamed" (defArgs (top 23)) (defBody (top 23)) (defScope (top 23)) .none kV12 dc12 pm12 an12 cd12 ct12), sl12⟩) (c12 : PySem.W.codeIn K cd12 "_law_cut_unnamed" = true) (k12 : PySem.W.keepIn K (.ref f12) = true)
    {f13 : Addr} {od13 an13 : Option Addr} {sl13 : Array (Option Value)} {oc13 kV13 dc13 pm13 cd13 ct13 : Value} (a13 : PySem.W.nsIn K mainGlobals "_law_best_cuts" = some (some (.ref f13))) (l13 : K.lookup f13 = some ⟨oc13, od13, .func (PySem.W.fnOf "_law_best_cuts" "_law_best_cuts" (defArgs (top 24)) (defBody (top 24)) (defScope (top 24)) .none kV13 dc13 pm13 an13 cd13 ct13), sl13⟩) (c13 : PySem.W.codeIn K cd13 "_law_best_cuts" = true) (k13 : PySem.W.keepIn K (.ref f13) = true)
    {f14 : Addr} {od14 an14 : Option Addr} {sl14 : Array (Option Value)} {oc14 kV14 dc14 pm14 cd14 ct14 : Value} (a14 : PySem.W.nsIn K mainGlobals "_law_ahead_right" = some (some (.ref f14))) (l14 : K.lookup f14 = some ⟨oc14, od14, .func (PySem.W.fnOf "_law_ahead_right" "_law_ahead_right" (defArgs (top 25)) (defBody (top 25)) (defScope (top 25)) .none kV14 dc14 pm14 an14 cd14 ct14), sl14⟩) (c14 : PySem.W.codeIn K cd14 "_law_ahead_right" = true) (k14 : PySem.W.keepIn K (.ref f14) = true)
    {f15 : Addr} {od15 an15 : Option Addr} {sl15 : Array (Option Value)} {oc15 kV15 dc15 pm15 cd15 ct15 : Value} (a15 : PySem.W.nsIn K mainGlobals "_law_long_right" = some (some (.ref f15))) (l15 : K.lookup f15 = some ⟨oc15, od15, .func (PySem.W.fnOf "_law_long_right" "_law_long_right" (defArgs (top 26)) (defBody (top 26)) (defScope (top 26)) .none kV15 dc15 pm15 an15 cd15 ct15), sl15⟩) (c15 : PySem.W.codeIn K cd15 "_law_long_right" = true) (k15 : PySem.W.keepIn K (.ref f15) = true)
    {f16 : Addr} {od16 an16 : Option Addr} {sl16 : Array (Option Value)} {oc16 kV16 dc16 pm16 cd16 ct16 : Value} (a16 : PySem.W.nsIn K mainGlobals "_law_ahead_refused" = some (some (.ref f16))) (l16 : K.lookup f16 = some ⟨oc16, od16, .func (PySem.W.fnOf "_law_ahead_refused" "_law_ahead_refused" (defArgs (top 27)) (defBody (top 27)) (defScope (top 27)) .none kV16 dc16 pm16 an16 cd16 ct16), sl16⟩) (c16 : PySem.W.codeIn K cd16 "_law_ahead_refused" = true) (k16 : PySem.W.keepIn K (.ref f16) = true)
    {f17 : Addr} {od17 an17 : Option Addr} {sl17 : Array (Option Value)} {oc17 kV17 dc17 pm17 cd17 ct17 : Value} (a17 : PySem.W.nsIn K mainGlobals "law" = some (some (.ref f17))) (l17 : K.lookup f17 = some ⟨oc17, od17, .func (PySem.W.fnOf "law" "law" (defArgs (top 28)) (defBody (top 28)) (defScope (top 28)) .none kV17 dc17 pm17 an17 cd17 ct17), sl17⟩) (c17 : PySem.W.codeIn K cd17 "law" = true) (k17 : PySem.W.keepIn K (.ref f17) = true)
    {t0 : Tok} (g0 : PySem.W.nsIn K mainGlobals "NUMBERS" = some (some (.int 1000000 t0)))
    {t1 : Tok} (g1 : PySem.W.nsIn K mainGlobals "POCKETS" = some (some (.int 10 t1)))
    {t2 : Tok} (g2 : PySem.W.nsIn K mainGlobals "POCKET" = some (some (.int 6 t2)))
    (z0 : PySem.W.nsIn K mainGlobals "len" = some none)
    (z1 : PySem.W.nsIn K mainGlobals "range" = some none)
    (z2 : PySem.W.nsIn K mainGlobals "sum" = some none)
    (z3 : PySem.W.nsIn K mainGlobals "list" = some none)
    (z4 : PySem.W.nsIn K mainGlobals "max" = some none)
    (z5 : PySem.W.nsIn K mainGlobals "sorted" = some none)
    (z6 : PySem.W.nsIn K mainGlobals "min" = some none)
    (z7 : PySem.W.nsIn K mainGlobals "int" = some none)
    (z8 : PySem.W.nsIn K mainGlobals "abs" = some none)
    (z9 : PySem.W.nsIn K mainGlobals "isinstance" = some none)
    (z10 : PySem.W.nsIn K mainGlobals "str" = some none)
    (z11 : PySem.W.nsIn K mainGlobals "bool" = some none)
    (z12 : PySem.W.nsIn K mainGlobals "tuple" = some none)
    {B : Addr} (hB1 : PySem.W.nsIn K mainGlobals "HandsError" = some (some (.ref B))) (hB2 : PySem.W.typeIn K (.ref B) = some (.type "type")) (hB3 : PySem.W.isClsIn K B = true) (hB4 : PySem.W.findIn K (.ref B) "__init__" = some (some (.builtin "ValueError.__init__"))) (hB5 : PySem.W.nsIn K cStatics "thirdparty.any" = some none) (hB6 : PySem.W.subIn K (.ref B) (.type "BaseException") = some true)
    {C0 fI0 : Addr} {cn0 cq0 : Str} {cN0 : Addr} {cb0 : List Value} {csn0 : List Str} {csu0 : List Value} {cab0 : Bool} {cco0 : Option Bool} {cdd0 : Option Addr} {m00 m10 m20 m30 m50 : Option Value} {xod0 xan0 : Option Addr} {xsl0 : Array (Option Value)} {xoc0 xkV0 xdc0 xpm0 xcd0 xct0 : Value} (xa0 : PySem.W.nsIn K mainGlobals "TooMany" = some (some (.ref C0))) (xl0 : K.lookup C0 = some (excClassObj cn0 cq0 C0 cN0 cb0 [.ref B, .type "ValueError", .type "Exception", .type "BaseException", .type "object"] true csn0 csu0 cab0 cco0 cdd0 m00 m10 m20 m30 m50 "ValueError.__new__")) (xs0 : PySem.W.findIn K (.ref C0) "__setattr__" = some (some (.builtin "object.__setattr__"))) (xg0 : PySem.W.findIn K (.ref C0) "__getattribute__" = some (some (.builtin "BaseException.__getattribute__"))) (xh0 : PySem.W.findIn K (.ref C0) "__getattr__" = some none) (xn0 : PySem.W.findIn K (.ref C0) "what" = some none) (xi0 : PySem.W.findIn K (.ref C0) "__init__" = some (some (.ref fI0))) (xt0 : PySem.W.typeIn K (.ref fI0) = some (.type "function")) (xf0 : K.lookup fI0 = some ⟨xoc0, xod0, .func (PySem.W.fnOf "__init__" "TooMany.__init__" (defArgs (clsPart (top 2) 0)) (defBody (clsPart (top 2) 0)) (defScope (clsPart (top 2) 0)) .none xkV0 xdc0 xpm0 xan0 xcd0 xct0), xsl0⟩) (xc0 : PySem.W.codeIn K xcd0 "TooMany.__init__" = true) (xj0 : PySem.W.keepIn K (.ref fI0) = true) (xk0 : PySem.W.keepIn K (.ref C0) = true) (xe0 : PySem.W.subIn K (.ref C0) (.type "BaseException") = some true) (xy0 : PySem.W.typeIn K (.ref C0) = some (.type "type")) (xd0 : PySem.W.hasDictIn K C0 = true) (xz0 : PySem.W.isClsIn K C0 = true) (xb0 : PySem.W.subIn K (.ref C0) (.ref B) = some true)
    {C1 fI1 : Addr} {cn1 cq1 : Str} {cN1 : Addr} {cb1 : List Value} {csn1 : List Str} {csu1 : List Value} {cab1 : Bool} {cco1 : Option Bool} {cdd1 : Option Addr} {m01 m11 m21 m31 m51 : Option Value} {xod1 xan1 : Option Addr} {xsl1 : Array (Option Value)} {xoc1 xkV1 xdc1 xpm1 xcd1 xct1 : Value} (xa1 : PySem.W.nsIn K mainGlobals "BadPlan" = some (some (.ref C1))) (xl1 : K.lookup C1 = some (excClassObj cn1 cq1 C1 cN1 cb1 [.ref B, .type "ValueError", .type "Exception", .type "BaseException", .type "object"] true csn1 csu1 cab1 cco1 cdd1 m01 m11 m21 m31 m51 "ValueError.__new__")) (xs1 : PySem.W.findIn K (.ref C1) "__setattr__" = some (some (.builtin "object.__setattr__"))) (xg1 : PySem.W.findIn K (.ref C1) "__getattribute__" = some (some (.builtin "BaseException.__getattribute__"))) (xh1 : PySem.W.findIn K (.ref C1) "__getattr__" = some none) (xn1 : PySem.W.findIn K (.ref C1) "what" = some none) (xi1 : PySem.W.findIn K (.ref C1) "__init__" = some (some (.ref fI1))) (xt1 : PySem.W.typeIn K (.ref fI1) = some (.type "function")) (xf1 : K.lookup fI1 = some ⟨xoc1, xod1, .func (PySem.W.fnOf "__init__" "BadPlan.__init__" (defArgs (clsPart (top 3) 0)) (defBody (clsPart (top 3) 0)) (defScope (clsPart (top 3) 0)) .none xkV1 xdc1 xpm1 xan1 xcd1 xct1), xsl1⟩) (xc1 : PySem.W.codeIn K xcd1 "BadPlan.__init__" = true) (xj1 : PySem.W.keepIn K (.ref fI1) = true) (xk1 : PySem.W.keepIn K (.ref C1) = true) (xe1 : PySem.W.subIn K (.ref C1) (.type "BaseException") = some true) (xy1 : PySem.W.typeIn K (.ref C1) = some (.type "type")) (xd1 : PySem.W.hasDictIn K C1 = true) (xz1 : PySem.W.isClsIn K C1 = true) (xb1 : PySem.W.subIn K (.ref C1) (.ref B) = some true)
    {C2 fI2 : Addr} {cn2 cq2 : Str} {cN2 : Addr} {cb2 : List Value} {csn2 : List Str} {csu2 : List Value} {cab2 : Bool} {cco2 : Option Bool} {cdd2 : Option Addr} {m02 m12 m22 m32 m52 : Option Value} {xod2 xan2 : Option Addr} {xsl2 : Array (Option Value)} {xoc2 xkV2 xdc2 xpm2 xcd2 xct2 : Value} (xa2 : PySem.W.nsIn K mainGlobals "BadPocket" = some (some (.ref C2))) (xl2 : K.lookup C2 = some (excClassObj cn2 cq2 C2 cN2 cb2 [.ref B, .type "ValueError", .type "Exception", .type "BaseException", .type "object"] true csn2 csu2 cab2 cco2 cdd2 m02 m12 m22 m32 m52 "ValueError.__new__")) (xs2 : PySem.W.findIn K (.ref C2) "__setattr__" = some (some (.builtin "object.__setattr__"))) (xg2 : PySem.W.findIn K (.ref C2) "__getattribute__" = some (some (.builtin "BaseException.__getattribute__"))) (xh2 : PySem.W.findIn K (.ref C2) "__getattr__" = some none) (xn2 : PySem.W.findIn K (.ref C2) "place" = some none) (xi2 : PySem.W.findIn K (.ref C2) "__init__" = some (some (.ref fI2))) (xt2 : PySem.W.typeIn K (.ref fI2) = some (.type "function")) (xf2 : K.lookup fI2 = some ⟨xoc2, xod2, .func (PySem.W.fnOf "__init__" "BadPocket.__init__" (defArgs (clsPart (top 4) 0)) (defBody (clsPart (top 4) 0)) (defScope (clsPart (top 4) 0)) .none xkV2 xdc2 xpm2 xan2 xcd2 xct2), xsl2⟩) (xc2 : PySem.W.codeIn K xcd2 "BadPocket.__init__" = true) (xj2 : PySem.W.keepIn K (.ref fI2) = true) (xk2 : PySem.W.keepIn K (.ref C2) = true) (xe2 : PySem.W.subIn K (.ref C2) (.type "BaseException") = some true) (xy2 : PySem.W.typeIn K (.ref C2) = some (.type "type")) (xd2 : PySem.W.hasDictIn K C2 = true) (xz2 : PySem.W.isClsIn K C2 = true) (xb2 : PySem.W.subIn K (.ref C2) (.ref B) = some true)
    (q0_0 : PySem.W.subIn K (.ref C0) (.ref C0) = some true)
    (q0_1 : PySem.W.subIn K (.ref C0) (.ref C1) = some false)
    (q0_2 : PySem.W.subIn K (.ref C0) (.ref C2) = some false)
    (q1_0 : PySem.W.subIn K (.ref C1) (.ref C0) = some false)
    (q1_1 : PySem.W.subIn K (.ref C1) (.ref C1) = some true)
    (q1_2 : PySem.W.subIn K (.ref C1) (.ref C2) = some false)
    (q2_0 : PySem.W.subIn K (.ref C2) (.ref C0) = some false)
    (q2_1 : PySem.W.subIn K (.ref C2) (.ref C1) = some false)
    (q2_2 : PySem.W.subIn K (.ref C2) (.ref C2) = some true)
    {lc0 lp0 : Addr} {lo0 : Value} {ld0 : Option Addr} {ls0 : Array (Option Value)} {lv0 : Array Value} (le0 : cd5 = .ref lc0) (lk0 : K.lookup lc0 = some ⟨lo0, ld0, .fields lv0, ls0⟩) (lt0 : (lv0[11]? : Option Value) = some (.ref lp0)) (ln0 : K.lookup lp0 = none)
    {lc1 lp1 : Addr} {lo1 : Value} {ld1 : Option Addr} {ls1 : Array (Option Value)} {lv1 : Array Value} (le1 : cd16 = .ref lc1) (lk1 : K.lookup lc1 = some ⟨lo1, ld1, .fields lv1, ls1⟩) (lt1 : (lv1[11]? : Option Value) = some (.ref lp1)) (ln1 : K.lookup lp1 = none)
    (lk : csOk rows [("most_unnamed", lc0, lp0), ("_law_ahead_refused", lc1, lp1)] = true)
    : LawTab rows crs gl bi K ∧ LamTab rows lams K := letI : TC := ⟨[]⟩; ⟨⟨⟨fun_at (r := r_check_most) a0 l0 c0 k0,
      fun_at (r := r_check_each) a1 l1 c1 k1,
      fun_at (r := r_check_pocket_bounds) a2 l2 c2 k2,
      fun_at (r := r_check_pockets) a3 l3 c3 k3,
      fun_at (r := r_unnamed_at) a4 l4 c4 k4,
      fun_at (r := r_most_unnamed) a5 l5 c5 k5,
      fun_at (r := r_law_purse) a6 l6 c6 k6,
      fun_at (r := r_law_draw) a7 l7 c7 k7,
      fun_at (r := r_law_matches) a8 l8 c8 k8,
      fun_at (r := r_law_choose) a9 l9 c9 k9,
      fun_at (r := r_law_pockets_told) a10 l10 c10 k10,
      fun_at (r := r_law_drawn_pockets) a11 l11 c11 k11,
      fun_at (r := r_law_cut_unnamed) a12 l12 c12 k12,
      fun_at (r := r_law_best_cuts) a13 l13 c13 k13,
      fun_at (r := r_law_ahead_right) a14 l14 c14 k14,
      fun_at (r := r_law_long_right) a15 l15 c15 k15,
      fun_at (r := r_law_ahead_refused) a16 l16 c16 k16,
      fun_at (r := r_law) a17 l17 c17 k17, trivial⟩, ⟨cst_int g0, cst_int g1, cst_int g2, trivial⟩, ⟨z0, z1, z2, z3, z4, z5, z6, z7, z8, z9, z10, z11, z12, trivial⟩,
      fun _ => ⟨B, [C0, C1, C2], ⟨hB1, hB2, hB3, hB4, hB5, hB6⟩, ⟨⟨⟨xa0, ⟨⟨cn0, cq0, cN0, cb0, _, csn0, csu0, cab0, cco0, cdd0, m00, m10, m20, m30, m50, xl0, by kernel_rfl⟩, xs0, xe0, xy0, xk0⟩, ⟨xg0, xh0, xe0, xd0⟩, xn0, ⟨fI0, _, _, _, _, _, _, _, _, _, xi0, xt0, xf0, xc0, xj0⟩⟩, xz0, pair_is xb0 (by decide +kernel), ⟨pair_is q0_0 (by decide +kernel), pair_is q0_1 (by decide +kernel), pair_is q0_2 (by decide +kernel), trivial⟩⟩,
      ⟨⟨xa1, ⟨⟨cn1, cq1, cN1, cb1, _, csn1, csu1, cab1, cco1, cdd1, m01, m11, m21, m31, m51, xl1, by kernel_rfl⟩, xs1, xe1, xy1, xk1⟩, ⟨xg1, xh1, xe1, xd1⟩, xn1, ⟨fI1, _, _, _, _, _, _, _, _, _, xi1, xt1, xf1, xc1, xj1⟩⟩, xz1, pair_is xb1 (by decide +kernel), ⟨pair_is q1_0 (by decide +kernel), pair_is q1_1 (by decide +kernel), pair_is q1_2 (by decide +kernel), trivial⟩⟩,
      ⟨⟨xa2, ⟨⟨cn2, cq2, cN2, cb2, _, csn2, csu2, cab2, cco2, cdd2, m02, m12, m22, m32, m52, xl2, by kernel_rfl⟩, xs2, xe2, xy2, xk2⟩, ⟨xg2, xh2, xe2, xd2⟩, xn2, ⟨fI2, _, _, _, _, _, _, _, _, _, xi2, xt2, xf2, xc2, xj2⟩⟩, xz2, pair_is xb2 (by decide +kernel), ⟨pair_is q2_0 (by decide +kernel), pair_is q2_1 (by decide +kernel), pair_is q2_2 (by decide +kernel), trivial⟩⟩,
      trivial⟩⟩⟩, ⟨[("most_unnamed", lc0, lp0), ("_law_ahead_refused", lc1, lp1)], rfl, ⟨⟨tab_mk a5 l5 le0 lk0 lt0, ln0⟩, ⟨tab_mk a16 l16 le1 lk1 lt1, ln1⟩, trivial⟩, lk⟩⟩
end K14
open PySem PySem.W PyProof.Rows in
set_option maxRecDepth 100000 in
set_option maxHeartbeats 0 in
theorem PySem.Challenge.cw_cleanhands_k14_weighings_told_ahead_holds : PySem.Challenge.rw_cleanhands_k14_weighings_told_ahead.Holds := by
  w_on; o_law; k_head; (case hw => w_witness2)
  k_fill
  refine VE.ve_walk (l := PySem.Challenge.rw_cleanhands_k14_weighings_told_ahead) (n := 63) (k := 60) (i := 17) (rows := K14.rows) (crs := K14.crs) (gl := K14.gl) (bi := K14.bi) (r := K14.r_law) (x := "script") rfl (by rw [sizeLine_eq]; decide) rfl ⟨rfl, by decide, by decide⟩ K14.gl_ok K14.nd_ok K14.glx_ok K14.crs_ok K14.crb_ok K14.chk_ok K14.bnd_ok rfl rfl rfl ?Q (names := K14.lams) (fun w h Y => PySem.W.km_in_of Y) ?F K14.law_run
  case Q => decide +kernel
  case F =>
    intro w mg fa h KX G hmg
    refine' K14.all_mk ?ve_a0 ?ve_l0 ?ve_c0 ?ve_k0 ?ve_a1 ?ve_l1 ?ve_c1 ?ve_k1 ?ve_a2 ?ve_l2 ?ve_c2 ?ve_k2 ?ve_a3 ?ve_l3 ?ve_c3 ?ve_k3 ?ve_a4 ?ve_l4 ?ve_c4 ?ve_k4 ?ve_a5 ?ve_l5 ?ve_c5 ?ve_k5 ?ve_a6 ?ve_l6 ?ve_c6 ?ve_k6 ?ve_a7 ?ve_l7 ?ve_c7 ?ve_k7 ?ve_a8 ?ve_l8 ?ve_c8 ?ve_k8 ?ve_a9 ?ve_l9 ?ve_c9 ?ve_k9 ?ve_a10 ?ve_l10 ?ve_c10 ?ve_k10 ?ve_a11 ?ve_l11 ?ve_c11 ?ve_k11 ?ve_a12 ?ve_l12 ?ve_c12 ?ve_k12 ?ve_a13 ?ve_l13 ?ve_c13 ?ve_k13 ?ve_a14 ?ve_l14 ?ve_c14 ?ve_k14 ?ve_a15 ?ve_l15 ?ve_c15 ?ve_k15 ?ve_a16 ?ve_l16 ?ve_c16 ?ve_k16 ?ve_a17 ?ve_l17 ?ve_c17 ?ve_k17 ?ve_g0 ?ve_g1 ?ve_g2 ?ve_z0 ?ve_z1 ?ve_z2 ?ve_z3 ?ve_z4 ?ve_z5 ?ve_z6 ?ve_z7 ?ve_z8 ?ve_z9 ?ve_z10 ?ve_z11 ?ve_z12 ?ve_hB1 ?ve_hB2 ?ve_hB3 ?ve_hB4 ?ve_hB5 ?ve_hB6 ?ve_xa0 ?ve_xl0 ?ve_xs0 ?ve_xg0 ?ve_xh0 ?ve_xn0 ?ve_xi0 ?ve_xt0 ?ve_xf0 ?ve_xc0 ?ve_xj0 ?ve_xk0 ?ve_xe0 ?ve_xy0 ?ve_xd0 ?ve_xz0 ?ve_xb0 ?ve_xa1 ?ve_xl1 ?ve_xs1 ?ve_xg1 ?ve_xh1 ?ve_xn1 ?ve_xi1 ?ve_xt1 ?ve_xf1 ?ve_xc1 ?ve_xj1 ?ve_xk1 ?ve_xe1 ?ve_xy1 ?ve_xd1 ?ve_xz1 ?ve_xb1 ?ve_xa2 ?ve_xl2 ?ve_xs2 ?ve_xg2 ?ve_xh2 ?ve_xn2 ?ve_xi2 ?ve_xt2 ?ve_xf2 ?ve_xc2 ?ve_xj2 ?ve_xk2 ?ve_xe2 ?ve_xy2 ?ve_xd2 ?ve_xz2 ?ve_xb2 ?ve_q0_0 ?ve_q0_1 ?ve_q0_2 ?ve_q1_0 ?ve_q1_1 ?ve_q1_2 ?ve_q2_0 ?ve_q2_1 ?ve_q2_2 ?ve_le0 ?ve_lk0 ?ve_lt0 ?ve_ln0 ?ve_le1 ?ve_lk1 ?ve_lt1 ?ve_ln1 ?ve_lk
    (case ve_a0 => k_is)
    (case ve_l0 => k_is)
    (case ve_c0 => k_is)
    (case ve_k0 => k_is)
    (case ve_a1 => k_is)
    (case ve_l1 => k_is)
    (case ve_c1 => k_is)
    (case ve_k1 => k_is)
    (case ve_a2 => k_is)
    (case ve_l2 => k_is)
    (case ve_c2 => k_is)
    (case ve_k2 => k_is)
    (case ve_a3 => k_is)
    (case ve_l3 => k_is)
    (case ve_c3 => k_is)
    (case ve_k3 => k_is)
    (case ve_a4 => k_is)
    (case ve_l4 => k_is)
    (case ve_c4 => k_is)
    (case ve_k4 => k_is)
    (case ve_a5 => k_is)
    (case ve_l5 => k_is)
    (case ve_c5 => k_is)
    (case ve_k5 => k_is)
    (case ve_a6 => k_is)
    (case ve_l6 => k_is)
    (case ve_c6 => k_is)
    (case ve_k6 => k_is)
    (case ve_a7 => k_is)
    (case ve_l7 => k_is)
    (case ve_c7 => k_is)
    (case ve_k7 => k_is)
    (case ve_a8 => k_is)
    (case ve_l8 => k_is)
    (case ve_c8 => k_is)
    (case ve_k8 => k_is)
    (case ve_a9 => k_is)
    (case ve_l9 => k_is)
    (case ve_c9 => k_is)
    (case ve_k9 => k_is)
    (case ve_a10 => k_is)
    (case ve_l10 => k_is)
    (case ve_c10 => k_is)
    (case ve_k10 => k_is)
    (case ve_a11 => k_is)
    (case ve_l11 => k_is)
    (case ve_c11 => k_is)
    (case ve_k11 => k_is)
    (case ve_a12 => k_is)
    (case ve_l12 => k_is)
    (case ve_c12 => k_is)
    (case ve_k12 => k_is)
    (case ve_a13 => k_is)
    (case ve_l13 => k_is)
    (case ve_c13 => k_is)
    (case ve_k13 => k_is)
    (case ve_a14 => k_is)
    (case ve_l14 => k_is)
    (case ve_c14 => k_is)
    (case ve_k14 => k_is)
    (case ve_a15 => k_is)
    (case ve_l15 => k_is)
    (case ve_c15 => k_is)
    (case ve_k15 => k_is)
    (case ve_a16 => k_is)
    (case ve_l16 => k_is)
    (case ve_c16 => k_is)
    (case ve_k16 => k_is)
    (case ve_a17 => k_is)
    (case ve_l17 => k_is)
    (case ve_c17 => k_is)
    (case ve_k17 => k_is)
    (case ve_g0 => k_is)
    (case ve_g1 => k_is)
    (case ve_g2 => k_is)
    (case ve_z0 => k_is)
    (case ve_z1 => k_is)
    (case ve_z2 => k_is)
    (case ve_z3 => k_is)
    (case ve_z4 => k_is)
    (case ve_z5 => k_is)
    (case ve_z6 => k_is)
    (case ve_z7 => k_is)
    (case ve_z8 => k_is)
    (case ve_z9 => k_is)
    (case ve_z10 => k_is)
    (case ve_z11 => k_is)
    (case ve_z12 => k_is)
    (case ve_hB1 => k_is)
    (case ve_hB2 => k_is)
    (case ve_hB3 => k_is)
    (case ve_hB4 => k_is)
    (case ve_hB5 => k_is)
    (case ve_hB6 => k_is)
    (case ve_xa0 => k_is)
    (case ve_xl0 => k_is)
    (case ve_xs0 => k_is)
    (case ve_xg0 => k_is)
    (case ve_xh0 => k_is)
    (case ve_xn0 => k_is)
    (case ve_xi0 => k_is)
    (case ve_xt0 => k_is)
    (case ve_xf0 => k_is)
    (case ve_xc0 => k_is)
    (case ve_xj0 => k_is)
    (case ve_xk0 => k_is)
    (case ve_xe0 => k_is)
    (case ve_xy0 => k_is)
    (case ve_xd0 => k_is)
    (case ve_xz0 => k_is)
    (case ve_xb0 => k_is)
    (case ve_xa1 => k_is)
    (case ve_xl1 => k_is)
    (case ve_xs1 => k_is)
    (case ve_xg1 => k_is)
    (case ve_xh1 => k_is)
    (case ve_xn1 => k_is)
    (case ve_xi1 => k_is)
    (case ve_xt1 => k_is)
    (case ve_xf1 => k_is)
    (case ve_xc1 => k_is)
    (case ve_xj1 => k_is)
    (case ve_xk1 => k_is)
    (case ve_xe1 => k_is)
    (case ve_xy1 => k_is)
    (case ve_xd1 => k_is)
    (case ve_xz1 => k_is)
    (case ve_xb1 => k_is)
    (case ve_xa2 => k_is)
    (case ve_xl2 => k_is)
    (case ve_xs2 => k_is)
    (case ve_xg2 => k_is)
    (case ve_xh2 => k_is)
    (case ve_xn2 => k_is)
    (case ve_xi2 => k_is)
    (case ve_xt2 => k_is)
    (case ve_xf2 => k_is)
    (case ve_xc2 => k_is)
    (case ve_xj2 => k_is)
    (case ve_xk2 => k_is)
    (case ve_xe2 => k_is)
    (case ve_xy2 => k_is)
    (case ve_xd2 => k_is)
    (case ve_xz2 => k_is)
    (case ve_xb2 => k_is)
    (case ve_q0_0 => k_is)
    (case ve_q0_1 => k_is)
    (case ve_q0_2 => k_is)
    (case ve_q1_0 => k_is)
    (case ve_q1_1 => k_is)
    (case ve_q1_2 => k_is)
    (case ve_q2_0 => k_is)
    (case ve_q2_1 => k_is)
    (case ve_q2_2 => k_is)
    (case ve_le0 => exact rfl)
    (case ve_lk0 => k_is)
    (case ve_lt0 => exact rfl)
    (case ve_ln0 => kernel_rfl)
    (case ve_le1 => exact rfl)
    (case ve_lk1 => k_is)
    (case ve_lt1 => exact rfl)
    (case ve_ln1 => kernel_rfl)
    (case ve_lk => kernel_rfl)

end
